import PyProof.Rows.All
import Wide.All
import OpenK.AllK
import Wide.FinOn
import HandS.ForMost
import HandS.ForExc
import HandS.DictComp
import HandS.TupAny
import HandS.IsInst
import HandS.Conv
import HandS.More
import HandS.SetFor
import KE.SortData
import KE.DataMinMax
import KE.DataCmp
import PyProof.TupleOfSeq
import KE.GoesEnum
import KE.GoesMore
import HandS.Small
import HandS.WideBits
import PySem.Challenge.RW_shavenets_k48_whole_stones
set_option Elab.async false
set_option linter.all false
set_option maxRecDepth 100000
set_option maxHeartbeats 4000000
/-! SMath -/
/-! Plain mathematics of the law (no program in sight): points, lots, joined parts, fine lots, worths, all lots in mask order. -/
namespace SM
open Classical

/-! ### ascending lists of points -/
abbrev Lot := List Int
def Asc (l : List Int) : Prop := l.Pairwise (· < ·)
def pts (n : Nat) : List Int := (List.range n).map fun k : Nat => (k : Int)
theorem mem_pts {n : Nat} {x : Int} : x ∈ pts n ↔ 0 ≤ x ∧ x < (n : Int) := by
  unfold pts
  rw [List.mem_map]
  constructor
  · rintro ⟨k, hk, rfl⟩
    have := List.mem_range.mp hk
    omega
  · rintro ⟨h1, h2⟩
    exact ⟨x.toNat, List.mem_range.mpr (by omega), by omega⟩
theorem len_pts (n : Nat) : (pts n).length = n := by simp [pts]
theorem pts_get {n i : Nat} (h : i < n) : (pts n)[i]? = some (i : Int) := by
  unfold pts
  rw [List.getElem?_map, List.getElem?_range h]
  rfl
theorem pts_succ (n : Nat) : pts (n + 1) = pts n ++ [(n : Int)] := by
  unfold pts
  rw [List.range_succ, List.map_append]
  rfl
theorem asc_pts (n : Nat) : Asc (pts n) := by
  unfold Asc pts
  rw [List.pairwise_map]
  exact List.Pairwise.imp (fun h => by omega) (List.pairwise_lt_range (n := n))
theorem Asc.nodup {l : List Int} (h : Asc l) : l.Nodup := List.Pairwise.imp (fun h => by omega) h
theorem Asc.filter {l : List Int} (p : Int → Bool) (h : Asc l) : Asc (l.filter p) := List.Pairwise.filter p h
theorem asc_of_le {l : List Int} (h : l.Pairwise (· ≤ ·)) (nd : l.Nodup) : Asc l := by
  unfold Asc
  have := List.Pairwise.and h nd
  exact List.Pairwise.imp (fun h => by omega) this
theorem asc_ext {l m : List Int} (hl : Asc l) (hm : Asc m) (h : ∀ x, x ∈ l ↔ x ∈ m) : l = m := by
  have p : l.Perm m := (List.perm_ext_iff_of_nodup hl.nodup hm.nodup).mpr h
  exact List.Perm.eq_of_pairwise (le := fun a b => a < b) (fun a b _ _ h1 h2 => by omega) hl hm p
theorem nodup_len {n : Nat} {l : List Int} (h : l.Nodup) (r : ∀ x ∈ l, 0 ≤ x ∧ x < (n : Int)) : l.length ≤ n := by
  have := List.Nodup.length_le_of_subset (l₂ := pts n) h fun x hx => mem_pts.mpr (r x hx)
  rw [len_pts] at this
  exact this
/-- a sorted arrangement of points without doubles is the one -/
theorem sorted_is {l m s : List Int} (hp : s.Perm l) (hs : s.Pairwise (· ≤ ·)) (nd : l.Nodup) (hm : Asc m) (h : ∀ x, x ∈ m ↔ x ∈ l) : s = m :=
  asc_ext (asc_of_le hs (hp.nodup_iff.mpr nd)) hm fun x => (hp.mem_iff).trans (h x).symm
/-- a lot: ascending, of points below n -/
structure IsLot (n : Nat) (l : List Int) : Prop where
  asc : Asc l
  rng : ∀ x ∈ l, 0 ≤ x ∧ x < (n : Int)
theorem IsLot.len {n : Nat} {l : List Int} (h : IsLot n l) : l.length ≤ n := nodup_len h.asc.nodup h.rng
theorem isLot_nil (n : Nat) : IsLot n [] := ⟨List.Pairwise.nil, fun x hx => by cases hx⟩
theorem isLot_filter (n : Nat) (p : Int → Bool) : IsLot n ((pts n).filter p) := ⟨(asc_pts n).filter p, fun x hx => mem_pts.mp (List.mem_filter.mp hx).1⟩
theorem IsLot.full {n : Nat} {l : List Int} (h : IsLot n l) (e : n ≤ l.length) : ∀ x, 0 ≤ x → x < (n : Int) → x ∈ l := by
  intro x h1 h2
  by_cases hx : x ∈ l
  · exact hx
  · have nd : (x :: l).Nodup := List.nodup_cons.mpr ⟨hx, h.asc.nodup⟩
    have := nodup_len (n := n) nd fun y hy => by
      rcases List.mem_cons.mp hy with rfl | hy
      · exact ⟨h1, h2⟩
      · exact h.rng y hy
    rw [List.length_cons] at this
    omega

/-! ### one point more -/
def ins (p : Int) : List Int → List Int
  | [] => [p]
  | x :: r => if p < x then p :: x :: r else x :: ins p r
theorem perm_ins (p : Int) : ∀ l : List Int, (ins p l).Perm (p :: l)
  | [] => List.Perm.refl _
  | x :: r => by
    unfold ins
    split
    · exact List.Perm.refl _
    · exact (List.Perm.cons x (perm_ins p r)).trans (List.Perm.swap p x r)
theorem mem_ins {p x : Int} {l : List Int} : x ∈ ins p l ↔ x ∈ l ∨ x = p := by
  rw [(perm_ins p l).mem_iff, List.mem_cons, or_comm]
theorem len_ins (p : Int) (l : List Int) : (ins p l).length = l.length + 1 := by rw [(perm_ins p l).length_eq, List.length_cons]
theorem asc_ins {p : Int} : ∀ {l : List Int}, Asc l → p ∉ l → Asc (ins p l)
  | [], _, _ => List.pairwise_singleton _ _
  | x :: r, h, hp => by
    obtain ⟨h1, h2⟩ := List.pairwise_cons.mp h
    unfold ins
    split
    · rename_i c
      refine List.pairwise_cons.mpr ⟨fun y hy => ?_, h⟩
      rcases List.mem_cons.mp hy with rfl | hy
      · exact c
      · exact Int.lt_trans c (h1 y hy)
    · rename_i c
      have hx : p ≠ x := fun e => hp (e ▸ List.mem_cons_self)
      refine List.pairwise_cons.mpr ⟨fun y hy => ?_, asc_ins h2 fun m => hp (List.mem_cons_of_mem _ m)⟩
      rcases mem_ins.mp hy with hy | rfl
      · exact h1 y hy
      · omega
theorem IsLot.ins {n : Nat} {l : List Int} {p : Int} (h : IsLot n l) (hp : p ∉ l) (h0 : 0 ≤ p) (h1 : p < (n : Int)) : IsLot n (SM.ins p l) :=
  ⟨asc_ins h.asc hp, fun x hx => by
    rcases mem_ins.mp hx with hx | rfl
    · exact h.rng x hx
    · exact ⟨h0, h1⟩⟩
/-- a sorted arrangement of a lot and one point more -/
theorem sorted_ins {l s : List Int} {p : Int} (hp : s.Perm (l ++ [p])) (hs : s.Pairwise (· ≤ ·)) (hl : Asc l) (hn : p ∉ l) : s = ins p l := by
  have nd : (l ++ [p]).Nodup := by
    refine (List.Perm.nodup_iff ?_).mp (asc_ins hl hn).nodup
    exact (perm_ins p l).trans (List.perm_append_comm (l₁ := [p]) (l₂ := l))
  refine sorted_is hp hs nd (asc_ins hl hn) fun x => ?_
  rw [mem_ins, List.mem_append, List.mem_singleton]

/-! ### nets: near lists, joined parts -/
/-- the near lists of a net of n points -/
structure Near (n : Nat) (L : List (List Int)) : Prop where
  len : L.length = n
  nd : ∀ l ∈ L, l.Nodup
  rng : ∀ l ∈ L, ∀ u ∈ l, 0 ≤ u ∧ u < (n : Int)
  sym : ∀ a b : Int, 0 ≤ a → 0 ≤ b → b ∈ L.getD a.toNat [] → a ∈ L.getD b.toNat []
def nb (L : List (List Int)) (a : Int) : List Int := L.getD a.toNat []
theorem nb_mem {L : List (List Int)} {a u : Int} (h : u ∈ nb L a) : ∃ l ∈ L, u ∈ l ∧ nb L a = l := by
  unfold nb at h ⊢
  rw [List.getD_eq_getElem?_getD] at h ⊢
  cases e : L[a.toNat]? with
  | none => rw [e] at h; simp at h
  | some l =>
    rw [e] at h
    exact ⟨l, List.mem_of_getElem? e, h, rfl⟩
theorem Near.nb_rng {n : Nat} {L : List (List Int)} (N : Near n L) {a u : Int} (h : u ∈ nb L a) : 0 ≤ u ∧ u < (n : Int) := by
  obtain ⟨l, hl, hu, _⟩ := nb_mem h
  exact N.rng l hl u hu
theorem Near.nb_nd {n : Nat} {L : List (List Int)} (N : Near n L) (a : Int) : (nb L a).Nodup := by
  unfold nb
  rw [List.getD_eq_getElem?_getD]
  cases e : L[a.toNat]? with
  | none => exact List.nodup_nil
  | some l => exact N.nd l (List.mem_of_getElem? e)
/-- joined within S -/
inductive Conn (L : List (List Int)) (S : Int → Prop) (a : Int) : Int → Prop where
  | refl : Conn L S a a
  | step {b c : Int} (h : Conn L S a b) (hc : c ∈ nb L b) (hS : S c) : Conn L S a c
section
variable {n : Nat} {L : List (List Int)} {S T : Int → Prop} {a b c : Int}
theorem Conn.mono (h : Conn L S a b) (hST : ∀ x, S x → T x) : Conn L T a b := by
  induction h with
  | refl => exact .refl
  | step _ hc hS ih => exact .step ih hc (hST _ hS)
theorem Conn.trans (h : Conn L S a b) (h' : Conn L S b c) : Conn L S a c := by
  induction h' with
  | refl => exact h
  | step _ hc hS ih => exact .step ih hc hS
theorem Conn.inS (h : Conn L S a b) (ha : S a) : S b := by
  cases h with
  | refl => exact ha
  | step _ _ hS => exact hS
theorem Conn.symm (N : Near n L) (hS : ∀ x, S x → 0 ≤ x) (h : Conn L S a b) (ha : S a) : Conn L S b a := by
  induction h with
  | refl => exact .refl
  | step h hc hSc ih =>
    have hb := h.inS ha
    have e : _ := N.sym _ _ (hS _ hb) (hS _ hSc) hc
    exact Conn.trans (.step .refl e hb) ih
/-- the joined part of a within S -/
noncomputable def comp (n : Nat) (L : List (List Int)) (S : Int → Prop) (a : Int) : List Int := (pts n).filter fun b => decide (Conn L S a b)
theorem mem_comp : b ∈ comp n L S a ↔ (0 ≤ b ∧ b < (n : Int)) ∧ Conn L S a b := by
  unfold comp
  rw [List.mem_filter, mem_pts, decide_eq_true_iff]
theorem isLot_comp : IsLot n (comp n L S a) := isLot_filter n _
theorem comp_congr (h : ∀ x, S x ↔ T x) : comp n L S a = comp n L T a := by
  have e : S = T := funext fun x => propext (h x)
  rw [e]
theorem comp_same (N : Near n L) (hS : ∀ x, S x → 0 ≤ x) (ha : S a) (h : b ∈ comp n L S a) : comp n L S b = comp n L S a := by
  have hab := (mem_comp.mp h).2
  refine asc_ext isLot_comp.asc isLot_comp.asc fun x => ?_
  rw [mem_comp, mem_comp]
  exact and_congr_right fun _ => ⟨fun q => hab.trans q, fun q => (hab.symm N hS ha).trans q⟩
theorem self_comp (h0 : 0 ≤ a) (h1 : a < (n : Int)) : a ∈ comp n L S a := mem_comp.mpr ⟨⟨h0, h1⟩, .refl⟩
end

/-! ### the search: found F, rim R -/
structure Dfs (n : Nat) (L : List (List Int)) (K : Int → Prop) (a : Int) (F R : List Int) : Prop where
  nd : F.Nodup
  sub : ∀ x ∈ R, x ∈ F
  start : a ∈ F
  sound : ∀ x ∈ F, Conn L K a x
  rng : ∀ x ∈ F, 0 ≤ x ∧ x < (n : Int)
  closed : ∀ x ∈ F, x ∉ R → ∀ y ∈ nb L x, K y → y ∈ F
section
variable {n : Nat} {L : List (List Int)} {K : Int → Prop} {a h : Int} {F R : List Int}
theorem Dfs.init (h0 : 0 ≤ a) (h1 : a < (n : Int)) : Dfs n L K a [a] [a] where
  nd := by simp
  sub := fun x hx => hx
  start := by simp
  sound := fun x hx => by
    have e : x = a := by simpa using hx
    rw [e]
    exact .refl
  rng := fun x hx => by
    have e : x = a := by simpa using hx
    rw [e]
    exact ⟨h0, h1⟩
  closed := fun x hx hn => absurd hx hn
noncomputable def fresh (L : List (List Int)) (K : Int → Prop) (F : List Int) (h : Int) : List Int := (nb L h).filter fun y => decide (K y ∧ y ∉ F)
theorem mem_fresh {y : Int} : y ∈ fresh L K F h ↔ y ∈ nb L h ∧ K y ∧ y ∉ F := by
  unfold fresh
  rw [List.mem_filter, decide_eq_true_iff]
theorem Dfs.nd_fresh (N : Near n L) (D : Dfs n L K a F R) : (F ++ fresh L K F h).Nodup := by
  refine List.nodup_append.mpr ⟨D.nd, (N.nb_nd h).filter _, fun x hx y hy e => ?_⟩
  subst e
  exact (mem_fresh.mp hy).2.2 hx
theorem Dfs.step (N : Near n L) (D : Dfs n L K a F (R ++ [h])) : Dfs n L K a (F ++ fresh L K F h) (R ++ fresh L K F h) where
  nd := D.nd_fresh N
  sub := fun x hx => by
    rcases List.mem_append.mp hx with hx | hx
    · exact List.mem_append_left _ (D.sub x (List.mem_append_left _ hx))
    · exact List.mem_append_right _ hx
  start := List.mem_append_left _ D.start
  sound := fun x hx => by
    rcases List.mem_append.mp hx with hx | hx
    · exact D.sound x hx
    · obtain ⟨h1, h2, _⟩ := mem_fresh.mp hx
      exact .step (D.sound h (D.sub h (by simp))) h1 h2
  rng := fun x hx => by
    rcases List.mem_append.mp hx with hx | hx
    · exact D.rng x hx
    · exact N.nb_rng (mem_fresh.mp hx).1
  closed := fun x hx hn y hy hK => by
    by_cases hF : y ∈ F
    · exact List.mem_append_left _ hF
    · rcases List.mem_append.mp hx with hx | hx
      · by_cases e : x = h
        · subst e
          exact List.mem_append_right _ (mem_fresh.mpr ⟨hy, hK, hF⟩)
        · refine absurd (D.closed x hx (fun m => ?_) y hy hK) hF
          rcases List.mem_append.mp m with m | m
          · exact hn (List.mem_append_left _ m)
          · exact e (by simpa using m)
      · exact absurd (List.mem_append_right _ hx) hn
theorem Dfs.done (D : Dfs n L K a F []) {x : Int} (hx : Conn L K a x) : x ∈ F := by
  induction hx with
  | refl => exact D.start
  | step _ hc hS ih => exact D.closed _ ih (by simp) _ hc hS
theorem Dfs.sorted (D : Dfs n L K a F []) {s : List Int} (hp : s.Perm F) (hs : s.Pairwise (· ≤ ·)) : s = comp n L K a := by
  refine sorted_is hp hs D.nd isLot_comp.asc fun x => ?_
  rw [mem_comp]
  exact ⟨fun q => D.done q.2, fun q => ⟨D.rng x q, D.sound x q⟩⟩
theorem Dfs.len (D : Dfs n L K a F R) : F.length ≤ n := nodup_len D.nd D.rng
end

/-! ### fine lots -/
section
variable {n : Nat} {L : List (List Int)} {most p q : Int} {l : List Int}
/-- the joined part of a stone -/
noncomputable def part (n : Nat) (L : List (List Int)) (l : List Int) (a : Int) : List Int := comp n L (fun x => x ∈ l) a
def Fine (n : Nat) (L : List (List Int)) (most : Int) (l : List Int) : Prop := ∀ x ∈ l, ((part n L l x).length : Int) ≤ most
theorem fine_nil : Fine n L most [] := fun x hx => by cases hx
/-- a stone more: only its own part counts -/
theorem fine_ins (N : Near n L) (hl : IsLot n l) (hp : p ∉ l) (h0 : 0 ≤ p) (h1 : p < (n : Int)) (hf : Fine n L most l) :
    Fine n L most (ins p l) ↔ ((part n L (ins p l) p).length : Int) ≤ most := by
  refine ⟨fun h => h p (mem_ins.mpr (.inr rfl)), fun h x hx => ?_⟩
  have hI : IsLot n (ins p l) := hl.ins hp h0 h1
  have hS : ∀ y, y ∈ ins p l → 0 ≤ y := fun y hy => (hI.rng y hy).1
  by_cases c : x ∈ part n L (ins p l) p
  · have e : part n L (ins p l) x = part n L (ins p l) p := comp_same N hS (mem_ins.mpr (.inr rfl)) c
    rw [e]
    exact h
  · have hxl : x ∈ l := by
      rcases mem_ins.mp hx with hx | rfl
      · exact hx
      · exact absurd (self_comp h0 h1) c
    have hxr := hl.rng x hxl
    have key : ∀ y, Conn L (fun z => z ∈ ins p l) x y → Conn L (fun z => z ∈ l) x y ∧ y ∈ l := by
      intro y hy
      induction hy with
      | refl => exact ⟨.refl, hxl⟩
      | step hb hc hS' ih =>
        rename_i b z
        have hz : z ∈ l := by
          rcases mem_ins.mp hS' with hz | rfl
          · exact hz
          · exfalso
            apply c
            have hz : Conn L (fun w => w ∈ ins z l) x z := .step hb hc hS'
            exact mem_comp.mpr ⟨hxr, hz.symm N hS hx⟩
        exact ⟨.step ih.1 hc hz, hz⟩
    have e : part n L (ins p l) x = part n L l x := by
      refine asc_ext isLot_comp.asc isLot_comp.asc fun y => ?_
      unfold part
      rw [mem_comp, mem_comp]
      exact and_congr_right fun _ => ⟨fun q => (key y q).1, fun q => q.mono fun z hz => mem_ins.mpr (.inl hz)⟩
    rw [e]
    exact hf x hxl
/-- by a list of parts that covers the lot -/
theorem fine_parts {PL : List (List Int)} (h1 : ∀ P ∈ PL, ∃ r ∈ l, P = part n L l r) (h2 : ∀ x ∈ l, part n L l x ∈ PL) :
    (PL.filter fun P => decide ((P.length : Int) > most)) = [] ↔ Fine n L most l := by
  rw [List.filter_eq_nil_iff]
  constructor
  · intro h x hx
    have := h _ (h2 x hx)
    simp only [decide_eq_true_eq] at this
    omega
  · intro h P hP
    obtain ⟨r, hr, rfl⟩ := h1 P hP
    have := h r hr
    simp only [decide_eq_true_eq]
    omega
/-- the points on which a stone may be put -/
noncomputable def free (n : Nat) (L : List (List Int)) (most : Int) (l : List Int) : List Int := (pts n).filter fun p => decide (p ∉ l ∧ Fine n L most (ins p l))
theorem mem_free : p ∈ free n L most l ↔ (0 ≤ p ∧ p < (n : Int)) ∧ p ∉ l ∧ Fine n L most (ins p l) := by
  unfold free
  rw [List.mem_filter, mem_pts, decide_eq_true_iff]
end

/-! ### the least number that is none of a list's -/
def mexFrom (l : List Nat) : Nat → Nat → Nat
  | 0, k => k
  | f + 1, k => if k ∈ l then mexFrom l f (k + 1) else k
def mex (l : List Nat) : Nat := mexFrom l l.length 0
theorem all_below {l : List Nat} {m : Nat} (h : ∀ j, j < m → j ∈ l) : m ≤ l.length := by
  have := List.Nodup.length_le_of_subset (l₁ := List.range m) (l₂ := l) List.nodup_range fun j hj => h j (List.mem_range.mp hj)
  rw [List.length_range] at this
  exact this
theorem mexFrom_spec {l : List Nat} : ∀ (f k : Nat), (∀ j, j < k → j ∈ l) → k + f = l.length → (mexFrom l f k ∉ l ∧ ∀ j, j < mexFrom l f k → j ∈ l)
  | 0, k, h, e => by
    unfold mexFrom
    refine ⟨fun m => ?_, h⟩
    have := all_below (l := l) (m := k + 1) fun j hj => by
      by_cases q : j = k
      · rw [q]
        exact m
      · exact h j (by omega)
    omega
  | f + 1, k, h, e => by
    unfold mexFrom
    split
    · rename_i c
      exact mexFrom_spec f (k + 1) (fun j hj => by
        by_cases q : j = k
        · rw [q]
          exact c
        · exact h j (by omega)) (by omega)
    · rename_i c
      exact ⟨c, h⟩
theorem mex_not {l : List Nat} : mex l ∉ l := (mexFrom_spec l.length 0 (fun j hj => by omega) (by omega)).1
theorem mex_below {l : List Nat} {j : Nat} (h : j < mex l) : j ∈ l := (mexFrom_spec l.length 0 (fun j hj => by omega) (by omega)).2 j h
theorem mex_le (l : List Nat) : mex l ≤ l.length := all_below fun _ h => mex_below h
theorem mex_unique {l : List Nat} {m : Nat} (h1 : m ∉ l) (h2 : ∀ j, j < m → j ∈ l) : m = mex l := by
  rcases Nat.lt_trichotomy m (mex l) with h | h | h
  · exact absurd (mex_below h) h1
  · exact h
  · exact absurd (h2 _ h) mex_not

/-! ### worths -/
noncomputable def W (n : Nat) (L : List (List Int)) (most : Int) : Nat → List Int → Nat
  | 0, _ => 0
  | k + 1, l => mex ((free n L most l).map fun p => W n L most k (ins p l))
noncomputable def worth (n : Nat) (L : List (List Int)) (most : Int) (l : List Int) : Nat := W n L most (n - l.length) l
theorem worth_eq {n : Nat} {L : List (List Int)} {most : Int} {l : List Int} (hl : IsLot n l) : worth n L most l = mex ((free n L most l).map fun p => worth n L most (ins p l)) := by
  unfold worth
  cases e : n - l.length with
  | zero =>
    have hf : free n L most l = [] := by
      unfold free
      rw [List.filter_eq_nil_iff]
      intro p hp
      have hr := mem_pts.mp hp
      have := hl.full (by omega) p hr.1 hr.2
      simp [this]
    rw [hf]
    rfl
  | succ k =>
    show mex ((free n L most l).map fun p => W n L most k (ins p l)) = _
    refine congrArg mex (List.map_congr_left fun p hp => ?_)
    rw [len_ins]
    have e2 : n - (l.length + 1) = k := by omega
    rw [e2]
theorem worth_le {n : Nat} {L : List (List Int)} {most : Int} {l : List Int} (hl : IsLot n l) : worth n L most l ≤ n := by
  rw [worth_eq hl]
  refine Nat.le_trans (mex_le _) ?_
  rw [List.length_map]
  unfold free
  refine Nat.le_trans (List.length_filter_le _ _) ?_
  rw [len_pts]
  exact Nat.le_refl _

/-! ### all lots, in the order of their masks -/
def sets : Nat → List (List Int)
  | 0 => [[]]
  | k + 1 => sets k ++ (sets k).map fun l => l ++ [(k : Int)]
theorem sets_len : ∀ n : Nat, (sets n).length = 2 ^ n
  | 0 => rfl
  | k + 1 => by
    unfold sets
    rw [List.length_append, List.length_map, sets_len k, Nat.pow_succ]
    omega
theorem asc_snoc {l : List Int} {k : Int} (h : Asc l) (hk : ∀ x ∈ l, x < k) : Asc (l ++ [k]) := by
  unfold Asc
  rw [List.pairwise_append]
  refine ⟨h, List.pairwise_singleton _ _, fun x hx y hy => ?_⟩
  have e : y = k := by simpa using hy
  rw [e]
  exact hk x hx
theorem sets_lot : ∀ {n : Nat} {l : List Int}, l ∈ sets n → IsLot n l
  | 0, l, h => by
    have e : l = [] := by simpa [sets] using h
    rw [e]
    exact isLot_nil 0
  | k + 1, l, h => by
    unfold sets at h
    rcases List.mem_append.mp h with h | h
    · have q := sets_lot h
      exact ⟨q.asc, fun x hx => by have := q.rng x hx; omega⟩
    · obtain ⟨m, hm, rfl⟩ := List.mem_map.mp h
      have q := sets_lot hm
      refine ⟨asc_snoc q.asc fun x hx => (q.rng x hx).2, fun x hx => ?_⟩
      rcases List.mem_append.mp hx with hx | hx
      · have := q.rng x hx
        omega
      · have e : x = (k : Int) := by simpa using hx
        omega
theorem lot_sets : ∀ {n : Nat} {l : List Int}, IsLot n l → l ∈ sets n
  | 0, l, h => by
    cases l with
    | nil => simp [sets]
    | cons x r =>
      have := h.rng x List.mem_cons_self
      omega
  | k + 1, l, h => by
    unfold sets
    by_cases c : (k : Int) ∈ l
    · refine List.mem_append_right _ (List.mem_map.mpr ⟨l.filter fun x => decide (x < (k : Int)), lot_sets ⟨h.asc.filter _, fun x hx => ?_⟩, ?_⟩)
      · obtain ⟨h1, h2⟩ := List.mem_filter.mp hx
        exact ⟨(h.rng x h1).1, of_decide_eq_true h2⟩
      · refine asc_ext (asc_snoc (h.asc.filter _) fun x hx => of_decide_eq_true (List.mem_filter.mp hx).2) h.asc fun x => ?_
        rw [List.mem_append, List.mem_filter, List.mem_singleton, decide_eq_true_iff]
        constructor
        · rintro (⟨h1, _⟩ | rfl)
          · exact h1
          · exact c
        · intro hx
          have := h.rng x hx
          by_cases e : x = (k : Int)
          · exact .inr e
          · exact .inl ⟨hx, by omega⟩
    · refine List.mem_append_left _ (lot_sets ⟨h.asc, fun x hx => ?_⟩)
      have := h.rng x hx
      refine ⟨this.1, ?_⟩
      have : x ≠ (k : Int) := fun e => c (e ▸ hx)
      omega
theorem mem_sets {n : Nat} {l : List Int} : l ∈ sets n ↔ IsLot n l := ⟨sets_lot, lot_sets⟩
/-- the lot of a mask -/
def lotOf (n m : Nat) : List Int := (pts n).filter fun k => decide (m / 2 ^ k.toNat % 2 = 1)
theorem lotOf_succ (n m : Nat) : lotOf (n + 1) m = lotOf n m ++ (if m / 2 ^ n % 2 = 1 then [(n : Int)] else []) := by
  unfold lotOf
  rw [pts_succ, List.filter_append]
  congr 1
  by_cases c : m / 2 ^ n % 2 = 1
  · rw [if_pos c]
    simp [c]
  · rw [if_neg c]
    simp [c]
theorem lotOf_high {n m : Nat} : lotOf n (m + 2 ^ n) = lotOf n m := by
  unfold lotOf
  refine List.filter_congr fun k hk => ?_
  have hr := mem_pts.mp hk
  have hk2 : k.toNat < n := by omega
  obtain ⟨d, hd⟩ : ∃ d, n = k.toNat + 1 + d := ⟨n - k.toNat - 1, by omega⟩
  have e : 2 ^ n = 2 ^ k.toNat * (2 * 2 ^ d) := by
    rw [hd, Nat.pow_add, Nat.pow_add, Nat.pow_one, Nat.mul_assoc]
  have e2 : (m + 2 ^ n) / 2 ^ k.toNat = m / 2 ^ k.toNat + 2 * 2 ^ d := by
    rw [e, Nat.add_mul_div_left _ _ (Nat.two_pow_pos _)]
  have e3 : (m + 2 ^ n) / 2 ^ k.toNat % 2 = m / 2 ^ k.toNat % 2 := by
    rw [e2, Nat.add_mul_mod_self_left]
  rw [e3]
theorem sets_get : ∀ {n m : Nat}, m < 2 ^ n → (sets n)[m]? = some (lotOf n m)
  | 0, m, h => by
    have e : m = 0 := by
      rw [Nat.pow_zero] at h
      omega
    subst e
    rfl
  | k + 1, m, h => by
    unfold sets
    by_cases c : m < 2 ^ k
    · rw [List.getElem?_append_left (by rw [sets_len]; exact c), sets_get c, lotOf_succ]
      have e : m / 2 ^ k = 0 := Nat.div_eq_of_lt c
      rw [if_neg (by rw [e]; decide), List.append_nil]
    · obtain ⟨j, rfl⟩ : ∃ j, m = j + 2 ^ k := ⟨m - 2 ^ k, by omega⟩
      have hj : j < 2 ^ k := by
        rw [Nat.pow_succ] at h
        omega
      rw [List.getElem?_append_right (by rw [sets_len]; omega), sets_len, Nat.add_sub_cancel, List.getElem?_map, sets_get hj, lotOf_succ, lotOf_high]
      have e : (j + 2 ^ k) / 2 ^ k = 1 := by
        rw [Nat.add_div_right _ (Nat.two_pow_pos _), Nat.div_eq_of_lt hj]
      rw [if_pos (by rw [e])]
      rfl
end SM

/-! SRules -/
/-! Rules of the hand layer that the kit has not: the order of data, sorted and min over data, sorted of a tuple and of a dict with tuple keys, xs[i] += e. -/
namespace L2
open PySem PySem.Spec PyProof.Rows
open PySem.W (alike dataLt dataLe AllAlike Sortable EachIs)

/-! ### a < b, a <= b of data -/
section
variable {X : Cx}
def rLtDt (K : PySem.W.Frag) : R2 := fun x y H Q => ∃ d e, Dp K H x d ∧ Dp K H y e ∧ alike d e = true ∧ d ≠ .none ∧ d.depth ≤ 8 ∧ Q (.bl (dataLt d e)) H
def rLeDt (K : PySem.W.Frag) : R2 := fun x y H Q => ∃ d e, Dp K H x d ∧ Dp K H y e ∧ alike d e = true ∧ d ≠ .none ∧ d.depth ≤ 8 ∧ Q (.bl (!dataLt e d)) H
theorem op_ltDt (hu : X.A.units + 64 < cLine) : OpR X (compareOp .Lt) (rLtDt X.K) := by
  intro pins s σ H x y v u Q I rx ry h
  obtain ⟨d, e, hd, he, ha, hn, hz, q⟩ := h
  obtain ⟨as, r1⟩ := Dp.reads I d x v hd rx
  obtain ⟨bs, r2⟩ := Dp.reads I e y u he ry
  exact PySem.W.lt_data r1 r2 ha hn (Nat.lt_of_le_of_lt (Nat.add_le_add_left (Nat.le_trans (Nat.min_le_left _ _) (Nat.le_trans hz (by decide))) _) hu) ⟨.bl _, H, I, rfl, q⟩
theorem op_leDt (hu : X.A.units + 64 < cLine) : OpR X (compareOp .LtE) (rLeDt X.K) := by
  intro pins s σ H x y v u Q I rx ry h
  obtain ⟨d, e, hd, he, ha, hn, hz, q⟩ := h
  obtain ⟨as, r1⟩ := Dp.reads I d x v hd rx
  obtain ⟨bs, r2⟩ := Dp.reads I e y u he ry
  exact PySem.W.le_data r1 r2 ha hn (Nat.lt_of_le_of_lt (Nat.add_le_add_left (Nat.le_trans (Nat.min_le_left _ _) (Nat.le_trans hz (by decide))) _) hu) ⟨.bl _, H, I, rfl, q⟩
end

/-! ### sorted -/
mutual
theorem reads_lt {h : Heap} : ∀ (d : PyData) (v : Value) (as : List Addr), alike d d = true → Reads h v d as → ∀ x ∈ as, x < h.objs.size
  | .none, _, _, _, r => by cases r; intro x hx; cases hx
  | .bool _, _, _, _, r => by cases r; intro x hx; cases hx
  | .int _, _, _, _, r => by cases r; intro x hx; cases hx
  | .str _, _, _, _, r => by cases r; intro x hx; cases hx
  | .list xs, _, _, ha, r => by
    cases r with
    | list h1 h2 h3 h4 =>
      intro x hx
      rcases List.mem_cons.mp hx with rfl | hx
      · exact Heap.lt_size h1
      · exact readsAll_lt xs _ _ (by simpa [PySem.W.alike] using ha) h4 x hx
  | .tuple xs, _, _, ha, r => by
    cases r with
    | tuple h1 h2 h3 h4 => exact readsAll_lt xs _ _ (by simpa [PySem.W.alike] using ha) h4
  | .dict _, _, _, ha, _ => absurd ha (by simp [PySem.W.alike])
theorem readsAll_lt {h : Heap} : ∀ (ds : List PyData) (vs : List Value) (as : List Addr), PySem.W.alikeAll ds ds = true → ReadsAll h vs ds as → ∀ x ∈ as, x < h.objs.size
  | [], _, _, _, r => by cases r; intro x hx; cases hx
  | d :: ds, _, _, ha, r => by
    cases r with
    | cons h1 h2 =>
      intro x hx
      rcases List.mem_append.mp hx with hx | hx
      · exact reads_lt d _ _ (PySem.W.alike_all_cons ha).1 h1 x hx
      · exact readsAll_lt ds _ _ (PySem.W.alike_all_cons ha).2 h2 x hx
end
theorem each_of {R : V → Value → Prop} : ∀ {bs : List (V × PyData)} {vs : List Value}, Paired R (bs.map (·.1)) vs → EachIs (fun v (b : V × PyData) => R b.1 v) vs bs
  | [], _, h => by
    rw [List.map_nil] at h
    cases h
    exact .nil
  | b :: bs, _, h => by
    rw [List.map_cons] at h
    cases h with
    | cons r t => exact .cons r (each_of t)
theorem of_each : ∀ {bs : List (V × PyData)} {vs : List Value}, EachIs (fun v (b : V × PyData) => RelV b.1 v) vs bs → Vals (bs.map (·.1)) vs
  | _, _, .nil => .nil
  | _, _, .cons r t => .cons r (of_each t)
theorem each_and {α β : Type} {R S : α → β → Prop} : ∀ {as : List α} {bs : List β}, EachIs R as bs → (∀ a b, b ∈ bs → R a b → S a b) → EachIs S as bs
  | _, _, .nil, _ => .nil
  | _, _, .cons r t, f => .cons (f _ _ List.mem_cons_self r) (each_and t fun a b hb q => f a b (List.mem_cons_of_mem _ hb) q)
/-- the order of sorted, by the data -/
def dLe (b b' : V × PyData) : Bool := dataLe false (fun p : V × PyData => p.2) b b'
/-- what is asked of the items: xs is what the source holds -/
structure SortItems (K : PySem.W.Frag) (H : Hp) (bs : List (V × PyData)) : Prop where
  dp : ∀ b ∈ bs, Dp K H b.1 b.2
  al : AllAlike (bs.map (·.2))
  so : Sortable (bs.map (·.2))
  de : ∀ b ∈ bs, b.2.depth ≤ 8
  le : bs.length ≤ 1000
section
variable {X : Cx} {pins : List (Addr × Obj)} {σ : St} {H : Hp} {s : Shared}
theorem units_in1 {A : Around} : A.in1.units = A.units + 1 := by first | rfl | (unfold Around.in1 Around.units; rfl) | simp [Around.in1, Around.units]
/-- sorted over anything that is collected -/
theorem sorted_by {a : Addr} {bs : List (V × PyData)} {Q : VK} (I : Inv X pins σ H s) (hu : X.A.units + 64 < cLine)
    (hcol : ∀ (Q' : List Value → Shared → Prop) (E' : Value → Shared → Prop), (∀ h' tk vs, (∀ b o, s.heap.get? b = some o → h'.get? b = some o) → Vals (bs.map (·.1)) vs → Q' vs { s with heap := h', toks := tk }) → wpAny (model X.prog X.w) X.A.in1 (collect (.ref a)) Q' E' s)
    (T : SortItems X.K H bs) (q : ∀ p, H p = none → Q (.ref p) (upd H p (.lst ((bs.mergeSort dLe).map (·.1))))) :
    wpAny (model X.prog X.w) X.A (call (.builtin "sorted") [.ref a]) (EP X pins σ Q) X.xe s := by
  refine Calls.call_function_entry PyProof.Rows.kind_sorted PyProof.Rows.plain_sorted PyProof.Rows.entry_sorted (PyProof.Rows.args_sorted1 _) ?_
  unfold Builtin.«sorted»
  refine wpAny_bind (m := checkCount "sorted" 1 1 _) (wpAny_pure ?_)
  refine wpAny_bind (hcol _ _ fun h' tk acc hk rv => ?_)
  have hal : acc.length = bs.length := by rw [← rv.length, List.length_map]
  have hle : acc.length ≤ sizeLine := by rw [hal, sizeLine_eq]; have := T.le; omega
  have I1 : Inv X pins σ H { s with heap := h', toks := tk } := I.kept hk
  refine wpAny_bind (wpAny_newList ?_ hle)
  have hoL : (h'.push (seqObj "list" acc.toArray 0)).get? h'.objs.size = some (seqObj "list" acc.toArray 0) := Heap.get?_push_size _ rfl
  show wpAny _ _ _ _ _ { s with heap := h'.push (seqObj "list" acc.toArray 0), toks := tk }
  have e1 : EachIs (fun v (b : V × PyData) => RelV b.1 v) acc bs := each_of rv
  have er : EachIs (fun v (b : V × PyData) => ∃ as, Reads (h'.push (seqObj "list" acc.toArray 0)) v b.2 as ∧ h'.objs.size ∉ as) acc bs := each_and e1 fun v b hb r => by
    obtain ⟨as, rd⟩ := Dp.reads I1 b.2 b.1 v (T.dp b hb) r
    refine ⟨as, PyProof.Rows.Reads.keeps (fun c o hc => Heap.get?_push_of_some _ hc) rd, fun hm => ?_⟩
    have hal2 : alike b.2 b.2 = true := T.al b.2 (List.mem_map.mpr ⟨b, hb, rfl⟩) b.2 (List.mem_map.mpr ⟨b, hb, rfl⟩)
    exact absurd (reads_lt b.2 v as hal2 rd _ hm) (Nat.lt_irrefl _)
  refine wpAny_bind (wpAny_holding (PySem.W.list_sort_data (enc := fun p : V × PyData => p.2) (s := { s with heap := h'.push (seqObj "list" acc.toArray 0), toks := tk }) hoL e1 er T.al T.so (by rw [← hal]; exact hle)
    (fun b hb => ?_) fun out hlo eo => ?_))
  · have hd := T.de b hb
    rw [units_in1]
    omega
  · obtain ⟨ep, he'⟩ := PyProof.Rows.sortedHeap_at (vs := acc) (out := List.toArray out) hoL
    have ro : Vals ((bs.mergeSort dLe).map (·.1)) out := of_each eo
    have hlen : ((bs.mergeSort dLe).map (·.1)).length ≤ sizeLine := by rw [ro.length, hlo, ← hal]; exact hle
    refine wpAny_pure ⟨_, rfl, .ref h'.objs.size, _, I1.laid (t' := tk) (o := .lst ((bs.mergeSort dLe).map (·.1))) (fun b u e => ?_) (Nat.le_refl _)
      (show ObjOk X.prog X.w _ _ _ (.lst ((bs.mergeSort dLe).map (·.1))) from ⟨hlen, out, ep, ro, he'⟩), rfl, q _ (I1.hok.fresh (Nat.le_refl _))⟩
    have hb : b < h'.objs.size := Heap.lt_size e
    rw [PyProof.Rows.sortedHeap_old (Nat.ne_of_lt hb) (by rw [size_push']; exact Nat.lt_succ_of_lt hb)]
    exact Heap.get?_push_of_some _ e
/-- a list, a tuple, collected -/
theorem collect_sq {a : Addr} {xs : List V} (I : Inv X pins σ H s) (h : SqL X.K H a xs ∨ SqT X.K H a xs) (A : Around) (Q' : List Value → Shared → Prop) (E' : Value → Shared → Prop)
    (q : ∀ h' tk vs, (∀ b o, s.heap.get? b = some o → h'.get? b = some o) → Vals xs vs → Q' vs { s with heap := h', toks := tk }) : wpAny (model X.prog X.w) A (collect (.ref a)) Q' E' s := by
  rcases h with h | h
  · obtain ⟨its, rv, ⟨o, n, ho, hc, _, hd⟩, hz⟩ := I.list h
    have e := rv.length
    exact PySem.wpAny_collect_seq a (.inl rfl) ho hc hd (fun h' k => q h' s.toks its.toArray.toList k (by simpa using rv)) (by rw [List.size_toArray]; omega)
  · obtain ⟨its, rv, ⟨o, ho, hc, n, hd⟩, hz⟩ := I.tuple h
    have e := rv.length
    exact PySem.wpAny_collect_seq a (.inr rfl) ho hc hd (fun h' k => q h' s.toks its.toArray.toList k (by simpa using rv)) (by rw [List.size_toArray]; omega)
end
section
variable {X : Cx}
/-- sorted(xs), a list or a tuple of data -/
def rSortedDt (K : PySem.W.Frag) : List V → Hp → VK → Prop := fun vs H Q => ∃ (a : Addr) (bs : List (V × PyData)), vs = [V.ref a] ∧ (SqL K H a (bs.map (·.1)) ∨ SqT K H a (bs.map (·.1))) ∧ SortItems K H bs ∧
  ∀ p, H p = none → Q (.ref p) (upd H p (.lst ((bs.mergeSort dLe).map (·.1))))
theorem cr_sortedDt (hu : X.A.units + 64 < cLine) : CallR X (.builtin "sorted") (rSortedDt X.K) := by
  intro pins s σ H vs us Q I r h
  obtain ⟨a, bs, rfl, hs, T, q⟩ := h
  rw [Vals.ref1 r]
  exact sorted_by I hu (fun Q' E' k => collect_sq I hs X.A.in1 Q' E' k) T q
end
/-! ints -/
def intsD (ns : List Int) : List (V × PyData) := ns.map fun i => (V.int i, PyData.int i)
theorem intsD_fst (ns : List Int) : (intsD ns).map (·.1) = ns.map V.int := by unfold intsD; rw [List.map_map]; rfl
theorem intsD_snd (ns : List Int) : (intsD ns).map (·.2) = ns.map PyData.int := by unfold intsD; rw [List.map_map]; rfl
theorem intsD_items {K : PySem.W.Frag} {H : Hp} {ns : List Int} (h : ns.length ≤ 1000) : SortItems K H (intsD ns) where
  dp := fun b hb => by
    obtain ⟨i, _, rfl⟩ := List.mem_map.mp hb
    exact .int i
  al := by
    rw [intsD_snd]
    exact AllAlike.of fun b b' => by simp [PySem.W.alike]
  so := by
    rw [intsD_snd]
    exact Sortable.others fun b => ⟨fun z => (by cases z), fun xs z => (by cases z)⟩
  de := fun b hb => by
    obtain ⟨i, _, rfl⟩ := List.mem_map.mp hb
    simp [PyData.depth]
  le := by unfold intsD; rw [List.length_map]; exact h
theorem intsD_sorted (ns : List Int) : ∃ ms : List Int, (intsD ns).mergeSort dLe = intsD ms ∧ ms.Perm ns ∧ ms.Pairwise (· ≤ ·) := by
  have key : ∀ l : List (V × PyData), l.Perm (intsD ns) → ∃ ms : List Int, l = intsD ms ∧ ms.Perm ns := fun l hp => by
    refine ⟨l.map fun b => match b.1 with | .int i => i | _ => 0, ?_, ?_⟩
    · unfold intsD
      rw [List.map_map]
      refine (List.map_id l).symm.trans (List.map_congr_left fun b hb => ?_)
      obtain ⟨i, _, rfl⟩ := List.mem_map.mp (hp.mem_iff.mp hb)
      rfl
    · refine (hp.map _).trans ?_
      unfold intsD
      rw [List.map_map]
      refine List.Perm.of_eq ((List.map_congr_left fun i _ => ?_).trans (List.map_id ns))
      rfl
  obtain ⟨ms, e, hp⟩ := key _ (List.mergeSort_perm (intsD ns) dLe)
  have dl : ∀ i j : Int, dLe (V.int i, PyData.int i) (V.int j, PyData.int j) = decide (i ≤ j) := fun i j => by
    unfold dLe
    have := congrFun (congrFun (PySem.W.dataLe_int (fun p : Int => p)) i) j
    exact this
  have hs : ((intsD ns).mergeSort dLe).Pairwise (fun b c => dLe b c = true) ∨ True := .inr trivial
  refine ⟨ms, e, hp, ?_⟩
  have m : (intsD ns).mergeSort dLe = intsD (ns.mergeSort fun i j => decide (i ≤ j)) := by
    unfold intsD
    rw [List.map_mergeSort (r := fun i j => decide (i ≤ j)) (s := dLe)]
    intro a _ b _
    exact (dl a b).symm
  have e2 : ms = ns.mergeSort fun i j => decide (i ≤ j) := by
    have e3 := congrArg (List.map fun b : V × PyData => match b.1 with | .int i => i | _ => 0) (e.symm.trans m)
    unfold intsD at e3
    rw [List.map_map, List.map_map] at e3
    have f : ((fun b : V × PyData => match b.1 with | .int i => i | _ => 0) ∘ fun i : Int => (V.int i, PyData.int i)) = id := rfl
    rw [f, List.map_id, List.map_id] at e3
    exact e3
  rw [e2]
  have := List.pairwise_mergeSort (le := fun i j : Int => decide (i ≤ j)) (fun a b c => by simp only [decide_eq_true_eq]; omega) (fun a b => by simp only [Bool.or_eq_true, decide_eq_true_eq]; omega) ns
  exact this.imp fun h => of_decide_eq_true h
section
variable {X : Cx}
/-- sorted(xs), a list or a tuple of ints -/
def rSortedIT (K : PySem.W.Frag) : List V → Hp → VK → Prop := fun vs H Q => ∃ (a : Addr) (ns : List Int), vs = [V.ref a] ∧ (SqL K H a (ns.map V.int) ∨ SqT K H a (ns.map V.int)) ∧ ns.length ≤ 1000 ∧
  ∀ (ms : List Int) (p : Addr), ms.Perm ns → ms.Pairwise (· ≤ ·) → H p = none → Q (.ref p) (upd H p (.lst (ms.map V.int)))
theorem cr_sortedIT (hu : X.A.units + 64 < cLine) : CallR X (.builtin "sorted") (rSortedIT X.K) := by
  intro pins s σ H vs us Q I r h
  obtain ⟨a, ns, rfl, hs, hl, q⟩ := h
  refine cr_sortedDt hu pins s σ H _ us Q I r ⟨a, intsD ns, rfl, by rw [intsD_fst]; exact hs, intsD_items hl, fun p hp => ?_⟩
  obtain ⟨ms, e, h1, h2⟩ := intsD_sorted ns
  rw [e, intsD_fst]
  exact q ms p h1 h2 hp
end
end L2

/-! SRules2 -/
/-! Further rules that the kit has not. -/
namespace L2
open PySem PySem.Spec PyProof.Rows
open PySem.W (alike dataLt dataLe AllAlike Sortable EachIs)

/-! ### sorted(d), the keys of d tuples of ints -/
def tupsD (ps : List (Addr × List Int)) : List (V × PyData) := ps.map fun p => (V.ref p.1, PyData.tuple (p.2.map PyData.int))
section
variable {X : Cx} {pins : List (Addr × Obj)} {σ : St} {H : Hp} {s : Shared}
theorem collect_dT {d : Addr} {kvs : List (List Key × V)} (hc : X.calm = true) (I : Inv X pins σ H s) (hd : Rd H d (.dT kvs)) (Q' : List Value → Shared → Prop) (E' : Value → Shared → Prop)
    (q : ∀ bs : List Addr, IsKeys H kvs bs → ∀ h' tk vs, (∀ b o, s.heap.get? b = some o → h'.get? b = some o) → Vals (bs.map V.ref) vs → Q' vs { s with heap := h', toks := tk }) :
    wpAny (model X.prog X.w) X.A.in1 (collect (.ref d)) Q' E' s := by
  obtain ⟨z, hs, ks, pr, o, es, ep, ho, hx, hdt, he, hn⟩ := (show ObjOk X.prog X.w H s.heap d (.dT kvs) from hd.ok I.hok)
  have l1 : es.size = ks.length := size_of_entries he
  have l2 : kvs.length = ks.length := Paired.length pr
  refine PySem.W.kdu_collect (A := X.A.in1) (kdl_raw hs hx hdt) (I.ok.hd hc) ho (by omega) fun h' tk acc' kp it => ?_
  have ea : acc'.toList = ks.map fun x => Value.ref x.2.1 := by
    have hl : acc'.toList.length = ks.length := by rw [Array.length_toList, it.1]; exact l1
    apply List.ext_getElem?
    intro j
    rw [List.getElem?_map]
    cases hj : acc'.toList[j]? with
    | none =>
      have h1 := List.getElem?_eq_none_iff.mp hj
      rw [List.getElem?_eq_none (by omega)]
      all_goals rfl
    | some v =>
      obtain ⟨en, hen, hv⟩ := it.2 j v (by rw [← Array.getElem?_toList]; exact hj)
      have qe := entry_at he j
      rw [hen] at qe
      cases hb : ks[j]? with
      | none =>
        rw [hb] at qe
        exact nomatch (show some en = none from qe)
      | some b =>
        rw [hb] at qe
        have e2 : en = entryOfKey (tupleKind (mixKind X.prog X.w)) b := Option.some.inj qe
        rw [hv, e2]
        all_goals rfl
  have eb : acc'.toList = (ks.map fun x => x.2.1).map Value.ref := by rw [ea, List.map_map]; all_goals rfl
  have rv : Vals ((ks.map fun x => x.2.1).map V.ref) acc'.toList := by rw [eb]; exact vals_refs _
  exact q _ (isKeys_of pr) h' tk _ kp rv
end
theorem dp_ints {K : PySem.W.Frag} {H : Hp} : ∀ ns : List Int, DpAll K H (ns.map V.int) (ns.map PyData.int)
  | [] => .nil
  | n :: r => .cons (.int n) (dp_ints r)
theorem dp_tup {K : PySem.W.Frag} {H : Hp} {a : Addr} {ns : List Int} (h : SqT K H a (ns.map V.int)) : Dp K H (.ref a) (.tuple (ns.map PyData.int)) := .tup h (dp_ints ns)
theorem depth_tup (ns : List Int) : (PyData.tuple (ns.map PyData.int)).depth = 1 := by
  rw [PyData.depth, PySem.W.depth_ints]
theorem alike_tup (ns ms : List Int) : alike (.tuple (ns.map PyData.int)) (.tuple (ms.map PyData.int)) = true := by
  rw [PySem.W.alike]
  exact PySem.W.alike_ints ns ms
theorem lt_tup (ns ms : List Int) : dataLt (.tuple (ns.map PyData.int)) (.tuple (ms.map PyData.int)) = decide (ns < ms) := by
  rw [PySem.W.dataLt_tuple]
  exact PySem.W.dataLt_ints ns ms
/-- the keys as lists of ints -/
def keyI (ns : List Int) : List Key := ns.map Sum.inl
theorem keyI_V (ns : List Int) : (keyI ns).map kV = ns.map V.int := by unfold keyI; rw [List.map_map]; rfl
theorem keysI_at : ∀ {H : Hp} {kvs : List (List Key × V)} {bs : List Addr} {nss : List (List Int)}, IsKeys H kvs bs → kvs.map (·.1) = nss.map keyI → ∃ ps : List (Addr × List Int), ps.map (·.1) = bs ∧ ps.map (·.2) = nss ∧ ∀ p ∈ ps, H p.1 = some (.tup (p.2.map V.int))
  | _, [], _, nss, h, e => by
    cases h
    cases nss with
    | nil => exact ⟨[], rfl, rfl, fun p hp => by cases hp⟩
    | cons _ _ => cases e
  | _, kv :: kvs, _, nss, h, e => by
    cases h with
    | cons h1 h2 =>
      cases nss with
      | nil => cases e
      | cons ns nss =>
        rw [List.map_cons, List.map_cons] at e
        injection e with e1 e2
        obtain ⟨ps, p1, p2, p3⟩ := keysI_at h2 e2
        refine ⟨(_, ns) :: ps, by rw [List.map_cons, p1], by rw [List.map_cons, p2], fun p hp => ?_⟩
        rcases List.mem_cons.mp hp with rfl | hp
        · rw [e1, keyI_V] at h1
          exact h1
        · exact p3 p hp
/-- lists of ints in lexicographic order -/
theorem lexle_total (a b : List Int) : ¬ b < a ∨ ¬ a < b := by
  by_cases h : b < a
  · exact .inr fun h2 => List.lt_irrefl _ (List.lt_trans h h2)
  · exact .inl h
theorem lexlt_or (a b : List Int) (h : ¬ b < a) : a < b ∨ a = b := by
  have : a ≤ b := h
  rcases List.le_iff_lt_or_eq.mp this with h | h
  · exact .inl h
  · exact .inr h
theorem tups_items {K : PySem.W.Frag} {H : Hp} {ps : List (Addr × List Int)} (h : ∀ p ∈ ps, SqT K H p.1 (p.2.map V.int)) (hne : ∀ p ∈ ps, p.2 ≠ []) (hl : ps.length ≤ 1000) : SortItems K H (tupsD ps) where
  dp := fun b hb => by
    obtain ⟨p, hp, rfl⟩ := List.mem_map.mp hb
    exact dp_tup (h p hp)
  al := by
    intro d hd d' hd'
    obtain ⟨b, hb, rfl⟩ := List.mem_map.mp hd
    obtain ⟨b', hb', rfl⟩ := List.mem_map.mp hd'
    obtain ⟨p, hp, rfl⟩ := List.mem_map.mp hb
    obtain ⟨p', hp', rfl⟩ := List.mem_map.mp hb'
    exact alike_tup _ _
  so := .inl fun d hd => by
    obtain ⟨b, hb, rfl⟩ := List.mem_map.mp hd
    obtain ⟨p, hp, rfl⟩ := List.mem_map.mp hb
    have := hne p hp
    cases e : p.2 with
    | nil => exact absurd e this
    | cons x r => exact ⟨PyData.int x, r.map PyData.int, by simp [e]⟩
  de := fun b hb => by
    obtain ⟨p, hp, rfl⟩ := List.mem_map.mp hb
    show (PyData.tuple (p.2.map PyData.int)).depth ≤ 8
    rw [depth_tup]
    decide
  le := by unfold tupsD; rw [List.length_map]; exact hl
theorem tups_sorted (ps : List (Addr × List Int)) : ∃ qs : List (Addr × List Int), (tupsD ps).mergeSort dLe = tupsD qs ∧ qs.Perm ps ∧ qs.Pairwise fun p q => ¬ q.2 < p.2 := by
  have dl : ∀ p q : Addr × List Int, dLe (V.ref p.1, PyData.tuple (p.2.map PyData.int)) (V.ref q.1, PyData.tuple (q.2.map PyData.int)) = decide (¬ q.2 < p.2) := fun p q => by
    show (!dataLt (PyData.tuple (q.2.map PyData.int)) (PyData.tuple (p.2.map PyData.int))) = _
    rw [lt_tup]
    by_cases h : q.2 < p.2 <;> simp [h]
  refine ⟨ps.mergeSort fun p q => decide (¬ q.2 < p.2), ?_, List.mergeSort_perm _ _, ?_⟩
  · unfold tupsD
    rw [List.map_mergeSort (r := fun p q : Addr × List Int => decide (¬ q.2 < p.2)) (s := dLe)]
    intro a _ b _
    exact (dl a b).symm
  · have := List.pairwise_mergeSort (le := fun p q : Addr × List Int => decide (¬ q.2 < p.2)) (fun a b c h1 h2 => ?_) (fun a b => ?_) ps
    · exact this.imp fun h => of_decide_eq_true h
    · have h1 := of_decide_eq_true h1
      have h2 := of_decide_eq_true h2
      exact decide_eq_true (show ¬ c.2 < a.2 from List.le_trans (show a.2 ≤ b.2 from h1) (show b.2 ≤ c.2 from h2))
    · simp only [Bool.or_eq_true, decide_eq_true_eq]
      exact lexle_total a.2 b.2
section
variable {X : Cx}
/-- sorted(d) of a dict whose keys are tuples of ints, each with an item at least -/
def rSortedTD : List V → Hp → VK → Prop := fun vs H Q => ∃ (d : Addr) (kvs : List (List Key × V)) (nss : List (List Int)), vs = [V.ref d] ∧ Rd H d (.dT kvs) ∧ kvs.map (·.1) = nss.map keyI ∧ (∀ ns ∈ nss, ns ≠ []) ∧ nss.length ≤ 1000 ∧
  ∀ (qs : List (Addr × List Int)) (p : Addr), (∀ q ∈ qs, H q.1 = some (.tup (q.2.map V.int))) → (qs.map (·.2)).Perm nss → (qs.map (·.2)).Pairwise (fun a b => ¬ b < a) → H p = none → Q (.ref p) (upd H p (.lst (qs.map fun q => V.ref q.1)))
theorem cr_sortedTD (hc : X.calm = true) (hu : X.A.units + 64 < cLine) : CallR X (.builtin "sorted") rSortedTD := by
  intro pins s σ H vs us Q I r h
  obtain ⟨d, kvs, nss, rfl, hd, hk, hne, hl, q⟩ := h
  rw [Vals.ref1 r]
  -- the keys' addresses are fixed by the heap: take them from a first collecting
  obtain ⟨z, hs, ks, pr, o, es, ep, ho, hx, hdt, he, hn⟩ := (show ObjOk X.prog X.w H s.heap d (.dT kvs) from hd.ok I.hok)
  obtain ⟨ps, p1, p2, p3⟩ := keysI_at (isKeys_of pr) hk
  have l1 : es.size = ks.length := size_of_entries he
  have l2 : kvs.length = ks.length := Paired.length pr
  have hpl : ps.length = nss.length := by rw [← p2, List.length_map]
  have hfst : (tupsD ps).map (·.1) = (ks.map fun x => x.2.1).map V.ref := by
    rw [← p1]
    unfold tupsD
    rw [List.map_map, List.map_map]
    rfl
  refine sorted_by (bs := tupsD ps) I hu (fun Q' E' k => ?_) (tups_items (fun p hp => SqT.of (p3 p hp)) (fun p hp => hne _ (by rw [← p2]; exact List.mem_map.mpr ⟨p, hp, rfl⟩)) (by omega)) fun p hp => ?_
  · refine PySem.W.kdu_collect (A := X.A.in1) (kdl_raw hs hx hdt) (I.ok.hd hc) ho (by omega) fun h' tk acc' kp it => ?_
    have ea : acc'.toList = ks.map fun x => Value.ref x.2.1 := by
      have hl : acc'.toList.length = ks.length := by rw [Array.length_toList, it.1]; exact l1
      apply List.ext_getElem?
      intro j
      rw [List.getElem?_map]
      cases hj : acc'.toList[j]? with
      | none =>
        have h1 := List.getElem?_eq_none_iff.mp hj
        rw [List.getElem?_eq_none (by omega)]
        all_goals rfl
      | some v =>
        obtain ⟨en, hen, hv⟩ := it.2 j v (by rw [← Array.getElem?_toList]; exact hj)
        have qe := entry_at he j
        rw [hen] at qe
        cases hb : ks[j]? with
        | none =>
          rw [hb] at qe
          exact nomatch (show some en = none from qe)
        | some b =>
          rw [hb] at qe
          have e2 : en = entryOfKey (tupleKind (mixKind X.prog X.w)) b := Option.some.inj qe
          rw [hv, e2]
          all_goals rfl
    have eb : acc'.toList = (ks.map fun x => x.2.1).map Value.ref := by rw [ea, List.map_map]; all_goals rfl
    refine k h' tk _ kp ?_
    rw [hfst, eb]
    exact vals_refs _
  · obtain ⟨qs, e, h1, h2⟩ := tups_sorted ps
    rw [e]
    have ef : (tupsD qs).map (·.1) = qs.map fun q => V.ref q.1 := by unfold tupsD; rw [List.map_map]; rfl
    rw [ef]
    refine q qs p (fun x hx => p3 x (h1.mem_iff.mp hx)) ?_ ?_ hp
    · rw [← p2]
      exact h1.map _
    · rw [List.pairwise_map]
      exact h2
end

/-! ### min(xs) over data -/
theorem minD_mem (x : PyData) : ∀ xs : List PyData, PySem.W.minD x xs ∈ x :: xs := fun xs => by
  unfold PySem.W.minD
  induction xs generalizing x with
  | nil => exact List.mem_cons_self
  | cons y r ih =>
    rw [List.foldl_cons]
    split
    · exact List.mem_cons_of_mem _ (ih y)
    · rcases List.mem_cons.mp (ih x) with h | h
      · rw [h]
        exact List.mem_cons_self
      · exact List.mem_cons_of_mem _ (List.mem_cons_of_mem _ h)
/-- none is less, where the order is a total one -/
theorem minD_le {P : PyData → Prop} (tr : ∀ a b c, P a → P b → P c → dataLt b a = false → dataLt c b = false → dataLt c a = false) (to : ∀ a b, P a → P b → dataLt b a = true → dataLt a b = false) (re : ∀ a, P a → dataLt a a = false) :
    ∀ (xs : List PyData) (x : PyData), P x → (∀ y ∈ xs, P y) → ∀ y ∈ x :: xs, dataLt y (PySem.W.minD x xs) = false := by
  intro xs
  induction xs with
  | nil =>
    intro x hx _ y hy
    have e : y = x := by simpa using hy
    rw [e]
    exact re x hx
  | cons z r ih =>
    intro x hx hr y hy
    have hz := hr z List.mem_cons_self
    have hr' : ∀ y ∈ r, P y := fun y hy => hr y (List.mem_cons_of_mem _ hy)
    have mP : ∀ u, P u → P (PySem.W.minD u r) := fun u hu => by
      rcases List.mem_cons.mp (minD_mem u r) with e | e
      · rw [e]
        exact hu
      · exact hr' _ e
    show dataLt y (r.foldl (fun a y => if dataLt y a then y else a) (if dataLt z x then z else x)) = false
    cases c : dataLt z x with
    | true =>
      rw [if_pos rfl]
      have q := ih z hz hr'
      rcases List.mem_cons.mp hy with rfl | hy
      · exact tr (PySem.W.minD z r) z y (mP z hz) hz hx (q z List.mem_cons_self) (to y z hx hz c)
      · exact q y hy
    | false =>
      rw [if_neg Bool.false_ne_true]
      have q := ih x hx hr'
      rcases List.mem_cons.mp hy with rfl | hy
      · exact q y List.mem_cons_self
      · rcases List.mem_cons.mp hy with rfl | hy
        · exact tr (PySem.W.minD x r) x y (mP x hx) hx hz (q x List.mem_cons_self) c
        · exact q y (List.mem_cons_of_mem _ hy)
theorem dpAll_of {K : PySem.W.Frag} {H : Hp} : ∀ {bs : List (V × PyData)}, (∀ b ∈ bs, Dp K H b.1 b.2) → DpAll K H (bs.map (·.1)) (bs.map (·.2))
  | [], _ => .nil
  | b :: bs, h => .cons (h b List.mem_cons_self) (dpAll_of fun b hb => h b (List.mem_cons_of_mem _ hb))
theorem depthAll_le : ∀ {ds : List PyData}, (∀ d ∈ ds, d.depth ≤ 8) → PyData.depthAll ds ≤ 8
  | [], _ => by simp [PyData.depthAll]
  | d :: ds, h => by
    have h1 := h d List.mem_cons_self
    have h2 := depthAll_le (ds := ds) fun d hd => h d (List.mem_cons_of_mem _ hd)
    rw [PyData.depthAll]
    omega
section
variable {X : Cx}
/-- min(xs) of a list of data: an item, its datum the least in the fold's sense -/
def rMinDt (K : PySem.W.Frag) : List V → Hp → VK → Prop := fun vs H Q => ∃ (a : Addr) (c : V × PyData) (bs : List (V × PyData)), vs = [V.ref a] ∧ SqL K H a ((c :: bs).map (·.1)) ∧ (∀ b ∈ c :: bs, Dp K H b.1 b.2) ∧ AllAlike ((c :: bs).map (·.2)) ∧ (∀ b ∈ c :: bs, b.2 ≠ .none) ∧
  (∀ b ∈ c :: bs, b.2.depth ≤ 8) ∧ ∀ b ∈ c :: bs, b.2 = PySem.W.minD c.2 (bs.map (·.2)) → Q b.1 H
theorem cr_minDt (hc : X.calm = true) (hu : X.A.units + 64 < cLine) : CallR X (.builtin "min") (rMinDt X.K) := by
  intro pins s σ H vs us Q I r h
  obtain ⟨a, c, bs, rfl, hs, hdp, hal, hnn, hde, q⟩ := h
  rw [Vals.ref1 r]
  obtain ⟨its, rv, pl, hz⟩ := I.list hs
  obtain ⟨as, rd⟩ := Dp.readsAll I _ _ its (dpAll_of hdp) rv
  have rd' : ReadsAll s.heap its.toArray.toList (c.2 :: bs.map (·.2)) as := by simpa using rd
  have hdep : PyData.depthAll (c.2 :: bs.map (·.2)) ≤ 8 := depthAll_le (ds := (c :: bs).map fun b : V × PyData => b.2) fun d hd => by
    obtain ⟨b, hb, rfl⟩ := List.mem_map.mp hd
    exact hde b hb
  refine PySem.W.min_list_data (I.ok.hd hc) pl.isList rd' ⟨fun d hd d' hd' => hal d hd d' hd', fun d hd => (by obtain ⟨b, hb, rfl⟩ := List.mem_map.mp (show d ∈ (c :: bs).map (fun b : V × PyData => b.2) from hd); exact hnn b hb)⟩ (by omega) fun i v h' tk cs hv hr hk => ?_
  have hi : its[i]? = some v := by simpa using hv
  have I1 : Inv X pins σ H { s with heap := h', toks := tk } := I.kept hk
  obtain ⟨hlt, _⟩ := List.getElem?_eq_some_iff.mp hi
  have hlen := rv.length
  rw [List.length_map] at hlen
  have hb : (c :: bs)[i]? = some ((c :: bs)[i]'(by omega)) := List.getElem?_eq_getElem (by omega)
  generalize hbe : (c :: bs)[i]'(by omega) = b at hb
  have hbm : b ∈ c :: bs := List.mem_of_getElem? hb
  have hx : ((c :: bs).map (·.1))[i]? = some b.1 := by rw [List.getElem?_map, hb]; rfl
  obtain ⟨u, hu2, ru⟩ := rv.get hx
  rw [hi] at hu2
  cases hu2
  refine ⟨b.1, H, I1, ru, q b hbm ?_⟩
  obtain ⟨as2, rb⟩ := Dp.reads I1 b.2 b.1 v (hdp b hbm) ru
  have hmm := minD_mem c.2 (bs.map (·.2))
  exact PySem.W.alike_unique _ _ v _ _ (hal _ (List.mem_map.mpr ⟨b, hbm, rfl⟩) _ (by rw [List.map_cons]; exact hmm)) rb hr
end

/-! ### xs[i] of a list, for xs[i] op= e -/
section
variable {X : Cx}
theorem get_list : PGet X (rIxL X.K) := by
  intro pins s σ H o i ov iv Q I ro ri h
  obtain ⟨p, xs, k, z, rfl, rfl, hq, he, q⟩ := h
  cases ro
  obtain ⟨t, rfl⟩ := ri
  obtain ⟨its, r, pl, hz⟩ := I.list hq
  obtain ⟨j, h1, h2, h3, h4, h5⟩ := atI_get he
  obtain ⟨w, ew, rw'⟩ := r.get h2
  have hl := r.length
  have hn := line63
  have fin : EP X pins σ Q w s := ⟨z, H, I, rw', q⟩
  by_cases h0 : 0 ≤ k
  · have hj : k.toNat = j := by
      rw [seqIndex_of h0 h5] at h1
      exact Option.some.inj h1
    exact wpAny_getItem_list pl.isList h0 (by omega) (by rw [hj]; simpa using ew) fin
  · have hj : (k + (its.toArray.size : Int)).toNat = j := by
      rw [seqIndex_neg (by omega) h4] at h1
      rw [List.size_toArray, ← hl]
      exact Option.some.inj h1
    exact wpAny_getItem_list_neg pl.isList (by omega) (by rw [List.size_toArray] <;> omega) (by omega) (by rw [hj]; simpa using ew) fin
end

/-! ### enumerate(tuple) -/
set_option maxHeartbeats 1000000 in
theorem meets_enum_any {v : Value} {o : Obj} {H : Heap → Prop} (B : Begins v o H) :
    Meets (Builtin.«enumerate.__new__» ⟨[.type "enumerate", v], []⟩) (fun _ R s => H s.heap ∧
      R (.ok (.ret (.ref (s.heap.push o).objs.size))) { s with heap := (s.heap.push o).push { cls := .type "enumerate", data := .fields #[.none, .bool false, .ref s.heap.objs.size, rawInt 0, .none, .none] } }) :=
  .of_wp fun prog w A R s h => by
    obtain ⟨hp, g, d, tk, os⟩ := s; obtain ⟨h1, h⟩ := h
    have hsub := sub_enumerate
    have q1 : ∀ {A' : Around} {E : Value → Shared → Prop} {Q : Value → Shared → Prop}, Q (.ref hp.objs.size) ⟨hp.push o, g, d, tk, os⟩ → wpAny (model prog w) A' (pyIter v) Q E ⟨hp, g, d, tk, os⟩ :=
      fun q => B.iter prog w _ _ ⟨hp, g, d, tk, os⟩ _ h1 q
    wp_walk using q1
    refine wpAny_stack_any fun st => wpAny_pure ?_
    split
    · rename_i c _ _ _ _ _
      cases (c == Value.type "enumerate")
      · wp_walk using q1
        exact ⟨_, rfl, h⟩
      · wp_walk using q1
        exact ⟨_, rfl, h⟩
    · wp_walk using q1
      exact ⟨_, rfl, h⟩
theorem call_enum_any {prog : Program} {w : World} {A : Around} {E : Value → Shared → Prop} {s : Shared} {v : Value} {o : Obj} {H : Heap → Prop} {Q : Value → Shared → Prop} (B : Begins v o H) (h1 : H s.heap)
    (h : ∀ h', IsEnum h' (s.heap.objs.size + 1) s.heap.objs.size 0 .none → h'.get? s.heap.objs.size = some o → h'.objs.size = s.heap.objs.size + 2 →
      (∀ b o, s.heap.get? b = some o → h'.get? b = some o) → Q (.ref (s.heap.objs.size + 1)) { s with heap := h' }) :
    wpAny (model prog w) A (call (.type "enumerate") [v]) Q E s := by
  refine callType_new F.called_enumerate (by decide) (F.typeCall_enumerate_1 _) (F.newCall_enumerate_1 _) (fun obj => F.args_object_init_2 obj _) F.entry_enumerate_new
    (meets_enum_any B) ⟨h1, ?_⟩
  have hz : (s.heap.push o).objs.size = s.heap.objs.size + 1 := Heap.size_push ..
  show _ ∧ _
  rw [hz]
  have he : IsEnum ((s.heap.push o).push { cls := .type "enumerate", data := .fields #[.none, .bool false, .ref s.heap.objs.size, rawInt 0, .none, .none] }) (s.heap.objs.size + 1) s.heap.objs.size 0 .none := by
    have := Heap.get?_push_size (s.heap.push o) (o := { cls := .type "enumerate", data := .fields #[.none, .bool false, .ref s.heap.objs.size, rawInt 0, .none, .none] }) rfl
    rw [hz] at this; exact this
  refine ⟨⟨_, he, rfl⟩, h _ he (Heap.get?_push_of_some _ (Heap.get?_push_size _ B.free)) (by rw [Heap.size_push, hz]) fun b o x => Heap.get?_push_of_some _ (Heap.get?_push_of_some _ x)⟩
theorem wpAny_pyNext_enum_endT {prog : Program} {w : World} {A : Around} {E : Value → Shared → Prop} {s : Shared} {e it l : Addr} {i : Nat} {items : Array Value} {old : Value} {Q : Option Value → Shared → Prop} (hh : A.handled = none)
    (he : IsEnum s.heap e it i old) (hit : s.heap.IsTupleIter it l i) (hl : s.heap.IsTuple l items) (hx : items[i]? = none)
    (hQ : ∀ h', Heap.ExtBut it s.heap h' → Q none { s with heap := h' }) : wpAny (model prog w) A (pyNext (.ref e)) Q E s := by
  have hT : s.TypeIs (.ref e) "enumerate" := ⟨_, he, rfl⟩
  unfold pyNext
  refine wpAny_bind (wpAny_attempt (wpAny_callSpecial?_slot (name := Str.ofString "__next__") hT F.slot_enumerate_next
    (wpAny_call_entry F.slot_enumerate_next hT F.entry_enumerate_next ?_ (F.args_enumerate_next_1 _))))
  show wpAny _ _ (field (.ref e) 2 >>= _) _ _ _
  refine wpAny_bind (wpAny_field he rfl (x := .ref it) rfl ?_)
  refine wpAny_bind (wpAny_nextOf_tuple_end hh hit hl hx fun h' x he' hx' => ?_)
  obtain ⟨o, ho, hc⟩ := hx'
  refine wpAny_bind (wpAny_isInstance (T := "StopIteration") (b := true) ⟨o, ho, hc⟩ isSubtype_stop ?_)
  exact wpAny_pure (hQ _ he')
/-- the tuple at a, each item in a new pair -/
def IteT (K : PySem.W.Frag) (a : Addr) : It :=
  ⟨fun i H => ∃ (xs : List V) (x : V), SqT K H a xs ∧ xs[i]? = some x, fun i H v H' => ∃ T x, v = .ref T ∧ H T = none ∧ H' = upd H T (.tup [.int (i : Nat), x]) ∧ ∀ xs, SqT K H a xs → xs[i]? = some x, fun i H => ∃ xs : List V, SqT K H a xs ∧ xs.length ≤ i⟩
theorem turn_enumT {P : Program} {w : World} {K : PySem.W.Frag} {elts : List Expr} {kk : Nat} {tpos : Pos} (a e it : Addr) (items : Array Value) (hA : a ≠ it) (hE : a ≠ e) :
    Turn P w K (.Tuple elts kk tpos) (IteT K a) [e, it] e (fun i h => (∃ old, IsEnum h e it ((i : Nat) : Int) old) ∧ h.IsTupleIter it a i ∧ e ≠ it) where
  mem := by simp
  obj := fun i h st b hb => by
    obtain ⟨⟨old, he⟩, ⟨o, ho, hc, hd⟩, _⟩ := st
    have e' : b = e ∨ b = it := by simpa using hb
    rcases e' with z | z
    · rw [z]; exact ⟨_, he, fun v q => nomatch q⟩
    · rw [z]; exact ⟨o, ho, fun v q => by rw [hd] at q; cases q⟩
  keep := fun i h h' st k => let ⟨⟨old, he⟩, hi, hne⟩ := st; ⟨⟨old, k e (by simp) _ he⟩, hi.at fun o q => k it (by simp) o q, hne⟩
  item := by
    intro X hP hw hK hc i pins s σ H E I hf st hg
    subst hP hw hK
    obtain ⟨⟨old, he⟩, hit, hne⟩ := st
    obtain ⟨xs, x, hq, hx⟩ := hg
    obtain ⟨its, rv, p, hz⟩ := I.tuple hq
    obtain ⟨u, hu, ru⟩ := rv.get hx
    have hil' : i < its.toArray.size := by
      have := (List.getElem?_eq_some_iff.mp hu).1
      rw [List.size_toArray]
      exact this
    have hel : e < s.heap.objs.size := Heap.lt_size he
    have hil : it < s.heap.objs.size := by obtain ⟨_, q, _⟩ := hit; exact Heap.lt_size q
    have D := Draws.tuple (prog := X.prog) (w := X.w) (A := X.A.in1) (show X.A.in1.handled = none from I.ok.hd hc) it a hA its.toArray
    refine wpAny_pyNext_enum_itemD D he ⟨hit, p⟩ hil' hne (by simp; exact ⟨hne, fun z => hE z.symm⟩) fun y h' tk hy ho hst' hT hsz hk => ?_
    have ey : y = u := by
      have h2 : its[i]? = some y := by simpa using hy
      rw [hu] at h2
      exact (Option.some.inj h2).symm
    subst ey
    refine ⟨_, rfl, wpAny_letOwnedTupleGo_enum (s := { s with heap := h', toks := tk + 1 }) ho fun h'' he' sb => ?_⟩
    have hT2 : h''.get? s.heap.objs.size = some { cls := .type "tuple", data := .seq #[.int i tk, y] } := (sb.2 _ (Nat.ne_of_gt hel)).trans hT
    have new : ObjOk X.prog X.w (upd H s.heap.objs.size (.tup [.int (i : Nat), x])) h'' s.heap.objs.size (.tup [.int (i : Nat), x]) :=
      ⟨by show 2 ≤ sizeLine; decide, [.int i tk, y], .cons ⟨_, rfl⟩ (.cons ru .nil), ⟨_, hT2, rfl, _, rfl⟩⟩
    have I1 : Inv X pins σ (upd H s.heap.objs.size (.tup [.int (i : Nat), x])) { s with heap := h'', toks := tk + 1 } :=
      I.turnedNew (ch := [e, it]) (fun b ob hb q => (sb.2 b (fun z => hb (by simp [z]))).trans (hk b ob (fun z => hb (by simp [z])) (fun z => hb (by simp [z])) q)) hf (Nat.le_refl _) new
    refine ⟨.ref s.heap.objs.size, _, I1, rfl, ⟨_, x, rfl, I.hok.fresh (Nat.le_refl _), rfl, fun ys hy => by rw [I.tuple_inj hy hq]; exact hx⟩, ⟨⟨y, ?_⟩, hst'.1.at fun o q => (sb.2 it (Ne.symm hne)).trans q, hne⟩, fun b hb => ?_⟩
    · have e1 : ((i + 1 : Nat) : Int) = (i : Int) + 1 := by omega
      rw [e1]; exact he'
    · have hb' : b < s.heap.objs.size := by
        have e' : b = e ∨ b = it := by simpa using hb
        rcases e' with z | z
        · rw [z]; exact hel
        · rw [z]; exact hil
      rw [upd_ne (Nat.ne_of_lt hb')]
      exact (hf b hb).1
  done := by
    intro X hP hw hK hc i pins s σ H E I hf st hg
    subst hP hw hK
    obtain ⟨⟨old, he⟩, hit, hne⟩ := st
    obtain ⟨xs, hq, hx⟩ := hg
    obtain ⟨its, rv, p, hz⟩ := I.tuple hq
    obtain ⟨f0, f1, f2, f3, f4, f5⟩ := hf it (by simp)
    have hl := rv.length
    refine wpAny_pyNext_enum_endT (I.ok.hd hc) he hit p (by simp; omega) fun h' eb => ⟨rfl, I.turned (t' := s.toks) (fun b o hb q => eb b o hb q) f0 f1 f3 f4 f5⟩
  self := fun A i s Q E st h => let ⟨⟨_, he⟩, _⟩ := st; wpAny_pyIter_enum he h
def iEnumT (K : PySem.W.Frag) (ta : TA) : TI := fun σ H R => ta σ H fun vs H1 => ∃ a xs, vs = [.ref a] ∧ SqT K H1 a xs ∧ R (IteT K a) H1
theorem pi_enumT {X : Cx} {e : Expr} {ta : TA} {p pos tpos : Pos} {elts : List Expr} {kk : Nat} (hg : Gl X "enumerate") (hm : X.mg "enumerate" = none) (ha : PA X [e] ta) (hs : starEach [e] X.env = [(false, eval e X.env)] := by rfl) :
    PI X (.Tuple elts kk tpos) (.Call (.Name "enumerate" p) [e] [] pos) (iEnumT X.K ta) := by
  refine ⟨fun pins s σ H R I h => ?_⟩
  refine Call_ (ld_blt I hg hm boot_enumerate (PyProof.Rows.callWith_type1 (thn (ha.run pos pins s σ H _ I h) fun us s1 ⟨vs, H1, I1, r1, q1⟩ => ?_) hs rfl))
  obtain ⟨a, xs, ex, hq, q⟩ := q1
  subst ex
  cases r1 with
  | cons r rr =>
    cases rr
    cases r
    obtain ⟨its, rv, p', hz⟩ := I1.tuple hq
    have hal : a < s1.heap.objs.size := p'.lt
    refine call_enum_any (begins_tuple a its.toArray) p' fun h' he hit hsz hk => wpAny_pyIter_enum he ?_
    have I2 : Inv X pins σ H1 { s1 with heap := h' } := I1.kept (t' := s1.toks) hk
    refine ⟨s1.heap.objs.size + 1, [s1.heap.objs.size + 1, s1.heap.objs.size], _, _, H1, rfl, I2, turn_enumT a (s1.heap.objs.size + 1) s1.heap.objs.size its.toArray (Nat.ne_of_lt hal) (Nat.ne_of_lt (Nat.lt_succ_of_lt hal)), ⟨⟨.none, he⟩, ⟨_, hit, rfl, rfl⟩, Nat.succ_ne_self _⟩, fun b hb => ?_, q⟩
    have e' : b = s1.heap.objs.size + 1 ∨ b = s1.heap.objs.size := by simpa using hb
    have hle : s1.heap.objs.size ≤ b := by
      rcases e' with z | z
      · rw [z]; exact Nat.le_add_right _ _
      · rw [z]; exact Nat.le_refl _
    exact I1.fpOk hle (I1.hok.fresh hle)

/-! ### X(), X an own exception class without own __init__ -/
theorem pmk_own0 {X : Cx} {C : Addr} {bmB : List Value} {B newId initId : String} {x : Str} {p pos : Pos} (F : ExcBaseFacts B newId initId bmB) (q : PySem.W.excIn X.K C bmB newId = true) (gC : X.mg x = some (.ref C))
    (kC : PySem.W.keepIn X.K (.ref C) = true) (r : Raises X (.ref C)) (hg : Gl X x) (hdb : (x == ("__debug__" : Str)) = false := by decide) :
    PMk X (.Call (.Name x p) [] [] pos) (fun _ H Q => Q (.ref C) none H) := by
  intro pins s σ H Q I h
  refine wpAny_Call_Name_kw (ld_glob I hg gC ?_ hdb)
  refine PySem.W.callWith_K0 I.kIn kC ?_
  show wpAny _ _ (call (.ref C) []) _ _ _
  obtain ⟨bm, N, nm, qn, bs, hdct, sn, sub, ab, col, dd, k0, k1, k2, k3, k5, mN, hC, hN, hni, T⟩ := exc_obj I.kIn q
  refine wpAny_call_exc_subT F T hC hN hni (fun h' e hm => ?_) (by show 0 ≤ sizeLine; exact Nat.zero_le _)
  exact mk_of I hm r h (I.hok.gone hm.new)

/-! ### a call of a local name that holds one of several defs, each of which may raise -/
section
variable {X : Cx} {CX : CXT} {k i : Nat} {E : St → XK} {x : Str} {p pos : Pos} {e : Expr} {es : List Expr} {t : TA}
structure HeldX (CX : CXT) (P : Program) (w : World) (K : PySem.W.Frag) (mg : Str → Option Value) (base : Heap) (k : Nat) (f : Addr) (sp : Sp) : Prop where
  ex : ∃ (fd : FuncData) (ps : List Str), FnOk P w K mg base CX k f fd ps sp ∧ PySem.W.keepIn K (.ref f) = true ∧ Binds K fd ps []
def tCallLS (i : Nat) (S : Addr → Sp → Prop) (E : St → XK) (t : TA) : TE := fun σ H Q => ∃ f sp, σ[i]? = some (some (.ref f)) ∧ S f sp ∧ t σ H fun vs H1 => sp vs H1 Q (E σ)
theorem pe_callLS {S : Addr → Sp → Prop} (A : ∀ f sp, S f sp → HeldX CX X.prog X.w X.K X.mg X.base k f sp) (hr : Room k X.A) (hN : X.N[i]? = some x) (hv : Vis X.env.scope x) (hx : ∀ σ, PassesAt CX X σ (E σ)) (ha : PA X (e :: es) t)
    (hdb : (x == ("__debug__" : Str)) = false := by decide) (hcd : (x == ("__classdict__" : Str)) = false := by decide)
    (he : starEach (e :: es) X.env = (false, eval e X.env) :: starEach es X.env := by rfl) (hpl : (backTo pos (starEach es X.env)).any (·.1) = false := by rfl) : PE X (.Call (.Name x p) (e :: es) [] pos) (tCallLS i S E t) := by
  refine ⟨fun pins s σ H Q I h => ?_⟩
  obtain ⟨f, sp, hs, hS, ht⟩ := h
  obtain ⟨fd, ps, F, hk, hb⟩ := (A f sp hS).ex
  refine wpAny_Call_Name_kw (thn ((pe_var (pos := p) hN hv hdb hcd).run pins s σ H (fun v H1 => v = .ref f ∧ H1 = H) I ⟨.ref f, hs, rfl, rfl⟩) fun u s1 ⟨v, H1, I1, r1, q1⟩ => ?_)
  obtain ⟨rfl, rfl⟩ := q1
  cases r1
  refine PySem.W.callWith_K (h₀ := X.base) I.ok.mod.kin hk (thn (ha.run pos pins s1 σ _ _ I1 ht) fun us s2 ⟨vs, H2, I2, r, q⟩ => ⟨I2.kIn, ?_⟩) he hpl
  exact run_fnS F hr hb (hx σ) I2 r q
end
end L2

/-! STxt -/
/-! The defs by their places in the linked text, their scopes, what the top has written (printed by gen_txt.py). -/
namespace ST
open PySem PySem.Spec PyProof.Rows L2
def top (i : Nat) : Stmt := PySem.Challenge.pw_shavenets_k48_whole_stones.main.body.getD i (.Pass ⟨0, 0, 0, 0⟩)
abbrev s_whole : Stmt := top 9
abbrev n_whole : List Str := ["value"]
abbrev p_whole : List Str := ["value"]
theorem sc_whole : FnScope n_whole p_whole (defScope s_whole) := ⟨rfl, rfl, rfl, by decide +kernel, rfl, by decide +kernel, by decide +kernel⟩
abbrev s_within : Stmt := top 10
abbrev n_within : List Str := ["value", "low", "high"]
abbrev p_within : List Str := ["value", "low", "high"]
theorem sc_within : FnScope n_within p_within (defScope s_within) := ⟨rfl, rfl, rfl, by decide +kernel, rfl, by decide +kernel, by decide +kernel⟩
abbrev s_need_number : Stmt := top 11
abbrev n_need_number : List Str := ["value", "low", "high"]
abbrev p_need_number : List Str := ["value", "low", "high"]
theorem sc_need_number : FnScope n_need_number p_need_number (defScope s_need_number) := ⟨rfl, rfl, rfl, by decide +kernel, rfl, by decide +kernel, by decide +kernel⟩
abbrev s_tuple_of : Stmt := top 12
abbrev n_tuple_of : List Str := ["value", "low", "high"]
abbrev p_tuple_of : List Str := ["value", "low", "high"]
theorem sc_tuple_of : FnScope n_tuple_of p_tuple_of (defScope s_tuple_of) := ⟨rfl, rfl, rfl, by decide +kernel, rfl, by decide +kernel, by decide +kernel⟩
abbrev s_need_net : Stmt := top 13
abbrev n_need_net : List Str := ["net", "index", "pair", "point"]
abbrev p_need_net : List Str := ["net"]
theorem sc_need_net : FnScope n_need_net p_need_net (defScope s_need_net) := ⟨rfl, rfl, rfl, by decide +kernel, rfl, by decide +kernel, by decide +kernel⟩
abbrev s_is_points : Stmt := top 14
abbrev n_is_points : List Str := ["net", "value", "point", "at"]
abbrev p_is_points : List Str := ["net", "value"]
theorem sc_is_points : FnScope n_is_points p_is_points (defScope s_is_points) := ⟨rfl, rfl, rfl, by decide +kernel, rfl, by decide +kernel, by decide +kernel⟩
abbrev s_need_points : Stmt := top 15
abbrev n_need_points : List Str := ["net", "points"]
abbrev p_need_points : List Str := ["net", "points"]
theorem sc_need_points : FnScope n_need_points p_need_points (defScope s_need_points) := ⟨rfl, rfl, rfl, by decide +kernel, rfl, by decide +kernel, by decide +kernel⟩
abbrev s_near_of : Stmt := top 17
abbrev n_near_of : List Str := ["net", "found", "one", "other", "point", "points"]
abbrev p_near_of : List Str := ["net"]
theorem sc_near_of : FnScope n_near_of p_near_of (defScope s_near_of) := ⟨rfl, rfl, rfl, by decide +kernel, rfl, by decide +kernel, by decide +kernel⟩
abbrev s_reach : Stmt := top 18
abbrev n_reach : List Str := ["near", "start", "kept", "found", "rim", "here", "point"]
abbrev p_reach : List Str := ["near", "start", "kept"]
theorem sc_reach : FnScope n_reach p_reach (defScope s_reach) := ⟨rfl, rfl, rfl, by decide +kernel, rfl, by decide +kernel, by decide +kernel⟩
abbrev s_may_put : Stmt := top 21
abbrev n_may_put : List Str := ["near", "points", "point", "most", "kept", "other"]
abbrev p_may_put : List Str := ["near", "points", "point", "most"]
theorem sc_may_put : FnScope n_may_put p_may_put (defScope s_may_put) := ⟨rfl, rfl, rfl, by decide +kernel, rfl, by decide +kernel, by decide +kernel⟩
abbrev s_is_fine : Stmt := top 22
abbrev n_is_fine : List Str := ["near", "points", "most", "kept", "point"]
abbrev p_is_fine : List Str := ["near", "points", "most"]
theorem sc_is_fine : FnScope n_is_fine p_is_fine (defScope s_is_fine) := ⟨rfl, rfl, rfl, by decide +kernel, rfl, by decide +kernel, by decide +kernel⟩
abbrev s_need_stones : Stmt := top 23
abbrev n_need_stones : List Str := ["net", "points", "most", "near"]
abbrev p_need_stones : List Str := ["net", "points", "most"]
theorem sc_need_stones : FnScope n_need_stones p_need_stones (defScope s_need_stones) := ⟨rfl, rfl, rfl, by decide +kernel, rfl, by decide +kernel, by decide +kernel⟩
abbrev s_free_points : Stmt := top 24
abbrev n_free_points : List Str := ["net", "points", "most", "near", "point"]
abbrev p_free_points : List Str := ["net", "points", "most"]
theorem sc_free_points : FnScope n_free_points p_free_points (defScope s_free_points) := ⟨rfl, rfl, rfl, by decide +kernel, rfl, by decide +kernel, by decide +kernel⟩
abbrev s_worth_of : Stmt := top 25
abbrev n_worth_of : List Str := ["near", "points", "most", "known", "some", "point", "found"]
abbrev p_worth_of : List Str := ["near", "points", "most", "known"]
theorem sc_worth_of : FnScope n_worth_of p_worth_of (defScope s_worth_of) := ⟨rfl, rfl, rfl, by decide +kernel, rfl, by decide +kernel, by decide +kernel⟩
abbrev s_worth : Stmt := top 26
abbrev n_worth : List Str := ["net", "points", "most", "near"]
abbrev p_worth : List Str := ["net", "points", "most"]
theorem sc_worth : FnScope n_worth p_worth (defScope s_worth) := ⟨rfl, rfl, rfl, by decide +kernel, rfl, by decide +kernel, by decide +kernel⟩
abbrev s_winning_points : Stmt := top 27
abbrev n_winning_points : List Str := ["net", "points", "most", "near", "known", "found", "point"]
abbrev p_winning_points : List Str := ["net", "points", "most"]
theorem sc_winning_points : FnScope n_winning_points p_winning_points (defScope s_winning_points) := ⟨rfl, rfl, rfl, by decide +kernel, rfl, by decide +kernel, by decide +kernel⟩
abbrev s_most_stones : Stmt := top 28
abbrev n_most_stones : List Str := ["net", "most", "near", "best", "mask", "points", "point"]
abbrev p_most_stones : List Str := ["net", "most"]
theorem sc_most_stones : FnScope n_most_stones p_most_stones (defScope s_most_stones) := ⟨rfl, rfl, rfl, by decide +kernel, rfl, by decide +kernel, by decide +kernel⟩
abbrev s_count_stones : Stmt := top 29
abbrev n_count_stones : List Str := ["net", "most", "near", "counts", "mask", "points", "point"]
abbrev p_count_stones : List Str := ["net", "most"]
theorem sc_count_stones : FnScope n_count_stones p_count_stones (defScope s_count_stones) := ⟨rfl, rfl, rfl, by decide +kernel, rfl, by decide +kernel, by decide +kernel⟩
abbrev s_fewest_full : Stmt := top 30
abbrev n_fewest_full : List Str := ["net", "most", "near", "best", "mask", "points", "point"]
abbrev p_fewest_full : List Str := ["net", "most"]
theorem sc_fewest_full : FnScope n_fewest_full p_fewest_full (defScope s_fewest_full) := ⟨rfl, rfl, rfl, by decide +kernel, rfl, by decide +kernel, by decide +kernel⟩
abbrev s_l_taken : Stmt := top 32
abbrev n_l_taken : List Str := ["_law_row", "_law_many", "_law_found", "_law_cell"]
abbrev p_l_taken : List Str := ["_law_row", "_law_many"]
theorem sc_l_taken : FnScope n_l_taken p_l_taken (defScope s_l_taken) := ⟨rfl, rfl, rfl, by decide +kernel, rfl, by decide +kernel, by decide +kernel⟩
abbrev s_l_net : Stmt := top 33
abbrev n_l_net : List Str := ["_law_row", "_law_most", "_law_many", "_law_joins", "_law_point", "_law_other", "_law_turn", "_law_one"]
abbrev p_l_net : List Str := ["_law_row", "_law_most"]
theorem sc_l_net : FnScope n_l_net p_l_net (defScope s_l_net) := ⟨rfl, rfl, rfl, by decide +kernel, rfl, by decide +kernel, by decide +kernel⟩
abbrev s_l_lot : Stmt := top 34
abbrev n_l_lot : List Str := ["_law_row", "_law_many", "_law_point"]
abbrev p_l_lot : List Str := ["_law_row", "_law_many"]
theorem sc_l_lot : FnScope n_l_lot p_l_lot (defScope s_l_lot) := ⟨rfl, rfl, rfl, by decide +kernel, rfl, by decide +kernel, by decide +kernel⟩
abbrev s_l_sets : Stmt := top 35
abbrev n_l_sets : List Str := ["_law_many", "_law_found", "_law_place", "_law_told"]
abbrev p_l_sets : List Str := ["_law_many"]
theorem sc_l_sets : FnScope n_l_sets p_l_sets (defScope s_l_sets) := ⟨rfl, rfl, rfl, by decide +kernel, rfl, by decide +kernel, by decide +kernel⟩
abbrev s_l_part : Stmt := top 36
abbrev n_l_part : List Str := ["_law_near_here", "_law_kept", "_law_start", "_law_found", "_law_edge", "_law_turn", "_law_here", "_law_fresh", "_law_point"]
abbrev p_l_part : List Str := ["_law_near_here", "_law_kept", "_law_start"]
theorem sc_l_part : FnScope n_l_part p_l_part (defScope s_l_part) := ⟨rfl, rfl, rfl, by decide +kernel, rfl, by decide +kernel, by decide +kernel⟩
abbrev s_l_parts : Stmt := top 37
abbrev n_l_parts : List Str := ["_law_near_here", "_law_kept", "_law_found", "_law_done", "_law_point", "_law_part_here"]
abbrev p_l_parts : List Str := ["_law_near_here", "_law_kept"]
theorem sc_l_parts : FnScope n_l_parts p_l_parts (defScope s_l_parts) := ⟨rfl, rfl, rfl, by decide +kernel, rfl, by decide +kernel, by decide +kernel⟩
abbrev s_l_near : Stmt := top 38
abbrev n_l_near : List Str := ["_law_net_here", "_law_found", "_law_one", "_law_other", "_law_point", "_law_points"]
abbrev p_l_near : List Str := ["_law_net_here"]
theorem sc_l_near : FnScope n_l_near p_l_near (defScope s_l_near) := ⟨rfl, rfl, rfl, by decide +kernel, rfl, by decide +kernel, by decide +kernel⟩
abbrev s_l_fine : Stmt := top 39
abbrev n_l_fine : List Str := ["_law_net_here", "_law_lot_here", "_law_most", "_law_part_here"]
abbrev p_l_fine : List Str := ["_law_net_here", "_law_lot_here", "_law_most"]
theorem sc_l_fine : FnScope n_l_fine p_l_fine (defScope s_l_fine) := ⟨rfl, rfl, rfl, by decide +kernel, rfl, by decide +kernel, by decide +kernel⟩
abbrev s_l_put : Stmt := top 40
abbrev n_l_put : List Str := ["_law_lot_here", "_law_point"]
abbrev p_l_put : List Str := ["_law_lot_here", "_law_point"]
theorem sc_l_put : FnScope n_l_put p_l_put (defScope s_l_put) := ⟨rfl, rfl, rfl, by decide +kernel, rfl, by decide +kernel, by decide +kernel⟩
abbrev s_l_alike : Stmt := top 41
abbrev n_l_alike : List Str := ["_law_found", "_law_due", "_law_k"]
abbrev p_l_alike : List Str := ["_law_found", "_law_due"]
theorem sc_l_alike : FnScope n_l_alike p_l_alike (defScope s_l_alike) := ⟨rfl, rfl, rfl, by decide +kernel, rfl, by decide +kernel, by decide +kernel⟩
abbrev s_law : Stmt := top 42
abbrev n_law : List Str := ["_law_script", "_law_row", "_law_net_here", "_law_many", "_law_most", "_law_lot_here", "_law_told", "_law_fine_here", "_law_worths", "_law_size", "_law_nexts", "_law_some", "_law_found", "_law_work", "_law_free", "_law_top", "_law_sizes", "_law_full", "_law_point", "_law_more", "_law_number"]
abbrev p_law : List Str := ["_law_script"]
theorem sc_law : FnScope n_law p_law (defScope s_law) := ⟨rfl, rfl, rfl, by decide +kernel, rfl, by decide +kernel, by decide +kernel⟩
/-- a def as it stands behind the top -/
structure D (K : PySem.W.Frag) (mg : Str → Option Value) (x : Str) (st : Stmt) (ps : List Str) where
  f : Addr
  fd : FuncData
  F : Fun K x x st f fd
  b : Binds K fd ps []
  g : mg x = some (.ref f)
/-- the class NoRow -/
structure NR (K : PySem.W.Frag) (mg : Str → Option Value) where
  C : Addr
  g : mg "NoRow" = some (.ref C)
  x : PySem.W.excIn K C [.type "ValueError", .type "Exception", .type "BaseException", .type "object"] "ValueError.__new__" = true
  k : PySem.W.keepIn K (.ref C) = true
  b : PySem.W.subIn K (.ref C) (.type "BaseException") = some true
  t : PySem.W.typeIn K (.ref C) = some (.type "type")
  e : PySem.W.exmOne K (.ref C) (.ref C) = some true
structure Txt (K : PySem.W.Frag) (mg : Str → Option Value) where
  d_whole : D K mg "whole" s_whole p_whole
  d_within : D K mg "within" s_within p_within
  d_need_number : D K mg "need_number" s_need_number p_need_number
  d_tuple_of : D K mg "tuple_of" s_tuple_of p_tuple_of
  d_need_net : D K mg "need_net" s_need_net p_need_net
  d_is_points : D K mg "is_points" s_is_points p_is_points
  d_need_points : D K mg "need_points" s_need_points p_need_points
  d_near_of : D K mg "near_of" s_near_of p_near_of
  d_reach : D K mg "reach" s_reach p_reach
  d_may_put : D K mg "may_put" s_may_put p_may_put
  d_is_fine : D K mg "is_fine" s_is_fine p_is_fine
  d_need_stones : D K mg "need_stones" s_need_stones p_need_stones
  d_free_points : D K mg "free_points" s_free_points p_free_points
  d_worth_of : D K mg "worth_of" s_worth_of p_worth_of
  d_worth : D K mg "worth" s_worth p_worth
  d_winning_points : D K mg "winning_points" s_winning_points p_winning_points
  d_most_stones : D K mg "most_stones" s_most_stones p_most_stones
  d_count_stones : D K mg "count_stones" s_count_stones p_count_stones
  d_fewest_full : D K mg "fewest_full" s_fewest_full p_fewest_full
  d_l_taken : D K mg "_law_taken" s_l_taken p_l_taken
  d_l_net : D K mg "_law_net" s_l_net p_l_net
  d_l_lot : D K mg "_law_lot" s_l_lot p_l_lot
  d_l_sets : D K mg "_law_sets" s_l_sets p_l_sets
  d_l_part : D K mg "_law_part" s_l_part p_l_part
  d_l_parts : D K mg "_law_parts" s_l_parts p_l_parts
  d_l_near : D K mg "_law_near" s_l_near p_l_near
  d_l_fine : D K mg "_law_fine" s_l_fine p_l_fine
  d_l_put : D K mg "_law_put" s_l_put p_l_put
  d_l_alike : D K mg "_law_alike" s_l_alike p_l_alike
  d_law : D K mg "law" s_law p_law
  nr : NR K mg
  z_isinstance : mg "isinstance" = none
  z_int : mg "int" = none
  z_bool : mg "bool" = none
  z_tuple : mg "tuple" = none
  z_len : mg "len" = none
  z_enumerate : mg "enumerate" = none
  z_all : mg "all" = none
  z_range : mg "range" = none
  z_sorted : mg "sorted" = none
  z_any : mg "any" = none
  z_min : mg "min" = none
  z_max : mg "max" = none
  z_list : mg "list" = none
  z_str : mg "str" = none
  c_checks : ∃ t, mg "MOST_POINTS_checks" = some (.int 12 t)
  c_stones : ∃ t, mg "MOST_POINTS_stones" = some (.int 10 t)
end ST

/-! SHeap -/
/-! Heaps, lists of sequences, the small checks. -/
namespace ST
open PySem PySem.Spec PyProof.Rows L2

/-! ### what is a built-in -/
theorem bt_isinstance : bootBuiltins "isinstance" = some (.builtin "isinstance") := by decide +kernel
theorem bt_int : bootBuiltins "int" = some (.type "int") := by decide +kernel
theorem bt_bool : bootBuiltins "bool" = some (.type "bool") := by decide +kernel
theorem bt_tuple : bootBuiltins "tuple" = some (.type "tuple") := by decide +kernel
theorem bt_list : bootBuiltins "list" = some (.type "list") := by decide +kernel
theorem bt_str : bootBuiltins "str" = some (.type "str") := by decide +kernel
theorem bt_len : bootBuiltins "len" = some (.builtin "len") := by decide +kernel
theorem bt_sorted : bootBuiltins "sorted" = some (.builtin "sorted") := by decide +kernel
theorem bt_all : bootBuiltins "all" = some (.builtin "all") := by decide +kernel
theorem bt_any : bootBuiltins "any" = some (.builtin "any") := by decide +kernel
theorem bt_min : bootBuiltins "min" = some (.builtin "min") := by decide +kernel
theorem bt_max : bootBuiltins "max" = some (.builtin "max") := by decide +kernel

/-! ### heaps -/
theorem same_new {H : Hp} {p : Addr} {o : HO} (h : H p = none) : Same H (upd H p o) := fun b u q => by rw [upd_ne (ne_of_none q h)]; exact q
/-- a thing that is newer than H is written -/
theorem same_upd {H H1 : Hp} {p : Addr} {o : HO} (s : Same H H1) (h : H p = none) : Same H (upd H1 p o) := fun b u q => by rw [upd_ne (ne_of_none q h)]; exact s b u q
theorem same_more {H H1 : Hp} {p : Addr} {o : HO} (s : Same H H1) (h : H1 p = none) : Same H (upd H1 p o) := s.trans (same_new h)
/-- all but the thing at r -/
def But (r : Addr) (H H' : Hp) : Prop := ∀ b o, b ≠ r → H b = some o → H' b = some o
theorem But.refl (r : Addr) (H : Hp) : But r H H := fun _ _ _ h => h
theorem But.trans {r : Addr} {H H1 H2 : Hp} (a : But r H H1) (b : But r H1 H2) : But r H H2 := fun c o n h => b c o n (a c o n h)
theorem Same.but {r : Addr} {H H' : Hp} (a : Same H H') : But r H H' := fun c o _ h => a c o h
theorem but_upd {r : Addr} {H : Hp} {o : HO} : But r H (upd H r o) := fun b u n h => by rw [upd_ne n]; exact h
theorem small_lst {n : Nat} (h : n ≤ 1000000) : n < sizeLine := by rw [sizeLine_eq]; omega
theorem small_le {n : Nat} (h : n ≤ 1000000) : n ≤ sizeLine := Nat.le_of_lt (small_lst h)

/-! ### a list of addresses of sequences of ints -/
def tupO (l : List Int) : HO := .tup (l.map V.int)
def lstO (l : List Int) : HO := .lst (l.map V.int)
/-- the addresses as hold the sequences ls, each as k says -/
def Each (k : List Int → HO) (H : Hp) (as : List Addr) (ls : List (List Int)) : Prop := as.length = ls.length ∧ ∀ (i : Nat) (a : Addr) (l : List Int), as[i]? = some a → ls[i]? = some l → H a = some (k l)
theorem Each.nil {k : List Int → HO} {H : Hp} : Each k H [] [] := ⟨rfl, fun i a l h => by simp at h⟩
theorem Each.snoc {k : List Int → HO} {H : Hp} {as : List Addr} {ls : List (List Int)} {a : Addr} {l : List Int} (e : Each k H as ls) (h : H a = some (k l)) : Each k H (as ++ [a]) (ls ++ [l]) := by
  refine ⟨by rw [List.length_append, List.length_append, e.1]; rfl, fun i b m hb hm => ?_⟩
  by_cases c : i < as.length
  · rw [List.getElem?_append_left c] at hb
    rw [List.getElem?_append_left (by rw [← e.1]; exact c)] at hm
    exact e.2 i b m hb hm
  · have c1 : as.length ≤ i := by omega
    rw [List.getElem?_append_right c1] at hb
    rw [List.getElem?_append_right (by rw [← e.1]; exact c1), ← e.1] at hm
    cases j : i - as.length with
    | zero =>
      rw [j] at hb hm
      cases hb
      cases hm
      exact h
    | succ z =>
      rw [j] at hb
      simp at hb
theorem Each.append {k : List Int → HO} {H : Hp} {as bs : List Addr} {ls ms : List (List Int)} (e : Each k H as ls) (f : Each k H bs ms) : Each k H (as ++ bs) (ls ++ ms) := by
  refine ⟨by rw [List.length_append, List.length_append, e.1, f.1], fun i b m hb hm => ?_⟩
  by_cases c : i < as.length
  · rw [List.getElem?_append_left c] at hb
    rw [List.getElem?_append_left (by rw [← e.1]; exact c)] at hm
    exact e.2 i b m hb hm
  · have c1 : as.length ≤ i := by omega
    rw [List.getElem?_append_right c1] at hb
    rw [List.getElem?_append_right (by rw [← e.1]; exact c1), ← e.1] at hm
    exact f.2 _ b m hb hm
theorem Each.mono {k : List Int → HO} {H H' : Hp} {as : List Addr} {ls : List (List Int)} (e : Each k H as ls) (s : ∀ a o, a ∈ as → H a = some o → H' a = some o) : Each k H' as ls :=
  ⟨e.1, fun i a l ha hl => s a _ (List.mem_of_getElem? ha) (e.2 i a l ha hl)⟩
theorem Each.same {k : List Int → HO} {H H' : Hp} {as : List Addr} {ls : List (List Int)} (e : Each k H as ls) (s : Same H H') : Each k H' as ls := e.mono fun a o _ h => s a o h
theorem Each.get {k : List Int → HO} {H : Hp} {as : List Addr} {ls : List (List Int)} (e : Each k H as ls) {i : Nat} {l : List Int} (h : ls[i]? = some l) : ∃ a, as[i]? = some a ∧ H a = some (k l) := by
  have hi : i < as.length := by
    have := (List.getElem?_eq_some_iff.mp h).1
    rw [e.1]
    exact this
  exact ⟨as[i], List.getElem?_eq_getElem hi, e.2 i _ l (List.getElem?_eq_getElem hi) h⟩
theorem Each.mem {k : List Int → HO} {H : Hp} {as : List Addr} {ls : List (List Int)} (e : Each k H as ls) {a : Addr} (h : a ∈ as) : ∃ l ∈ ls, H a = some (k l) := by
  obtain ⟨i, hi⟩ := List.getElem?_of_mem h
  have h1 := (List.getElem?_eq_some_iff.mp hi).1
  rw [e.1] at h1
  exact ⟨ls[i], List.getElem_mem h1, e.2 i a _ hi (List.getElem?_eq_getElem h1)⟩
/-- the list at p holds them -/
def Seqs (k : List Int → HO) (H : Hp) (p : Addr) (ls : List (List Int)) : Prop := ∃ as : List Addr, H p = some (.lst (as.map V.ref)) ∧ Each k H as ls
theorem Seqs.same {k : List Int → HO} {H H' : Hp} {p : Addr} {ls : List (List Int)} (e : Seqs k H p ls) (s : Same H H') : Seqs k H' p ls :=
  let ⟨as, h, q⟩ := e; ⟨as, s _ _ h, q.same s⟩
theorem map_ref_get {as : List Addr} {i : Nat} {a : Addr} (h : as[i]? = some a) : (as.map V.ref)[i]? = some (.ref a) := by rw [List.getElem?_map, h]; rfl
theorem map_int_get {ns : List Int} {i : Nat} {z : Int} (h : ns[i]? = some z) : (ns.map V.int)[i]? = some (.int z) := by rw [List.getElem?_map, h]; rfl
theorem of_map_int {ns : List Int} {i : Nat} {v : V} (h : (ns.map V.int)[i]? = some v) : ∃ z, ns[i]? = some z ∧ v = .int z := by
  rw [List.getElem?_map] at h
  cases e : ns[i]? with
  | none => rw [e] at h; cases h
  | some z => rw [e] at h; exact ⟨z, rfl, (Option.some.inj h).symm⟩
theorem of_map_ref {as : List Addr} {i : Nat} {v : V} (h : (as.map V.ref)[i]? = some v) : ∃ a, as[i]? = some a ∧ v = .ref a := by
  rw [List.getElem?_map] at h
  cases e : as[i]? with
  | none => rw [e] at h; cases h
  | some z => rw [e] at h; exact ⟨z, rfl, (Option.some.inj h).symm⟩
theorem lst_snoc_int (ns : List Int) (z : Int) : ns.map V.int ++ [V.int z] = (ns ++ [z]).map V.int := by rw [List.map_append]; rfl
theorem lst_snoc_ref (as : List Addr) (z : Addr) : as.map V.ref ++ [V.ref z] = (as ++ [z]).map V.ref := by rw [List.map_append]; rfl
theorem take_more {α : Type} {l : List α} {i : Nat} {x : α} (h : l[i]? = some x) : l.take (i + 1) = l.take i ++ [x] := by
  rw [List.take_add_one, h]
  rfl
/-- in, for lists of ints -/
theorem inV_ints {x : Int} : ∀ {ns : List Int}, inV (.int x) (ns.map V.int) = decide (x ∈ ns)
  | [] => by simp [inV]
  | n :: r => by
    have ih := inV_ints (x := x) (ns := r)
    unfold inV at ih ⊢
    rw [List.map_cons, List.any_cons, ih]
    by_cases c : x = n
    · subst c
      simp [eqV]
    · have c2 : ¬ n = x := fun z => c z.symm
      simp [eqV, c, c2]
theorem flat_ints : ∀ ns : List Int, (ns.map V.int).all flatV = true
  | [] => rfl
  | n :: r => by
    rw [List.map_cons, List.all_cons, flat_ints r]
    rfl
/-- keys of a dict with int keys -/
theorem val_inl {kvs : List (Key × V)} {ks : List Int} (h : kvs.map (·.1) = ks.map Sum.inl) (x : Int) : (valV kvs (Sum.inl x)).isSome = decide (x ∈ ks) := by
  cases e : valV kvs (Sum.inl x) with
  | none =>
    have := valV_not e
    rw [h] at this
    have hx : x ∉ ks := fun m => this (List.mem_map.mpr ⟨x, m, rfl⟩)
    simp [hx]
  | some v =>
    have := valV_in e
    rw [h] at this
    obtain ⟨y, hy, ey⟩ := List.mem_map.mp this
    have : y = x := Sum.inl.inj ey
    subst this
    simp [hy]

/-! ### rules with the written part named (within a comprehension's block) -/
theorem ixT (K : PySem.W.Frag) {X : Cx} (h : X.K = K := by rfl) : IxR X (rIxT K) := h ▸ ix_tup
theorem ixL (K : PySem.W.Frag) {X : Cx} (h : X.K = K := by rfl) : IxR X (rIxL K) := h ▸ ix_list
theorem opIn (K : PySem.W.Frag) {X : Cx} (h : X.K = K := by rfl) : OpR X (compareOp .In) (rIn K false) := h ▸ op_in_seq
theorem opNotIn (K : PySem.W.Frag) {X : Cx} (h : X.K = K := by rfl) : OpR X (compareOp .NotIn) (rIn K true) := h ▸ op_notIn_seq
def rLenS (K : PySem.W.Frag) : List V → Hp → VK → Prop := fun xs H Q => ∃ p ys, xs = [.ref p] ∧ (SqL K H p ys ∨ SqT K H p ys) ∧ Q (.int (ys.length : Nat)) H
theorem crLen (K : PySem.W.Frag) {X : Cx} (h : X.K = K := by rfl) : CallR X (.builtin "len") (rLenS K) := h ▸ call_len_seq
theorem opCatA (K : PySem.W.Frag) {X : Cx} (h : X.K = K := by rfl) : OpR X (binaryOp .Add) (rCatA K) := h ▸ op_catA
theorem opEqD (K : PySem.W.Frag) {X : Cx} (hu : X.A.units + 64 < cLine) (h : X.K = K := by rfl) : OpR X (compareOp .Eq) (rEqD K) := h ▸ op_eqD hu
theorem crSortedIT (K : PySem.W.Frag) {X : Cx} (hu : X.A.units + 64 < cLine) (h : X.K = K := by rfl) : CallR X (.builtin "sorted") (rSortedIT K) := h ▸ cr_sortedIT hu

/-! ### nets -/
open SM
/-- a joined pair -/
abbrev Pr := Int × Int
def prO (p : Pr) : HO := .tup [.int p.1, .int p.2]
structure NetV (n : Nat) (E : List Pr) : Prop where
  n0 : 1 ≤ n
  n6 : n ≤ 6
  rng : ∀ p ∈ E, 0 ≤ p.1 ∧ p.1 < p.2 ∧ p.2 < (n : Int)
  asc : E.Pairwise fun p q => [p.1, p.2] < [q.1, q.2]
  len : E.length ≤ 60
/-- the tuple at a is the net -/
def NetAt (H : Hp) (a : Addr) (n : Nat) (E : List Pr) : Prop := ∃ (pr : Addr) (qs : List Addr), H a = some (.tup [.int n, .ref pr]) ∧ H pr = some (.tup (qs.map V.ref)) ∧ qs.length = E.length ∧ ∀ (i : Nat) (q : Addr) (p : Pr), qs[i]? = some q → E[i]? = some p → H q = some (prO p)
theorem NetAt.same {H H' : Hp} {a : Addr} {n : Nat} {E : List Pr} (h : NetAt H a n E) (s : Same H H') : NetAt H' a n E := by
  obtain ⟨pr, qs, h1, h2, h3, h4⟩ := h
  exact ⟨pr, qs, s _ _ h1, s _ _ h2, h3, fun i q p hq hp => s _ _ (h4 i q p hq hp)⟩
/-- the near lists of a net -/
noncomputable def nearL (n : Nat) (E : List Pr) : List (List Int) := (List.range n).map fun a : Nat => (pts n).filter fun b => decide (((a : Int), b) ∈ E ∨ (b, (a : Int)) ∈ E)
theorem nearL_get {n : Nat} {E : List Pr} {i : Nat} (h : i < n) : (nearL n E)[i]? = some ((pts n).filter fun b => decide (((i : Int), b) ∈ E ∨ (b, (i : Int)) ∈ E)) := by
  unfold nearL
  rw [List.getElem?_map, List.getElem?_range h]
  rfl
theorem nearL_near {n : Nat} {E : List Pr} (h : NetV n E) : Near n (nearL n E) where
  len := by unfold nearL; rw [List.length_map, List.length_range]
  nd := fun l hl => by
    obtain ⟨i, _, rfl⟩ := List.mem_map.mp hl
    exact ((asc_pts n).filter _).nodup
  rng := fun l hl u hu => by
    obtain ⟨i, _, rfl⟩ := List.mem_map.mp hl
    exact mem_pts.mp (List.mem_filter.mp hu).1
  sym := fun a b ha hb hm => by
    rw [List.getD_eq_getElem?_getD] at hm ⊢
    by_cases c : a.toNat < n
    · rw [nearL_get c] at hm
      have hm' := List.mem_filter.mp hm
      have hbr := mem_pts.mp hm'.1
      have e1 : ((a.toNat : Nat) : Int) = a := by omega
      have e2 : ((b.toNat : Nat) : Int) = b := by omega
      have hE := of_decide_eq_true hm'.2
      rw [e1] at hE
      rw [nearL_get (show b.toNat < n by omega), e2]
      refine List.mem_filter.mpr ⟨mem_pts.mpr ⟨ha, by omega⟩, decide_eq_true ?_⟩
      exact hE.symm
    · have e : (nearL n E)[a.toNat]? = none := List.getElem?_eq_none (by unfold nearL; rw [List.length_map, List.length_range]; omega)
      rw [e] at hm
      simp at hm

/-! ### the small checks -/
section
variable {P : Program} {w : World} {K : PySem.W.Frag} {mg : Str → Option Value} {base : Heap}
def spWhole : Sp := fun vs H Q _ => ∃ i : Int, vs = [.int i] ∧ Q (.bl true) H
theorem ok_whole (T : Txt K mg) : FnOk P w K mg base CX0 1 T.d_whole.f T.d_whole.fd p_whole spWhole := by
  refine T.d_whole.F.ok sc_whole (fun vs H Q E h => ?_) (fun cdv A outer s H vs Q E hr h => ?_)
  · obtain ⟨i, rfl, _⟩ := h
    rfl
  obtain ⟨i, rfl, q⟩ := h
  refine ⟨_, pss_one (ps_ret (pe_and (pe_callB call_isi (by rfl) T.z_isinstance bt_isinstance (pa_cons (pv 0) (pa_cons (pe_bltn (v := .ty "int") (by rfl) T.z_int bt_int rfl) pa_nil)))
    (pe_one (pe_not (pe_callB call_isi (by rfl) T.z_isinstance bt_isinstance (pa_cons (pv 0) (pa_cons (pe_bltn (v := .ty "bool") (by rfl) T.z_bool bt_bool rfl) pa_nil))))))), ?_⟩
  refine ⟨_, rfl, .int i, .ty "int", _, _, true, rfl, .ty "int", .base (.int i), kit_ty (by decide +kernel), true, rfl, iteT ?_⟩
  exact ⟨_, rfl, .int i, .ty "bool", _, _, false, rfl, .ty "bool", .base (.int i), kit_ty (by decide +kernel), false, rfl, q⟩
def spWithin : Sp := fun vs H Q _ => ∃ v lo hi : Int, vs = [.int v, .int lo, .int hi] ∧ lo ≤ v ∧ v ≤ hi ∧ Q (.bl true) H
theorem ok_within (T : Txt K mg) : FnOk P w K mg base CX0 2 T.d_within.f T.d_within.fd p_within spWithin := by
  refine T.d_within.F.ok sc_within (fun vs H Q E h => ?_) (fun cdv A outer s H vs Q E hr h => ?_)
  · obtain ⟨i, lo, hi, rfl, _⟩ := h
    rfl
  obtain ⟨i, lo, hi, rfl, h1, h2, q⟩ := h
  refine ⟨_, pss_one (ps_ret (pe_and (pe_call (ok_whole T) hr (by rfl) T.d_whole.g T.d_whole.F.kp T.d_whole.b .nil pass0 (pa_cons (pv 0) pa_nil))
    (pe_one (pe_chain op_le op_le (pv 1) (pv 0) (pv 2))))), ?_⟩
  refine ⟨_, rfl, i, rfl, true, rfl, iteT ?_⟩
  refine ⟨_, rfl, _, rfl, lo, i, rfl, rfl, _, rfl, ?_⟩
  rw [decide_eq_true h1]
  refine iteT ⟨_, rfl, i, hi, rfl, rfl, ?_⟩
  show Q (.bl (decide (i ≤ hi))) H
  rw [decide_eq_true h2]
  exact q
def spNeedNumber : Sp := fun vs H Q _ => ∃ v lo hi : Int, vs = [.int v, .int lo, .int hi] ∧ lo ≤ v ∧ v ≤ hi ∧ Q .non H
theorem ok_need_number (T : Txt K mg) : FnOk P w K mg base CX0 3 T.d_need_number.f T.d_need_number.fd p_need_number spNeedNumber := by
  refine T.d_need_number.F.ok sc_need_number (fun vs H Q E h => ?_) (fun cdv A outer s H vs Q E hr h => ?_)
  · obtain ⟨i, lo, hi, rfl, _⟩ := h
    rfl
  obtain ⟨i, lo, hi, rfl, h1, h2, q⟩ := h
  refine ⟨_, pss_one (ps_if (pt_not (pt_val (pe_call (ok_within T) hr (by rfl) T.d_within.g T.d_within.F.kp T.d_within.b .nil pass0 (pa_cons (pv 0) (pa_cons (pv 1) (pa_cons (pv 2) pa_nil)))))) pss_never pss_nil), ?_⟩
  exact ⟨_, rfl, _, rfl, _, rfl, i, lo, hi, rfl, h1, h2, true, rfl, iteF q⟩
def spTupleOf : Sp := fun vs H Q _ => ∃ (a : Addr) (xs : List V) (lo hi : Int), vs = [.ref a, .int lo, .int hi] ∧ H a = some (.tup xs) ∧ lo ≤ (xs.length : Int) ∧ (xs.length : Int) ≤ hi ∧ Q (.bl true) H
theorem ok_tuple_of (T : Txt K mg) : FnOk P w K mg base CX0 1 T.d_tuple_of.f T.d_tuple_of.fd p_tuple_of spTupleOf := by
  refine T.d_tuple_of.F.ok sc_tuple_of (fun vs H Q E h => ?_) (fun cdv A outer s H vs Q E hr h => ?_)
  · obtain ⟨a, xs, lo, hi, rfl, _⟩ := h
    rfl
  obtain ⟨a, xs, lo, hi, rfl, ha, h1, h2, q⟩ := h
  refine ⟨_, pss_one (ps_ret (pe_and (pe_callB call_isi (by rfl) T.z_isinstance bt_isinstance (pa_cons (pv 0) (pa_cons (pe_bltn (v := .ty "tuple") (by rfl) T.z_tuple bt_tuple rfl) pa_nil)))
    (pe_one (pe_chain op_le op_le (pv 1) (pe_callB call_len_seq (by rfl) T.z_len bt_len (pa_cons (pv 0) pa_nil)) (pv 2))))), ?_⟩
  refine ⟨_, rfl, .ref a, .ty "tuple", _, _, true, rfl, .ty "tuple", .base (.tup ha), kit_ty (by decide +kernel), true, rfl, iteT ?_⟩
  refine ⟨_, rfl, _, rfl, a, xs, rfl, .inr (SqT.of ha), lo, xs.length, rfl, rfl, _, rfl, ?_⟩
  rw [decide_eq_true h1]
  refine iteT ⟨_, rfl, xs.length, hi, rfl, rfl, ?_⟩
  show Q (.bl (decide ((xs.length : Int) ≤ hi))) H
  rw [decide_eq_true h2]
  exact q
end
end ST

/-! SLoops -/
/-! Loops and comprehensions that leave all that stood: short forms. -/
namespace ST
open PySem PySem.Spec PyProof.Rows L2 SM

/-- for i, x in enumerate(tuple) -/
theorem for_enumT {K : PySem.W.Frag} {a : Addr} {xs : List V} {g : TG} {tb : TS} {D : Ends} {σ : L2.St} {H : Hp} (Pv : Nat → L2.St → Hp → Prop) (h0 : Pv 0 σ H) (hl : ∀ i σ H, i ≤ xs.length → Pv i σ H → SqT K H a xs)
    (hs : ∀ i x σ H Tp, xs[i]? = some x → Pv i σ H → H Tp = none → g (.ref Tp) σ (upd H Tp (.tup [.int (i : Nat), x])) fun σ2 H2 => tb { D with nx := Pv (i + 1), ct := Pv (i + 1), bk := D.nx } σ2 H2) (hd : ∀ σ H, Pv xs.length σ H → D.nx σ H) :
    ∃ W : Nat → Nat → L2.St → Hp → Prop, (∃ m, W 0 m σ H) ∧ ∀ i m σ H, W i m σ H →
      ((IteT K a).stop i H ∧ D.nx σ H) ∨ ((IteT K a).go i H ∧ ∃ N : L2.St → Hp → Prop, (∀ σ' H', N σ' H' → ∃ m', m' < m ∧ W (i + 1) m' σ' H') ∧ ∀ x H', (IteT K a).yld i H x H' → g x σ H' fun σ2 H2 => tb { D with nx := N, ct := N, bk := D.nx } σ2 H2) := by
  refine ⟨fun i m σ H => m = xs.length - i ∧ i ≤ xs.length ∧ Pv i σ H, ⟨xs.length, by simp, Nat.zero_le _, h0⟩, ?_⟩
  rintro i m σ H ⟨rfl, hi, p⟩
  have q := hl i σ H hi p
  by_cases hlt : i < xs.length
  · refine .inr ⟨⟨xs, xs[i], q, by simp [hlt]⟩, Pv (i + 1), fun σ' H' p' => ⟨xs.length - (i + 1), by omega, rfl, hlt, p'⟩, fun x H' y => ?_⟩
    obtain ⟨Tp, z, rfl, hT, rfl, y⟩ := y
    exact hs i z σ H Tp (y xs q) p hT
  · have e : i = xs.length := by omega
    subst e
    exact .inl ⟨⟨xs, q, Nat.le_refl _⟩, hd σ H p⟩

section
variable {K : PySem.W.Frag} {g : TG} {tt : TT} {te : TE} {vs : List Nat} {σ : L2.St} {H0 : Hp} {D : Addr} {Qd : Hp → Prop}
/-- [e for x in tuple if t], nothing that stood is changed; ys i: what is listed behind i items -/
theorem lcs_tup {a : Addr} {xs : List V} (ys : Nat → List V) (hD : H0 D = none) (h00 : ys 0 = []) (ha : SqT K H0 a xs) (hz : ∀ i, i < xs.length → (ys i).length ≤ 100000)
    (hs : ∀ (i : Nat) (x : V) (H : Hp) (R : V → Hp → Prop) (R' : Hp → Prop), xs[i]? = some x → Same H0 H → (∀ y H4, Same H H4 → ys (i + 1) = ys i ++ [y] → R y H4) → (∀ H4, Same H H4 → ys (i + 1) = ys i → R' H4) →
      g x (wipe σ vs) H fun σ2 H2 => wipe σ2 vs = wipe σ vs ∧ tt σ2 H2 fun b H3 => if b = true then te σ2 H3 R else R' H3)
    (hd : ∀ H, Same H0 H → H D = some (.lst (ys xs.length)) → Qd H) :
    ∃ W : Nat → Nat → Hp → Prop, (∃ m, W 0 m (upd H0 D (.lst []))) ∧ ∀ i m H, W i m H →
      ((Itt K a).stop i H ∧ Qd H) ∨ ((Itt K a).go i H ∧ ∃ Nx : Hp → Prop, (∀ H', Nx H' → ∃ m', m' < m ∧ W (i + 1) m' H') ∧ ∀ x H', (Itt K a).yld i H x H' → g x (wipe σ vs) H' fun σ2 H2 => wipe σ2 vs = wipe σ vs ∧ tt σ2 H2 fun b H3 =>
        if b = true then te σ2 H3 fun y H4 => ∃ acc, H4 D = some (.lst acc) ∧ acc.length < sizeLine ∧ Nx (upd H4 D (.lst (acc ++ [y]))) else Nx H3) := by
  have stay : ∀ H, Same H0 H → SqT K H a xs := fun H s => by
    rcases ha with (h | ⟨o, h⟩) | h
    · exact .inl (.inl (s _ _ h))
    · exact .inl (.inr ⟨o, s _ _ h⟩)
    · exact .inr h
  refine lc_tup (K := K) (a := a) (xs := xs) (fun i H => Same H0 H ∧ H D = some (.lst (ys i))) ⟨same_new hD, by rw [upd_same, h00]⟩ (fun i H _ p => stay H p.1) (fun i x H hx ⟨s, hl⟩ => ?_) fun H p => hd H p.1 p.2
  refine hs i x H _ _ hx s (fun y H4 s4 e => ⟨ys i, s4 _ _ hl, small_lst (Nat.le_trans (hz i (List.getElem?_eq_some_iff.mp hx).1) (by decide)), same_upd (s.trans s4) hD, by rw [upd_same, e]⟩) fun H4 s4 e => ⟨s.trans s4, by rw [e]; exact s4 _ _ hl⟩
/-- .. over a list that stands -/
theorem lcs_list {a : Addr} {xs : List V} (ys : Nat → List V) (hD : H0 D = none) (h00 : ys 0 = []) (ha : SqL K H0 a xs) (hz : ∀ i, i < xs.length → (ys i).length ≤ 100000)
    (hs : ∀ (i : Nat) (x : V) (H : Hp) (R : V → Hp → Prop) (R' : Hp → Prop), xs[i]? = some x → Same H0 H → (∀ y H4, Same H H4 → ys (i + 1) = ys i ++ [y] → R y H4) → (∀ H4, Same H H4 → ys (i + 1) = ys i → R' H4) →
      g x (wipe σ vs) H fun σ2 H2 => wipe σ2 vs = wipe σ vs ∧ tt σ2 H2 fun b H3 => if b = true then te σ2 H3 R else R' H3)
    (hd : ∀ H, Same H0 H → H D = some (.lst (ys xs.length)) → Qd H) :
    ∃ W : Nat → Nat → Hp → Prop, (∃ m, W 0 m (upd H0 D (.lst []))) ∧ ∀ i m H, W i m H →
      ((Itl K a).stop i H ∧ Qd H) ∨ ((Itl K a).go i H ∧ ∃ Nx : Hp → Prop, (∀ H', Nx H' → ∃ m', m' < m ∧ W (i + 1) m' H') ∧ ∀ x H', (Itl K a).yld i H x H' → g x (wipe σ vs) H' fun σ2 H2 => wipe σ2 vs = wipe σ vs ∧ tt σ2 H2 fun b H3 =>
        if b = true then te σ2 H3 fun y H4 => ∃ acc, H4 D = some (.lst acc) ∧ acc.length < sizeLine ∧ Nx (upd H4 D (.lst (acc ++ [y]))) else Nx H3) := by
  refine lc_list (K := K) (a := a) (xs := xs) (fun i H => Same H0 H ∧ H D = some (.lst (ys i))) ⟨same_new hD, by rw [upd_same, h00]⟩ (fun i H _ p => p.1.seq ha) (fun i x H hx ⟨s, hl⟩ => ?_) fun H p => hd H p.1 p.2
  refine hs i x H _ _ hx s (fun y H4 s4 e => ⟨ys i, s4 _ _ hl, small_lst (Nat.le_trans (hz i (List.getElem?_eq_some_iff.mp hx).1) (by decide)), same_upd (s.trans s4) hD, by rw [upd_same, e]⟩) fun H4 s4 e => ⟨s.trans s4, by rw [e]; exact s4 _ _ hl⟩
/-- .. over a range -/
theorem lcs_range {lo : Int} {n : Nat} (ys : Nat → List V) (hD : H0 D = none) (h00 : ys 0 = []) (hz : ∀ i, i < n → (ys i).length ≤ 100000)
    (hs : ∀ (i : Nat) (H : Hp) (R : V → Hp → Prop) (R' : Hp → Prop), i < n → Same H0 H → (∀ y H4, Same H H4 → ys (i + 1) = ys i ++ [y] → R y H4) → (∀ H4, Same H H4 → ys (i + 1) = ys i → R' H4) →
      g (.int (lo + i)) (wipe σ vs) H fun σ2 H2 => wipe σ2 vs = wipe σ vs ∧ tt σ2 H2 fun b H3 => if b = true then te σ2 H3 R else R' H3)
    (hd : ∀ H, Same H0 H → H D = some (.lst (ys n)) → Qd H) :
    ∃ W : Nat → Nat → Hp → Prop, (∃ m, W 0 m (upd H0 D (.lst []))) ∧ ∀ i m H, W i m H →
      ((Itr lo n).stop i H ∧ Qd H) ∨ ((Itr lo n).go i H ∧ ∃ Nx : Hp → Prop, (∀ H', Nx H' → ∃ m', m' < m ∧ W (i + 1) m' H') ∧ ∀ x H', (Itr lo n).yld i H x H' → g x (wipe σ vs) H' fun σ2 H2 => wipe σ2 vs = wipe σ vs ∧ tt σ2 H2 fun b H3 =>
        if b = true then te σ2 H3 fun y H4 => ∃ acc, H4 D = some (.lst acc) ∧ acc.length < sizeLine ∧ Nx (upd H4 D (.lst (acc ++ [y]))) else Nx H3) := by
  refine lc_range (lo := lo) (n := n) (fun i H => Same H0 H ∧ H D = some (.lst (ys i))) ⟨same_new hD, by rw [upd_same, h00]⟩ (fun i H hi ⟨s, hl⟩ => ?_) fun H p => hd H p.1 p.2
  refine hs i H _ _ hi s (fun y H4 s4 e => ⟨ys i, s4 _ _ hl, small_lst (Nat.le_trans (hz i hi) (by decide)), same_upd (s.trans s4) hD, by rw [upd_same, e]⟩) fun H4 s4 e => ⟨s.trans s4, by rw [e]; exact s4 _ _ hl⟩
end
/-- the dict {x: True, ..} -/
def keysT (ns : List Int) : List (Key × V) := ns.map fun z => (Sum.inl z, V.bl true)
theorem keysT_fst (ns : List Int) : (keysT ns).map (·.1) = ns.map Sum.inl := by unfold keysT; rw [List.map_map]; rfl
theorem keysT_val (ns : List Int) (x : Int) : (valV (keysT ns) (Sum.inl x)).isSome = decide (x ∈ ns) := val_inl (keysT_fst ns) x
theorem keysT_snoc {ns : List Int} {z : Int} (h : z ∉ ns) : putK (keysT ns) (Sum.inl z) (.bl true) = keysT (ns ++ [z]) := by
  rw [putK_new]
  · unfold keysT
    rw [List.map_append]
    rfl
  · have := keysT_val ns z
    cases e : valV (keysT ns) (Sum.inl z) with
    | none => rfl
    | some v =>
      rw [e] at this
      simp [h] at this
/-- {x: True for x in t}, t a tuple of unlike ints, x in slot i -/
theorem dc_keys {K : PySem.W.Frag} {a : Addr} {ns : List Int} {σ : L2.St} {H0 : Hp} {D : Addr} {Qd : Hp → Prop} {i : Nat} (hi : i < σ.length) (hD : H0 D = none) (ha : H0 a = some (tupO ns)) (nd : ns.Nodup) (hl : ns.length ≤ 1000)
    (hd : ∀ H, Same H0 H → H D = some (.dK (keysT ns)) → Qd H) :
    ∃ W : Nat → Nat → Hp → Prop, (∃ m, W 0 m (upd H0 D (.dK []))) ∧ ∀ j m H, W j m H →
      ((Itt K a).stop j H ∧ Qd H) ∨ ((Itt K a).go j H ∧ ∃ Nx : Hp → Prop, (∀ H', Nx H' → ∃ m', m' < m ∧ W (j + 1) m' H') ∧ ∀ x H', (Itt K a).yld j H x H' → gName i x (wipe σ [i]) H' fun σ2 H2 => wipe σ2 [i] = wipe σ [i] ∧ tYes σ2 H2 fun b H3 =>
        if b = true then tVar i σ2 H3 fun y H4 => tC (.bl true) σ2 H4 fun z H5 => ∃ kvs k, y = kV k ∧ H5 D = some (.dK kvs) ∧ kvs.length < sizeLine ∧ Nx (upd H5 D (.dK (putK kvs k z))) else Nx H3) := by
  refine dc_tup (K := K) (a := a) (xs := ns.map V.int) (fun j H => Same H0 H ∧ H D = some (.dK (keysT (ns.take j)))) ⟨same_new hD, by rw [upd_same]; rfl⟩ (fun j H _ p => SqT.of (p.1 _ _ ha)) (fun j x H hx ⟨s, hk⟩ => ?_) fun H p => hd H p.1 ?_
  · obtain ⟨z, hz, rfl⟩ := of_map_int hx
    have hj : z ∉ ns.take j := fun m => by
      have e := take_more hz
      have nd2 : (ns.take (j + 1)).Nodup := nd.sublist (List.take_sublist _ _)
      rw [e] at nd2
      exact (List.nodup_append.mp nd2).2.2 z m z (by simp) rfl
    have h1 : ((wipe σ [i]).set i (some (V.int z)))[i]? = some (some (V.int z)) := by
      show ((σ.set i none).set i (some (V.int z)))[i]? = _
      rw [List.getElem?_set_self (by rw [List.length_set]; exact hi)]
    refine ⟨?_, ⟨_, h1, keysT (ns.take j), Sum.inl z, rfl, hk, ?_, same_upd s hD, ?_⟩⟩
    · show ((σ.set i none).set i (some (V.int z))).set i none = σ.set i none
      rw [List.set_set, List.set_set]
    · unfold keysT
      rw [List.length_map, List.length_take]
      exact small_lst (by omega)
    · rw [upd_same, keysT_snoc hj, take_more hz]
  · have e := p.2
    rw [List.length_map, List.take_length] at e
    exact e
end ST

/-! SNet -/
/-! need_net, is_points, need_points. -/
namespace ST
open PySem PySem.Spec PyProof.Rows L2 SM
section
variable {P : Program} {w : World} {K : PySem.W.Frag} {mg : Str → Option Value} {base : Heap}
def spNeedNet : Sp := fun vs H Q _ => ∃ (a : Addr) (n : Nat) (E : List Pr), vs = [.ref a] ∧ NetAt H a n E ∧ NetV n E ∧ ∀ H', Same H H' → Q .non H'
theorem allTrue : ∀ m : Nat, (List.replicate m true).all id = true
  | 0 => rfl
  | m + 1 => by rw [List.replicate_succ, List.all_cons, allTrue m]; rfl
theorem ok_need_net (T : Txt K mg) : FnOk P w K mg base CX0 3 T.d_need_net.f T.d_need_net.fd p_need_net spNeedNet := by
  refine T.d_need_net.F.ok sc_need_net (fun vs H Q E h => ?_) (fun cdv A outer s H vs Q E hr h => ?_)
  · obtain ⟨a, n, E, rfl, _⟩ := h
    rfl
  obtain ⟨a, n, ES, rfl, hN, hV, q⟩ := h
  obtain ⟨t12, g12⟩ := T.c_checks
  have hr1 : Room 1 _ := hr.mono (by decide)
  have hu64 := hr.units
  refine ⟨_, pss_cons (ps_if (PW.pt (pw_or (pt_not (pt_val (pe_call (ok_tuple_of T) hr1 (by rfl) T.d_tuple_of.g T.d_tuple_of.F.kp T.d_tuple_of.b .nil pass0 (pa_cons (pv 0) (pa_cons pe_int (pa_cons pe_int pa_nil))))))
      (pw_or (pt_not (pt_val (pe_call (ok_within T) hr (by rfl) T.d_within.g T.d_within.F.kp T.d_within.b .nil pass0 (pa_cons (pe_ix ix_tup (pv 0) pe_int (fun _ _ => rfl)) (pa_cons pe_int (pa_cons (pe_glob (v := .int 12) (by rfl) g12 ⟨_, rfl⟩) pa_nil))))))
        (pw_or1 (pt_not (pt_val (pe_call (ok_tuple_of T) hr1 (by rfl) T.d_tuple_of.g T.d_tuple_of.F.kp T.d_tuple_of.b .nil pass0 (pa_cons (pe_ix ix_tup (pv 0) pe_int (fun _ _ => rfl)) (pa_cons pe_int (pa_cons pe_int pa_nil)))))))))) pss_never pss_nil)
    (pss_one (ps_for PassesOwn.never rfl (pi_enumT (by rfl) T.z_enumerate (pa_cons (pe_ix ix_tup (pv 0) pe_int (fun _ _ => rfl)) pa_nil))
      (pg_tup rfl (pgs_cons (pg_name (i := 1) sc_need_net.nd rfl (.inl rfl)) (pgs_cons (pg_name (i := 2) sc_need_net.nd rfl (.inl rfl)) pgs_nil)))
      (pss_cons (ps_if (PW.pt (pw_or (pt_not (pt_val (pe_call (ok_tuple_of T) hr1 (by rfl) T.d_tuple_of.g T.d_tuple_of.F.kp T.d_tuple_of.b .nil pass0 (pa_cons (pv 2) (pa_cons pe_int (pa_cons pe_int pa_nil))))))
        (pw_or1 (pt_not (pt_val (pe_callB (cr_all rfl) (by rfl) T.z_all bt_all (pa_cons (pe_lc (own := [("point", 3)]) rfl sc_need_net.nd (pi_tup (pv 2)) (blkOk_by (own := [("point", 3)]) (N := n_need_net) (sc := defScope s_need_net) (by decide +kernel))
          (fun _ _ _ _ _ => pg_name (i := 3) sc_need_net.nd rfl (Or.inl rfl)) (fun _ _ _ _ _ => pts_nil)
          (fun _ _ _ _ _ => pe_call (ok_within T) hr (by rfl) T.d_within.g T.d_within.F.kp T.d_within.b .nil pass0 (pa_cons (pv 3) (pa_cons pe_int (pa_cons (pe_op op_sub (pe_ix (ixT K) (pv 0) pe_int (fun _ _ => rfl)) pe_int) pa_nil))))) pa_nil))))))) pss_never pss_nil)
      (pss_one (ps_if (PW.pt (pw_or (pt_cmpR op_ge (pe_ix ix_tup (pv 2) pe_int (fun _ _ => rfl)) (pe_ix ix_tup (pv 2) pe_int (fun _ _ => rfl)) (nomark _))
        (pw_or1 (PW.pt (pw_and (pt_cmpR op_gt (pv 1) pe_int (nomark _)) (pw_and1 (pt_cmpR (op_leDt hu64) (pv 2) (pe_ix ix_tup (pe_ix ix_tup (pv 0) pe_int (fun _ _ => rfl)) (pe_op op_sub (pv 1) pe_int) (fun _ _ => rfl)) (nomark _)))))))) pss_never pss_nil))))), ?_⟩
  obtain ⟨pr, qs, h1, h2, h3, h4⟩ := hN
  have hn0 := hV.n0
  have hn6 := hV.n6
  have hl := hV.len
  refine ⟨_, rfl, a, _, 2, 2, rfl, h1, (by show (2 : Int) ≤ 2; decide), (by show (2 : Int) ≤ 2; decide), true, rfl, iteF ?_⟩
  refine ⟨_, rfl, a, _, 0, _, rfl, rfl, SqT.of h1, atI_nat (j := 0) rfl, n, 1, 12, rfl, by omega, by omega, true, rfl, iteF ?_⟩
  refine ⟨_, rfl, a, _, 1, _, rfl, rfl, SqT.of h1, atI_nat (j := 1) rfl, pr, _, 0, 66, rfl, h2, Int.natCast_nonneg _, by rw [List.length_map, h3]; omega, true, rfl, iteF ?_⟩
  refine ⟨_, rfl, a, _, 1, _, rfl, rfl, SqT.of h1, atI_nat (j := 1) rfl, pr, _, rfl, SqT.of h2, ?_⟩
  refine for_enumT (K := K) (a := pr) (xs := qs.map V.ref) (fun i σ H' => ∃ y1 y2, σ = [some (.ref a), y1, y2, none] ∧ Same H H') ⟨none, none, rfl, Same.refl H⟩ (fun i σ H' _ ⟨_, _, _, s⟩ => SqT.of (s _ _ h2)) ?_ ?_
  · rintro i x σ H' Tp hx ⟨y1, y2, rfl, sm⟩ hT
    obtain ⟨qa, hq, rfl⟩ := of_map_ref hx
    have hi : i < ES.length := by
      have := (List.getElem?_eq_some_iff.mp hq).1
      omega
    have hp : ES[i]? = some ES[i] := List.getElem?_eq_getElem hi
    generalize ES[i] = p at hp
    have hpm : p ∈ ES := List.mem_of_getElem? hp
    obtain ⟨r0, r1, r2⟩ := hV.rng p hpm
    have s1 : Same H (upd H' Tp (.tup [.int (i : Nat), .ref qa])) := same_more sm hT
    have hqa : (upd H' Tp (.tup [.int (i : Nat), .ref qa])) qa = some (prO p) := s1 _ _ (h4 i qa p hq hp)
    have ha1 := s1 _ _ h1
    have hpr1 := s1 _ _ h2
    refine ⟨Tp, _, rfl, SqT.of upd_same, rfl, _, _, rfl, _, _, rfl, rfl, ?_⟩
    refine ⟨_, rfl, qa, _, 2, 2, rfl, hqa, (by show (2 : Int) ≤ 2; decide), (by show (2 : Int) ≤ 2; decide), true, rfl, iteF ?_⟩
    refine ⟨_, rfl, qa, rfl, ⟨_, SqT.of hqa⟩, fun Dd hD => ?_⟩
    refine lcs_tup (K := K) (a := qa) (xs := [.int p.1, .int p.2]) (fun j => List.replicate j (.bl true)) hD rfl (SqT.of hqa) (fun j hj => ?_) (fun j x H2 R R' hx2 s2 kR _ => ?_) fun H2 s2 hl2 => ?_
    · rw [List.length_replicate]
      have : j < 2 := hj
      omega
    · obtain ⟨z, rfl, z0, z1⟩ : ∃ z : Int, x = .int z ∧ 0 ≤ z ∧ z ≤ (n : Int) - 1 := by
        match j, hx2 with
        | 0, hx2 => exact ⟨p.1, (Option.some.inj hx2).symm, r0, by omega⟩
        | 1, hx2 => exact ⟨p.2, (Option.some.inj hx2).symm, by omega, by omega⟩
        | j + 2, hx2 => simp at hx2
      refine ⟨rfl, ⟨_, rfl, _, rfl, a, _, 0, _, rfl, rfl, SqT.of (s2 _ _ ha1), atI_nat (j := 0) rfl, n, 1, rfl, rfl, z, 0, n - 1, rfl, z0, z1, ?_⟩⟩
      refine kR _ _ (Same.refl _) ?_
      rw [List.replicate_succ']
    · refine ⟨Dd, [true, true], rfl, SqL.of hl2, true, rfl, iteF ?_⟩
      have hqa2 := s2 _ _ hqa
      refine ⟨_, rfl, qa, _, 0, _, rfl, rfl, SqT.of hqa2, atI_nat (j := 0) rfl, _, rfl, qa, _, 1, _, rfl, rfl, SqT.of hqa2, atI_nat (j := 1) rfl, p.1, p.2, rfl, rfl, _, rfl, ?_⟩
      have hge : decide (p.2 ≤ p.1) = false := decide_eq_false (by omega)
      rw [hge]
      refine iteF ⟨_, rfl, i, 0, rfl, rfl, _, rfl, ?_⟩
      refine ite2 (fun c => ?_) (fun c => ?_)
      · have hi0 : 0 < i := by
          have := of_decide_eq_true c
          omega
        obtain ⟨k, rfl⟩ : ∃ k, i = k + 1 := ⟨i - 1, by omega⟩
        have hk : k < ES.length := by omega
        have hp' : ES[k]? = some ES[k] := List.getElem?_eq_getElem hk
        have hkq : k < qs.length := by omega
        have hq' : qs[k]? = some qs[k] := List.getElem?_eq_getElem hkq
        have lt : [ES[k].1, ES[k].2] < [p.1, p.2] := by
          have e : p = ES[k + 1] := (Option.some.inj (hp.symm.trans (List.getElem?_eq_getElem hi)))
          rw [e]
          exact List.pairwise_iff_getElem.mp hV.asc k (k + 1) hk hi (Nat.lt_succ_self k)
        generalize ES[k] = p' at hp' lt
        generalize qs[k] = qb at hq'
        have hqb := s2 _ _ (s1 _ _ (h4 k qb p' hq' hp'))
        refine ⟨_, rfl, _, rfl, a, _, 1, _, rfl, rfl, SqT.of (s2 _ _ ha1), atI_nat (j := 1) rfl, _, rfl, (k + 1 : Nat), 1, rfl, rfl, pr, _, _, _, rfl, rfl, SqT.of (s2 _ _ hpr1), at_of (j := k) (by omega) (map_ref_get hq'), ?_⟩
        refine ⟨.tuple ([p.1, p.2].map PyData.int), .tuple ([p'.1, p'.2].map PyData.int), dp_tup (SqT.of hqa2), dp_tup (SqT.of hqb), alike_tup _ _, (fun z => (by cases z)), by rw [depth_tup]; decide, ?_⟩
        rw [lt_tup, decide_eq_true lt]
        exact ⟨false, rfl, iteF ⟨_, _, rfl, s1.trans s2⟩⟩
      · exact iteF ⟨_, _, rfl, s1.trans s2⟩
  · rintro σ H' ⟨y1, y2, rfl, sm⟩
    exact q H' sm
end
end ST

/-! SPoints -/
/-! is_points, need_points, near_of, the law's near. -/
namespace ST
open PySem PySem.Spec PyProof.Rows L2 SM
section
variable {P : Program} {w : World} {K : PySem.W.Frag} {mg : Str → Option Value} {base : Heap}
def spIsPoints : Sp := fun vs H Q _ => ∃ (a b : Addr) (n : Nat) (E : List Pr) (l : List Int), vs = [.ref a, .ref b] ∧ NetAt H a n E ∧ n ≤ 12 ∧ H b = some (tupO l) ∧ IsLot n l ∧ ∀ H', Same H H' → Q (.bl true) H'
theorem ok_is_points (T : Txt K mg) : FnOk P w K mg base CX0 3 T.d_is_points.f T.d_is_points.fd p_is_points spIsPoints := by
  refine T.d_is_points.F.ok sc_is_points (fun vs H Q E h => ?_) (fun cdv A outer s H vs Q E hr h => ?_)
  · obtain ⟨a, b, n, E, l, rfl, _⟩ := h
    rfl
  obtain ⟨a, b, n, ES, l, rfl, hN, hn, hb, hL, q⟩ := h
  have hr1 : Room 1 _ := hr.mono (by decide)
  refine ⟨_, pss_cons (ps_if (PW.pt (pw_or (pt_not (pt_val (pe_call (ok_tuple_of T) hr1 (by rfl) T.d_tuple_of.g T.d_tuple_of.F.kp T.d_tuple_of.b .nil pass0 (pa_cons (pv 1) (pa_cons pe_int (pa_cons (pe_ix ix_tup (pv 0) pe_int (fun _ _ => rfl)) pa_nil))))))
      (pw_or1 (pt_not (pt_val (pe_callB (cr_all rfl) (by rfl) T.z_all bt_all (pa_cons (pe_lc (own := [("point", 2)]) rfl sc_is_points.nd (pi_tup (pv 1)) (blkOk_by (own := [("point", 2)]) (N := n_is_points) (sc := defScope s_is_points) (by decide +kernel))
          (fun _ _ _ _ _ => pg_name (i := 2) sc_is_points.nd rfl (Or.inl rfl)) (fun _ _ _ _ _ => pts_nil)
          (fun _ _ _ _ _ => pe_call (ok_within T) hr (by rfl) T.d_within.g T.d_within.F.kp T.d_within.b .nil pass0 (pa_cons (pv 2) (pa_cons pe_int (pa_cons (pe_op op_sub (pe_ix (ixT K) (pv 0) pe_int (fun _ _ => rfl)) pe_int) pa_nil))))) pa_nil)))))))
      (pss_one (ps_ret pe_bl)) pss_nil)
    (pss_one (ps_ret (pe_callB (cr_all rfl) (by rfl) T.z_all bt_all (pa_cons (pe_lc (own := [("at", 3)]) rfl sc_is_points.nd
        (pi_range1 (by rfl) T.z_range (pa_cons (pe_op op_sub (pe_callB call_len_seq (by rfl) T.z_len bt_len (pa_cons (pv 1) pa_nil)) pe_int) pa_nil)) (blkOk_by (own := [("at", 3)]) (N := n_is_points) (sc := defScope s_is_points) (by decide +kernel))
          (fun _ _ _ _ _ => pg_name (i := 3) sc_is_points.nd rfl (Or.inl rfl)) (fun _ _ _ _ _ => pts_nil)
          (fun _ _ _ _ _ => pe_cmpR op_lt (pe_ix (ixT K) (pv 1) (pv 3) (fun _ _ => rfl)) (pe_ix (ixT K) (pv 1) (pe_op op_add (pv 3) pe_int) (fun _ _ => rfl)) (nomark _))) pa_nil)))), ?_⟩
  obtain ⟨pr, qs, h1, h2, h3, h4⟩ := hN
  have hll := hL.len
  have len1 : (l.map V.int).length = l.length := List.length_map _
  refine ⟨_, rfl, _, rfl, a, _, 0, _, rfl, rfl, SqT.of h1, atI_nat (j := 0) rfl, b, _, 0, n, rfl, hb, Int.natCast_nonneg _, by rw [len1]; omega, true, rfl, iteF ?_⟩
  refine ⟨_, rfl, b, rfl, ⟨_, SqT.of hb⟩, fun Dd hD => ?_⟩
  refine lcs_tup (K := K) (a := b) (xs := l.map V.int) (fun j => List.replicate j (.bl true)) hD rfl (SqT.of hb) (fun j hj => ?_) (fun j x H2 R R' hx2 s2 kR _ => ?_) fun H2 s2 hl2 => ?_
  · rw [List.length_replicate]
    omega
  · obtain ⟨z, hz, rfl⟩ := of_map_int hx2
    obtain ⟨z0, z1⟩ := hL.rng z (List.mem_of_getElem? hz)
    refine ⟨rfl, ⟨_, rfl, _, rfl, a, _, 0, _, rfl, rfl, SqT.of (s2 _ _ h1), atI_nat (j := 0) rfl, n, 1, rfl, rfl, z, 0, n - 1, rfl, z0, by omega, ?_⟩⟩
    refine kR _ _ (Same.refl _) ?_
    rw [List.replicate_succ']
  · refine ⟨Dd, List.replicate (l.map V.int).length true, rfl, SqL.of (by rw [List.map_replicate]; exact hl2), ?_⟩
    rw [allTrue]
    refine ⟨true, rfl, iteF ?_⟩
    refine ⟨_, rfl, b, _, rfl, .inr (SqT.of (s2 _ _ hb)), _, 1, rfl, rfl, _, rfl, by rw [len1]; omega, by rw [len1]; omega, fun D2 hD2 => ?_⟩
    have e : (((l.map V.int).length : Nat) - 1 : Int).toNat = l.length - 1 := by rw [len1]; omega
    rw [e]
    refine lcs_range (lo := 0) (n := l.length - 1) (fun j => List.replicate j (.bl true)) hD2 rfl (fun j hj => by rw [List.length_replicate]; omega) (fun j H3 R R' hj s3 kR _ => ?_) fun H3 s3 hl3 => ?_
    · have g1 : l[j]? = some l[j] := List.getElem?_eq_getElem (by omega)
      have g2 : l[j + 1]? = some l[j + 1] := List.getElem?_eq_getElem (by omega)
      have lt : l[j] < l[j + 1] := List.pairwise_iff_getElem.mp hL.asc j (j + 1) (by omega) (by omega) (Nat.lt_succ_self j)
      generalize l[j] = u at g1 lt
      generalize l[j + 1] = v at g2 lt
      have hb3 := s3 _ _ (s2 _ _ hb)
      refine ⟨rfl, ⟨_, rfl, _, rfl, b, _, _, _, rfl, rfl, SqT.of hb3, at_of (j := j) (by omega) (map_int_get g1), _, rfl, _, rfl, _, 1, rfl, rfl, b, _, _, _, rfl, rfl, SqT.of hb3, at_of (j := j + 1) (by omega) (map_int_get g2), u, v, rfl, rfl, ?_⟩⟩
      refine kR _ _ (Same.refl _) ?_
      rw [List.replicate_succ']
      show _ = _ ++ [V.bl (decide (u < v))]
      rw [decide_eq_true lt]
    · refine ⟨D2, List.replicate (l.length - 1) true, rfl, SqL.of (by rw [List.map_replicate]; exact hl3), ?_⟩
      rw [allTrue]
      exact q H3 (s2.trans s3)
def spNeedPoints : Sp := fun vs H Q _ => ∃ (a b : Addr) (n : Nat) (E : List Pr) (l : List Int), vs = [.ref a, .ref b] ∧ NetAt H a n E ∧ n ≤ 12 ∧ H b = some (tupO l) ∧ IsLot n l ∧ ∀ H', Same H H' → Q .non H'
theorem ok_need_points (T : Txt K mg) : FnOk P w K mg base CX0 4 T.d_need_points.f T.d_need_points.fd p_need_points spNeedPoints := by
  refine T.d_need_points.F.ok sc_need_points (fun vs H Q E h => ?_) (fun cdv A outer s H vs Q E hr h => ?_)
  · obtain ⟨a, b, n, E, l, rfl, _⟩ := h
    rfl
  obtain ⟨a, b, n, ES, l, rfl, hN, hn, hb, hL, q⟩ := h
  refine ⟨_, pss_one (ps_if (pt_not (pt_val (pe_call (ok_is_points T) hr (by rfl) T.d_is_points.g T.d_is_points.F.kp T.d_is_points.b .nil pass0 (pa_cons (pv 0) (pa_cons (pv 1) pa_nil))))) pss_never pss_nil), ?_⟩
  exact ⟨_, rfl, _, rfl, a, b, n, ES, l, rfl, hN, hn, hb, hL, fun H' s => ⟨true, rfl, iteF (q H' s)⟩⟩
end
end ST

/-! SLoops2 -/
/-! Comprehensions whose items are sequences of ints; near lists filled. -/
namespace ST
open PySem PySem.Spec PyProof.Rows L2 SM
theorem Each.set {k : List Int → HO} {H : Hp} {as : List Addr} {ls : List (List Int)} {i : Nat} {a : Addr} {l : List Int} (e : Each k H as ls) (nd : as.Nodup) (h : as[i]? = some a) : Each k (upd H a (k l)) as (ls.set i l) := by
  refine ⟨by rw [List.length_set]; exact e.1, fun j b m hb hm => ?_⟩
  by_cases c : j = i
  · subst c
    rw [h] at hb
    cases hb
    have hj : j < ls.length := by
      have := (List.getElem?_eq_some_iff.mp h).1
      rw [← e.1]
      exact this
    rw [List.getElem?_set_self hj] at hm
    cases hm
    exact upd_same
  · have nb : b ≠ a := fun z => c (nd_ix nd hb (z ▸ h))
    rw [List.getElem?_set_ne (Ne.symm c)] at hm
    rw [upd_ne nb]
    exact e.2 j b m hb hm
section
variable {K : PySem.W.Frag} {g : TG} {tt : TT} {te : TE} {vs : List Nat} {σ : L2.St} {H0 : Hp} {D : Addr} {Qd : Hp → Prop} {k : List Int → HO}
/-- what a turn of such a comprehension is to reach -/
def LcnT (k : List Int → HO) (ys : Nat → List (List Int)) (D : Addr) (i : Nat) (H : Hp) (R : V → Hp → Prop) (R' : Hp → Prop) : Prop :=
  (∀ (p : Addr) (l : List Int) (H4 : Hp), p ≠ D → Same H H4 → H4 p = some (k l) → ys (i + 1) = ys i ++ [l] → R (.ref p) H4) ∧ ∀ H4, Same H H4 → ys (i + 1) = ys i → R' H4
def LcnI (k : List Int → HO) (ys : Nat → List (List Int)) (H0 : Hp) (D : Addr) (i : Nat) (H : Hp) : Prop := Same H0 H ∧ ∃ bs : List Addr, H D = some (.lst (bs.map V.ref)) ∧ D ∉ bs ∧ Each k H bs (ys i)
theorem LcnI.start {ys : Nat → List (List Int)} (hD : H0 D = none) (h00 : ys 0 = []) : LcnI k ys H0 D 0 (upd H0 D (.lst [])) :=
  ⟨same_new hD, [], upd_same, by simp, by rw [h00]; exact Each.nil⟩
theorem LcnI.turn {ys : Nat → List (List Int)} {i : Nat} {H : Hp} (hD : H0 D = none) (hz : (ys i).length ≤ 100000) (I : LcnI k ys H0 D i H) :
    LcnT k ys D i H (fun y H4 => ∃ acc, H4 D = some (.lst acc) ∧ acc.length < sizeLine ∧ LcnI k ys H0 D (i + 1) (upd H4 D (.lst (acc ++ [y])))) (LcnI k ys H0 D (i + 1)) := by
  obtain ⟨s, bs, hl, nD, e⟩ := I
  refine ⟨fun p l H4 hp s4 h4 ey => ⟨bs.map V.ref, s4 _ _ hl, small_lst ?_, same_upd (s.trans s4) hD, bs ++ [p], ?_, ?_, ?_⟩, fun H4 s4 ey => ⟨s.trans s4, bs, s4 _ _ hl, nD, by rw [ey]; exact e.same s4⟩⟩
  · rw [List.length_map, e.1]
    omega
  · rw [upd_same, lst_snoc_ref]
  · intro m
    rcases List.mem_append.mp m with m | m
    · exact nD m
    · exact hp (List.mem_singleton.mp m).symm
  · rw [ey]
    refine Each.snoc ?_ ?_
    · refine (e.same s4).mono fun a o ha ho => ?_
      rw [upd_ne (show a ≠ D from fun z => nD (by rw [← z]; exact ha))]
      exact ho
    · rw [upd_ne hp]
      exact h4
theorem lcn_tup {a : Addr} {xs : List V} (ys : Nat → List (List Int)) (hD : H0 D = none) (h00 : ys 0 = []) (ha : SqT K H0 a xs) (hz : ∀ i, i < xs.length → (ys i).length ≤ 100000)
    (hs : ∀ (i : Nat) (x : V) (H : Hp) (R : V → Hp → Prop) (R' : Hp → Prop), xs[i]? = some x → Same H0 H → (∃ o, H D = some (.lst o)) → LcnT k ys D i H R R' →
      g x (wipe σ vs) H fun σ2 H2 => wipe σ2 vs = wipe σ vs ∧ tt σ2 H2 fun b H3 => if b = true then te σ2 H3 R else R' H3)
    (hd : ∀ H, Same H0 H → Seqs k H D (ys xs.length) → Qd H) :
    ∃ W : Nat → Nat → Hp → Prop, (∃ m, W 0 m (upd H0 D (.lst []))) ∧ ∀ i m H, W i m H →
      ((Itt K a).stop i H ∧ Qd H) ∨ ((Itt K a).go i H ∧ ∃ Nx : Hp → Prop, (∀ H', Nx H' → ∃ m', m' < m ∧ W (i + 1) m' H') ∧ ∀ x H', (Itt K a).yld i H x H' → g x (wipe σ vs) H' fun σ2 H2 => wipe σ2 vs = wipe σ vs ∧ tt σ2 H2 fun b H3 =>
        if b = true then te σ2 H3 fun y H4 => ∃ acc, H4 D = some (.lst acc) ∧ acc.length < sizeLine ∧ Nx (upd H4 D (.lst (acc ++ [y]))) else Nx H3) := by
  have stay : ∀ H, Same H0 H → SqT K H a xs := fun H s => by
    rcases ha with (h | ⟨o, h⟩) | h
    · exact .inl (.inl (s _ _ h))
    · exact .inl (.inr ⟨o, s _ _ h⟩)
    · exact .inr h
  refine lc_tup (K := K) (a := a) (xs := xs) (LcnI k ys H0 D) (LcnI.start hD h00) (fun i H _ p => stay H p.1) (fun i x H hx I => ?_) fun H p => hd H p.1 (let ⟨_, bs, h1, _, h2⟩ := p; ⟨bs, h1, h2⟩)
  exact hs i x H _ _ hx I.1 (let ⟨_, bs, h1, _⟩ := I; ⟨_, h1⟩) (I.turn hD (hz i (List.getElem?_eq_some_iff.mp hx).1))
theorem lcn_list {a : Addr} {xs : List V} (ys : Nat → List (List Int)) (hD : H0 D = none) (h00 : ys 0 = []) (ha : SqL K H0 a xs) (hz : ∀ i, i < xs.length → (ys i).length ≤ 100000)
    (hs : ∀ (i : Nat) (x : V) (H : Hp) (R : V → Hp → Prop) (R' : Hp → Prop), xs[i]? = some x → Same H0 H → (∃ o, H D = some (.lst o)) → LcnT k ys D i H R R' →
      g x (wipe σ vs) H fun σ2 H2 => wipe σ2 vs = wipe σ vs ∧ tt σ2 H2 fun b H3 => if b = true then te σ2 H3 R else R' H3)
    (hd : ∀ H, Same H0 H → Seqs k H D (ys xs.length) → Qd H) :
    ∃ W : Nat → Nat → Hp → Prop, (∃ m, W 0 m (upd H0 D (.lst []))) ∧ ∀ i m H, W i m H →
      ((Itl K a).stop i H ∧ Qd H) ∨ ((Itl K a).go i H ∧ ∃ Nx : Hp → Prop, (∀ H', Nx H' → ∃ m', m' < m ∧ W (i + 1) m' H') ∧ ∀ x H', (Itl K a).yld i H x H' → g x (wipe σ vs) H' fun σ2 H2 => wipe σ2 vs = wipe σ vs ∧ tt σ2 H2 fun b H3 =>
        if b = true then te σ2 H3 fun y H4 => ∃ acc, H4 D = some (.lst acc) ∧ acc.length < sizeLine ∧ Nx (upd H4 D (.lst (acc ++ [y]))) else Nx H3) := by
  refine lc_list (K := K) (a := a) (xs := xs) (LcnI k ys H0 D) (LcnI.start hD h00) (fun i H _ p => p.1.seq ha) (fun i x H hx I => ?_) fun H p => hd H p.1 (let ⟨_, bs, h1, _, h2⟩ := p; ⟨bs, h1, h2⟩)
  exact hs i x H _ _ hx I.1 (let ⟨_, bs, h1, _⟩ := I; ⟨_, h1⟩) (I.turn hD (hz i (List.getElem?_eq_some_iff.mp hx).1))
theorem lcn_range {lo : Int} {n : Nat} (ys : Nat → List (List Int)) (hD : H0 D = none) (h00 : ys 0 = []) (hz : ∀ i, i < n → (ys i).length ≤ 100000)
    (hs : ∀ (i : Nat) (H : Hp) (R : V → Hp → Prop) (R' : Hp → Prop), i < n → Same H0 H → (∃ o, H D = some (.lst o)) → LcnT k ys D i H R R' →
      g (.int (lo + i)) (wipe σ vs) H fun σ2 H2 => wipe σ2 vs = wipe σ vs ∧ tt σ2 H2 fun b H3 => if b = true then te σ2 H3 R else R' H3)
    (hd : ∀ H, Same H0 H → Seqs k H D (ys n) → Qd H) :
    ∃ W : Nat → Nat → Hp → Prop, (∃ m, W 0 m (upd H0 D (.lst []))) ∧ ∀ i m H, W i m H →
      ((Itr lo n).stop i H ∧ Qd H) ∨ ((Itr lo n).go i H ∧ ∃ Nx : Hp → Prop, (∀ H', Nx H' → ∃ m', m' < m ∧ W (i + 1) m' H') ∧ ∀ x H', (Itr lo n).yld i H x H' → g x (wipe σ vs) H' fun σ2 H2 => wipe σ2 vs = wipe σ vs ∧ tt σ2 H2 fun b H3 =>
        if b = true then te σ2 H3 fun y H4 => ∃ acc, H4 D = some (.lst acc) ∧ acc.length < sizeLine ∧ Nx (upd H4 D (.lst (acc ++ [y]))) else Nx H3) := by
  refine lc_range (lo := lo) (n := n) (LcnI k ys H0 D) (LcnI.start hD h00) (fun i H hi I => ?_) fun H p => hd H p.1 (let ⟨_, bs, h1, _, h2⟩ := p; ⟨bs, h1, h2⟩)
  exact hs i H _ _ hi I.1 (let ⟨_, bs, h1, _⟩ := I; ⟨_, h1⟩) (I.turn hD (hz i hi))
end

/-! ### the near lists, pair by pair -/
def NearK (n : Nat) (Ek : List Pr) (C : List (List Int)) : Prop := C.length = n ∧ ∀ (i : Nat) (l : List Int), C[i]? = some l → l.Nodup ∧ ∀ b : Int, b ∈ l ↔ ((i : Int), b) ∈ Ek ∨ (b, (i : Int)) ∈ Ek
theorem nearK_nil (n : Nat) : NearK n [] (List.replicate n []) := by
  refine ⟨List.length_replicate, fun i l h => ?_⟩
  rw [List.getElem?_replicate] at h
  split at h
  · cases h
    exact ⟨List.nodup_nil, fun b => by simp⟩
  · cases h
theorem nearK_step {n x y : Nat} {Ek : List Pr} {C : List (List Int)} {lx ly : List Int} (h : NearK n Ek C) (hx : C[x]? = some lx) (hy : C[y]? = some ly) (lt : x < y) (hn : ((x : Int), (y : Int)) ∉ Ek) (ho : ∀ p ∈ Ek, p.1 < p.2) :
    NearK n (Ek ++ [((x : Int), (y : Int))]) ((C.set x (lx ++ [(y : Int)])).set y (ly ++ [(x : Int)])) := by
  refine ⟨by rw [List.length_set, List.length_set]; exact h.1, fun i l hl => ?_⟩
  have hxl := (List.getElem?_eq_some_iff.mp hx).1
  have hyl := (List.getElem?_eq_some_iff.mp hy).1
  have mm : ∀ p : Pr, p ∈ Ek ++ [((x : Int), (y : Int))] ↔ p ∈ Ek ∨ p = ((x : Int), (y : Int)) := fun p => by rw [List.mem_append, List.mem_singleton]
  by_cases cy : i = y
  · subst cy
    rw [List.getElem?_set_self (by rw [List.length_set]; exact hyl)] at hl
    cases hl
    obtain ⟨nd, m⟩ := h.2 i ly hy
    have notin : (x : Int) ∉ ly := fun q => by
      rcases (m _).mp q with q | q
      · have := ho _ q
        simp only at this
        omega
      · exact hn q
    refine ⟨?_, fun b => ?_⟩
    · rw [List.nodup_append]
      refine ⟨nd, by simp, fun u hu v hv e => ?_⟩
      have : v = (x : Int) := by simpa using hv
      exact notin (by rw [← this, ← e]; exact hu)
    · rw [List.mem_append, List.mem_singleton, m, mm, mm]
      constructor
      · rintro ((q | q) | rfl)
        · exact .inl (.inl q)
        · exact .inr (.inl q)
        · exact .inr (.inr rfl)
      · rintro ((q | q) | (q | q))
        · exact .inl (.inl q)
        · exfalso
          have := congrArg Prod.fst q
          simp only at this
          omega
        · exact .inl (.inr q)
        · exact .inr (congrArg Prod.fst q)
  · rw [List.getElem?_set_ne (Ne.symm cy)] at hl
    by_cases cx : i = x
    · subst cx
      rw [List.getElem?_set_self hxl] at hl
      cases hl
      obtain ⟨nd, m⟩ := h.2 i lx hx
      have notin : (y : Int) ∉ lx := fun q => by
        rcases (m _).mp q with q | q
        · exact hn q
        · have := ho _ q
          simp only at this
          omega
      refine ⟨?_, fun b => ?_⟩
      · rw [List.nodup_append]
        refine ⟨nd, by simp, fun u hu v hv e => ?_⟩
        have : v = (y : Int) := by simpa using hv
        exact notin (by rw [← this, ← e]; exact hu)
      · rw [List.mem_append, List.mem_singleton, m, mm, mm]
        constructor
        · rintro ((q | q) | rfl)
          · exact .inl (.inl q)
          · exact .inr (.inl q)
          · exact .inl (.inr rfl)
        · rintro ((q | q) | (q | q))
          · exact .inl (.inl q)
          · exact .inr (congrArg Prod.snd q)
          · exact .inl (.inr q)
          · exfalso
            have := congrArg Prod.snd q
            simp only at this
            omega
    · rw [List.getElem?_set_ne (Ne.symm cx)] at hl
      obtain ⟨nd, m⟩ := h.2 i l hl
      refine ⟨nd, fun b => ?_⟩
      rw [m, mm, mm]
      constructor
      · rintro (q | q)
        · exact .inl (.inl q)
        · exact .inr (.inl q)
      · rintro ((q | q) | (q | q))
        · exact .inl q
        · exfalso
          have := congrArg Prod.fst q
          simp only at this
          omega
        · exact .inr q
        · exfalso
          have := congrArg Prod.snd q
          simp only at this
          omega
/-- sorted, they are the net's -/
theorem nearK_sorted {n i : Nat} {E : List Pr} {C : List (List Int)} {l ms : List Int} (h : NearK n E C) (hV : NetV n E) (hl : C[i]? = some l) (hp : ms.Perm l) (hs : ms.Pairwise (· ≤ ·)) : (nearL n E)[i]? = some ms := by
  have hi : i < n := by
    have := (List.getElem?_eq_some_iff.mp hl).1
    rw [h.1] at this
    exact this
  obtain ⟨nd, m⟩ := h.2 i l hl
  rw [nearL_get hi]
  refine congrArg some (Eq.symm (sorted_is hp hs nd ((asc_pts n).filter _) fun b => ?_))
  rw [List.mem_filter, mem_pts, decide_eq_true_iff, m]
  refine ⟨fun q => q.2, fun q => ⟨?_, q⟩⟩
  rcases q with q | q
  · have := hV.rng _ q
    simp only at this
    omega
  · have := hV.rng _ q
    simp only at this
    omega
end ST

/-! SNear -/
/-! near_of, the law's near. -/
namespace ST
open PySem PySem.Spec PyProof.Rows L2 SM
section
variable {P : Program} {w : World} {K : PySem.W.Frag} {mg : Str → Option Value} {base : Heap}
def spNear : Sp := fun vs H Q _ => ∃ (a : Addr) (n : Nat) (E : List Pr), vs = [.ref a] ∧ NetAt H a n E ∧ NetV n E ∧ ∀ H' p, Same H H' → Seqs lstO H' p (nearL n E) → Q (.ref p) H'
/-- the invariant of the pairs' loop: the n lists at as -/
structure NearI (n : Nat) (H0 : Hp) (fd : Addr) (as : List Addr) (Ek : List Pr) (H : Hp) : Prop where
  sm : Same H0 H
  li : H fd = some (.lst (as.map V.ref))
  nd : as.Nodup
  nf : fd ∉ as
  nw : ∀ a ∈ as, H0 a = none
  ct : ∃ C, NearK n Ek C ∧ Each lstO H as C
theorem ne_snoc {as : List Addr} {p : Addr} (h : as.Nodup) (hp : p ∉ as) : (as ++ [p]).Nodup := by
  rw [List.nodup_append]
  refine ⟨h, by simp, fun u hu v hv e => ?_⟩
  have : v = p := by simpa using hv
  exact hp (by rw [← this, ← e]; exact hu)
theorem ok_near_of (T : Txt K mg) : FnOk P w K mg base CX0 1 T.d_near_of.f T.d_near_of.fd p_near_of spNear := by
  refine T.d_near_of.F.ok sc_near_of (fun vs H Q E h => ?_) (fun cdv A outer s H vs Q E hr h => ?_)
  · obtain ⟨a, n, E, rfl, _⟩ := h
    rfl
  obtain ⟨a, n, ES, rfl, hN, hV, q⟩ := h
  have hu64 := hr.units
  have nd := sc_near_of.nd
  refine ⟨_, pss_cons (ps_setLc (i := 1) (own := [("point", 4)]) (g := gName 4) rfl nd rfl rfl (sw_true rfl rfl rfl (by decide +kernel)) (pi_range1 (by rfl) T.z_range (pa_cons (pe_ix ix_tup (pv 0) pe_int (fun _ _ => rfl)) pa_nil))
        (blkOk_by (own := [("point", 4)]) (N := n_near_of) (sc := defScope s_near_of) (by decide +kernel)) (fun _ _ _ _ _ => pg_name (i := 4) nd rfl (Or.inl rfl)) (fun _ _ _ _ _ => pts_nil) (fun _ _ _ _ _ => pe_lst pa_nil))
    (pss_cons (ps_for PassesOwn.never rfl (pi_tup (pe_ix ix_tup (pv 0) pe_int (fun _ _ => rfl))) (pg_tup rfl (pgs_cons (pg_name (i := 2) nd rfl (.inl rfl)) (pgs_cons (pg_name (i := 3) nd rfl (.inl rfl)) pgs_nil)))
      (pss_cons (ps_expr (pe_bm PySem.F.plainAttrs_list PySem.F.slot_list_append PySem.F.type_list_append mt_append (pe_ix ix_list (pv 1) (pv 2) (fun _ _ => rfl)) (pa_cons (pv 3) pa_nil)))
        (pss_one (ps_expr (pe_bm PySem.F.plainAttrs_list PySem.F.slot_list_append PySem.F.type_list_append mt_append (pe_ix ix_list (pv 1) (pv 3) (fun _ _ => rfl)) (pa_cons (pv 2) pa_nil))))))
    (pss_one (ps_ret (pe_lc (own := [("points", 5)]) rfl nd (pi_list (pv 1)) (blkOk_by (own := [("points", 5)]) (N := n_near_of) (sc := defScope s_near_of) (by decide +kernel))
        (fun _ _ _ _ _ => pg_name (i := 5) nd rfl (Or.inl rfl)) (fun _ _ _ _ _ => pts_nil) (fun _ _ _ _ _ => pe_callB (crSortedIT K hu64) (by rfl) T.z_sorted bt_sorted (pa_cons (pv 5) pa_nil)))))), ?_⟩
  obtain ⟨pr, qs, h1, h2, h3, h4⟩ := hN
  have hn0 := hV.n0
  have hn6 := hV.n6
  -- the empty lists
  refine ⟨_, rfl, a, _, 0, _, rfl, rfl, SqT.of h1, atI_nat (j := 0) rfl, n, rfl, by omega, by omega, fun fd hfd => ?_⟩
  have en : ((n : Int)).toNat = n := by omega
  rw [en]
  refine lc_range (lo := 0) (n := n) (fun i H' => Same H H' ∧ ∃ as : List Addr, as.length = i ∧ H' fd = some (.lst (as.map V.ref)) ∧ as.Nodup ∧ fd ∉ as ∧ ∀ b ∈ as, H b = none ∧ H' b = some (lstO [])) ⟨same_new hfd, [], rfl, upd_same, List.nodup_nil, by simp, fun b hb => by cases hb⟩ ?_ ?_
  · rintro i H' hi ⟨sm, as, hl, hli, hnd, hnf, hall⟩
    refine ⟨rfl, ⟨Nat.zero_le _, fun p hp => ⟨as.map V.ref, ?_, ?_, ?_, as ++ [p], ?_, ?_, ?_, ?_, ?_⟩⟩⟩
    · rw [upd_ne (ne_of_none hli hp)]
      exact hli
    · rw [List.length_map, hl]
      exact small_lst (by omega)
    · exact same_upd (same_more sm hp) hfd
    · rw [List.length_append, hl]
      rfl
    · rw [upd_same, lst_snoc_ref]
    · exact ne_snoc hnd fun m => by
        rw [(hall p m).2] at hp
        cases hp
    · intro m
      rcases List.mem_append.mp m with m | m
      · exact hnf m
      · have e : fd = p := by simpa using m
        rw [e, hp] at hli
        cases hli
    · intro b hb
      rcases List.mem_append.mp hb with hb | hb
      · obtain ⟨g1, g2⟩ := hall b hb
        refine ⟨g1, ?_⟩
        rw [upd_ne (show b ≠ fd from fun z => hnf (z ▸ hb)), upd_ne (ne_of_none g2 hp)]
        exact g2
      · have e : b = p := by simpa using hb
        subst e
        refine ⟨sm.free hp, ?_⟩
        rw [upd_ne (show b ≠ fd from fun z => by rw [z, hli] at hp; cases hp), upd_same]
        rfl
  rintro H1 ⟨sm1, as, hl, hli, hnd, hnf, hall⟩
  have I0 : NearI n H fd as [] H1 := ⟨sm1, hli, hnd, hnf, fun b hb => (hall b hb).1, List.replicate n [], nearK_nil n, by rw [List.length_replicate]; exact hl, fun i b l hb hm => by
    rw [List.getElem?_replicate] at hm
    split at hm
    · cases hm
      exact (hall b (List.mem_of_getElem? hb)).2
    · cases hm⟩
  -- the pairs
  refine ⟨_, rfl, a, _, 1, _, rfl, rfl, SqT.of (sm1 _ _ h1), atI_nat (j := 1) rfl, pr, rfl, ⟨_, SqT.of (sm1 _ _ h2)⟩, for_tup (K := K) (a := pr) (xs := qs.map V.ref)
    (fun i σ H' => ∃ y2 y3, σ = [some (.ref a), some (.ref fd), y2, y3, none, none] ∧ NearI n H fd as (ES.take i) H') ⟨none, none, rfl, by rw [List.take_zero]; exact I0⟩ (fun i σ H' _ ⟨_, _, _, I⟩ => SqT.of (I.sm _ _ h2)) ?_ ?_⟩
  · rintro i x σ H' hx ⟨y2, y3, rfl, I⟩
    obtain ⟨qa, hq, rfl⟩ := of_map_ref hx
    have hi : i < ES.length := by
      have := (List.getElem?_eq_some_iff.mp hq).1
      omega
    have hp : ES[i]? = some ES[i] := List.getElem?_eq_getElem hi
    have fresh : ES[i] ∉ ES.take i := fun m => by
      obtain ⟨j, hj, e⟩ := List.mem_take_iff_getElem.mp m
      have lt := List.pairwise_iff_getElem.mp hV.asc j i (by omega) hi (by omega)
      rw [e] at lt
      exact List.lt_irrefl _ lt
    generalize ES[i] = p at hp fresh
    obtain ⟨r0, r1, r2⟩ := hV.rng p (List.mem_of_getElem? hp)
    obtain ⟨x, ex⟩ : ∃ x : Nat, p.1 = (x : Int) := ⟨p.1.toNat, by omega⟩
    obtain ⟨y, ey⟩ : ∃ y : Nat, p.2 = (y : Int) := ⟨p.2.toNat, by omega⟩
    have hqa := I.sm _ _ (h4 i qa p hq hp)
    obtain ⟨C, hK, hE⟩ := I.ct
    obtain ⟨lx, hCx⟩ : ∃ l, C[x]? = some l := ⟨_, List.getElem?_eq_getElem (by have := hK.1; omega)⟩
    obtain ⟨ly, hCy⟩ : ∃ l, C[y]? = some l := ⟨_, List.getElem?_eq_getElem (by have := hK.1; omega)⟩
    obtain ⟨ax, hax, hlx⟩ := hE.get hCx
    obtain ⟨ay, hay, hly⟩ := hE.get hCy
    have lx5 : lx.length ≤ 12 := nodup_len (n := 12) (hK.2 x lx hCx).1 fun b hb => by
      rcases ((hK.2 x lx hCx).2 b).mp hb with m | m
      · have := hV.rng _ (List.mem_of_mem_take m)
        simp only at this
        omega
      · have := hV.rng _ (List.mem_of_mem_take m)
        simp only at this
        omega
    have ly5 : ly.length ≤ 12 := nodup_len (n := 12) (hK.2 y ly hCy).1 fun b hb => by
      rcases ((hK.2 y ly hCy).2 b).mp hb with m | m
      · have := hV.rng _ (List.mem_of_mem_take m)
        simp only at this
        omega
      · have := hV.rng _ (List.mem_of_mem_take m)
        simp only at this
        omega
    have nxy : ay ≠ ax := fun z => by
      have := nd_ix I.nd hay (z ▸ hax)
      omega
    have nfx : fd ≠ ax := fun z => I.nf (z ▸ List.mem_of_getElem? hax)
    have nfy : fd ≠ ay := fun z => I.nf (z ▸ List.mem_of_getElem? hay)
    refine ⟨qa, _, rfl, SqT.of hqa, rfl, _, _, rfl, _, _, rfl, rfl, ?_⟩
    refine ⟨_, rfl, _, rfl, fd, _, _, _, rfl, rfl, SqL.of I.li, at_of (j := x) ex (map_ref_get hax), .inl ⟨rfl, _, SqL.of hlx⟩, _, rfl, ax, _, _, rfl, rfl, hlx, by rw [List.length_map]; exact small_lst (by omega), ?_⟩
    have hli2 : (upd H' ax (.lst (lx.map V.int ++ [V.int p.2]))) fd = some (.lst (as.map V.ref)) := by rw [upd_ne nfx]; exact I.li
    have hly2 : (upd H' ax (.lst (lx.map V.int ++ [V.int p.2]))) ay = some (.lst (ly.map V.int)) := by rw [upd_ne nxy]; exact hly
    refine ⟨_, rfl, _, rfl, fd, _, _, _, rfl, rfl, SqL.of hli2, at_of (j := y) ey (map_ref_get hay), .inl ⟨rfl, _, SqL.of hly2⟩, _, rfl, ay, _, _, rfl, rfl, hly2, by rw [List.length_map]; exact small_lst (by omega), ?_⟩
    refine ⟨_, _, rfl, ?_⟩
    have hE2 := hE.set (l := lx ++ [p.2]) I.nd hax
    have hE3 := hE2.set (l := ly ++ [p.1]) I.nd hay
    refine ⟨same_upd (same_upd I.sm (I.nw ax (List.mem_of_getElem? hax))) (I.nw ay (List.mem_of_getElem? hay)), by rw [upd_ne nfy]; exact hli2, I.nd, I.nf, I.nw, ⟨(C.set x (lx ++ [(y : Int)])).set y (ly ++ [(x : Int)]), ?_, ?_⟩⟩
    · rw [take_more hp]
      have ep : p = ((x : Int), (y : Int)) := Prod.ext ex ey
      rw [ep] at fresh ⊢
      exact nearK_step hK hCx hCy (by omega) fresh fun p hp => (hV.rng p (List.mem_of_mem_take hp)).2.1
    · rw [lst_snoc_int, lst_snoc_int]
      have e1 : (lx ++ [p.2]) = lx ++ [(y : Int)] := by rw [ey]
      have e2 : (ly ++ [p.1]) = ly ++ [(x : Int)] := by rw [ex]
      rw [e1, e2] at hE3 ⊢
      exact hE3
  -- sorted
  rintro σ H' ⟨y2, y3, rfl, I⟩
  have el : (qs.map V.ref).length = ES.length := by rw [List.length_map, h3]
  rw [el, List.take_length] at I
  obtain ⟨C, hK, hE⟩ := I.ct
  have nl : (nearL n ES).length = n := (nearL_near hV).len
  refine ⟨_, rfl, fd, rfl, ⟨_, SqL.of I.li⟩, fun D2 hD2 => ?_⟩
  refine lcn_list (K := K) (a := fd) (xs := as.map V.ref) (k := lstO) (fun i => (nearL n ES).take i) hD2 (List.take_zero) (SqL.of I.li) (fun i hi => by rw [List.length_take]; omega) (fun i x H3 R R' hx s3 hD3 L => ?_) fun H3 s3 hS => ?_
  · obtain ⟨b, hb, rfl⟩ := of_map_ref hx
    have hi : i < n := by
      have := (List.getElem?_eq_some_iff.mp hb).1
      omega
    obtain ⟨l, hC⟩ : ∃ l, C[i]? = some l := ⟨_, List.getElem?_eq_getElem (by have := hK.1; omega)⟩
    have hbl := s3 _ _ (hE.2 i b l hb hC)
    have l5 : l.length ≤ 12 := nodup_len (n := 12) (hK.2 i l hC).1 fun b hb => by
      rcases ((hK.2 i l hC).2 b).mp hb with m | m
      · have := hV.rng _ m
        simp only at this
        omega
      · have := hV.rng _ m
        simp only at this
        omega
    refine ⟨rfl, ⟨_, rfl, b, l, rfl, .inl (SqL.of hbl), by omega, fun ms p hp hs hnew => ?_⟩⟩
    refine L.1 p ms _ ?_ (same_new hnew) upd_same (take_more (nearK_sorted hK hV hC hp hs))
    rintro rfl
    obtain ⟨o, ho⟩ := hD3
    rw [ho] at hnew
    cases hnew
  · have e2 : (as.map V.ref).length = (nearL n ES).length := by rw [List.length_map, hl, nl]
    rw [e2, List.take_length] at hS
    exact q H3 D2 (I.sm.trans s3) hS
end
end ST

/-! SNearL -/
/-! The law's near: as near_of. -/
namespace ST
open PySem PySem.Spec PyProof.Rows L2 SM
section
variable {P : Program} {w : World} {K : PySem.W.Frag} {mg : Str → Option Value} {base : Heap}
theorem ok_l_near (T : Txt K mg) : FnOk P w K mg base CX0 1 T.d_l_near.f T.d_l_near.fd p_l_near spNear := by
  refine T.d_l_near.F.ok sc_l_near (fun vs H Q E h => ?_) (fun cdv A outer s H vs Q E hr h => ?_)
  · obtain ⟨a, n, E, rfl, _⟩ := h
    rfl
  obtain ⟨a, n, ES, rfl, hN, hV, q⟩ := h
  have hu64 := hr.units
  have nd := sc_l_near.nd
  refine ⟨_, pss_cons (ps_setLc (i := 1) (own := [("_law_point", 4)]) (g := gName 4) rfl nd rfl rfl (sw_true rfl rfl rfl (by decide +kernel)) (pi_range1 (by rfl) T.z_range (pa_cons (pe_ix ix_tup (pv 0) pe_int (fun _ _ => rfl)) pa_nil))
        (blkOk_by (own := [("_law_point", 4)]) (N := n_l_near) (sc := defScope s_l_near) (by decide +kernel)) (fun _ _ _ _ _ => pg_name (i := 4) nd rfl (Or.inl rfl)) (fun _ _ _ _ _ => pts_nil) (fun _ _ _ _ _ => pe_lst pa_nil))
    (pss_cons (ps_for PassesOwn.never rfl (pi_tup (pe_ix ix_tup (pv 0) pe_int (fun _ _ => rfl))) (pg_tup rfl (pgs_cons (pg_name (i := 2) nd rfl (.inl rfl)) (pgs_cons (pg_name (i := 3) nd rfl (.inl rfl)) pgs_nil)))
      (pss_cons (ps_expr (pe_bm PySem.F.plainAttrs_list PySem.F.slot_list_append PySem.F.type_list_append mt_append (pe_ix ix_list (pv 1) (pv 2) (fun _ _ => rfl)) (pa_cons (pv 3) pa_nil)))
        (pss_one (ps_expr (pe_bm PySem.F.plainAttrs_list PySem.F.slot_list_append PySem.F.type_list_append mt_append (pe_ix ix_list (pv 1) (pv 3) (fun _ _ => rfl)) (pa_cons (pv 2) pa_nil))))))
    (pss_one (ps_ret (pe_lc (own := [("_law_points", 5)]) rfl nd (pi_list (pv 1)) (blkOk_by (own := [("_law_points", 5)]) (N := n_l_near) (sc := defScope s_l_near) (by decide +kernel))
        (fun _ _ _ _ _ => pg_name (i := 5) nd rfl (Or.inl rfl)) (fun _ _ _ _ _ => pts_nil) (fun _ _ _ _ _ => pe_callB (crSortedIT K hu64) (by rfl) T.z_sorted bt_sorted (pa_cons (pv 5) pa_nil)))))), ?_⟩
  obtain ⟨pr, qs, h1, h2, h3, h4⟩ := hN
  have hn0 := hV.n0
  have hn6 := hV.n6
  -- the empty lists
  refine ⟨_, rfl, a, _, 0, _, rfl, rfl, SqT.of h1, atI_nat (j := 0) rfl, n, rfl, by omega, by omega, fun fd hfd => ?_⟩
  have en : ((n : Int)).toNat = n := by omega
  rw [en]
  refine lc_range (lo := 0) (n := n) (fun i H' => Same H H' ∧ ∃ as : List Addr, as.length = i ∧ H' fd = some (.lst (as.map V.ref)) ∧ as.Nodup ∧ fd ∉ as ∧ ∀ b ∈ as, H b = none ∧ H' b = some (lstO [])) ⟨same_new hfd, [], rfl, upd_same, List.nodup_nil, by simp, fun b hb => by cases hb⟩ ?_ ?_
  · rintro i H' hi ⟨sm, as, hl, hli, hnd, hnf, hall⟩
    refine ⟨rfl, ⟨Nat.zero_le _, fun p hp => ⟨as.map V.ref, ?_, ?_, ?_, as ++ [p], ?_, ?_, ?_, ?_, ?_⟩⟩⟩
    · rw [upd_ne (ne_of_none hli hp)]
      exact hli
    · rw [List.length_map, hl]
      exact small_lst (by omega)
    · exact same_upd (same_more sm hp) hfd
    · rw [List.length_append, hl]
      rfl
    · rw [upd_same, lst_snoc_ref]
    · exact ne_snoc hnd fun m => by
        rw [(hall p m).2] at hp
        cases hp
    · intro m
      rcases List.mem_append.mp m with m | m
      · exact hnf m
      · have e : fd = p := by simpa using m
        rw [e, hp] at hli
        cases hli
    · intro b hb
      rcases List.mem_append.mp hb with hb | hb
      · obtain ⟨g1, g2⟩ := hall b hb
        refine ⟨g1, ?_⟩
        rw [upd_ne (show b ≠ fd from fun z => hnf (z ▸ hb)), upd_ne (ne_of_none g2 hp)]
        exact g2
      · have e : b = p := by simpa using hb
        subst e
        refine ⟨sm.free hp, ?_⟩
        rw [upd_ne (show b ≠ fd from fun z => by rw [z, hli] at hp; cases hp), upd_same]
        rfl
  rintro H1 ⟨sm1, as, hl, hli, hnd, hnf, hall⟩
  have I0 : NearI n H fd as [] H1 := ⟨sm1, hli, hnd, hnf, fun b hb => (hall b hb).1, List.replicate n [], nearK_nil n, by rw [List.length_replicate]; exact hl, fun i b l hb hm => by
    rw [List.getElem?_replicate] at hm
    split at hm
    · cases hm
      exact (hall b (List.mem_of_getElem? hb)).2
    · cases hm⟩
  -- the pairs
  refine ⟨_, rfl, a, _, 1, _, rfl, rfl, SqT.of (sm1 _ _ h1), atI_nat (j := 1) rfl, pr, rfl, ⟨_, SqT.of (sm1 _ _ h2)⟩, for_tup (K := K) (a := pr) (xs := qs.map V.ref)
    (fun i σ H' => ∃ y2 y3, σ = [some (.ref a), some (.ref fd), y2, y3, none, none] ∧ NearI n H fd as (ES.take i) H') ⟨none, none, rfl, by rw [List.take_zero]; exact I0⟩ (fun i σ H' _ ⟨_, _, _, I⟩ => SqT.of (I.sm _ _ h2)) ?_ ?_⟩
  · rintro i x σ H' hx ⟨y2, y3, rfl, I⟩
    obtain ⟨qa, hq, rfl⟩ := of_map_ref hx
    have hi : i < ES.length := by
      have := (List.getElem?_eq_some_iff.mp hq).1
      omega
    have hp : ES[i]? = some ES[i] := List.getElem?_eq_getElem hi
    have fresh : ES[i] ∉ ES.take i := fun m => by
      obtain ⟨j, hj, e⟩ := List.mem_take_iff_getElem.mp m
      have lt := List.pairwise_iff_getElem.mp hV.asc j i (by omega) hi (by omega)
      rw [e] at lt
      exact List.lt_irrefl _ lt
    generalize ES[i] = p at hp fresh
    obtain ⟨r0, r1, r2⟩ := hV.rng p (List.mem_of_getElem? hp)
    obtain ⟨x, ex⟩ : ∃ x : Nat, p.1 = (x : Int) := ⟨p.1.toNat, by omega⟩
    obtain ⟨y, ey⟩ : ∃ y : Nat, p.2 = (y : Int) := ⟨p.2.toNat, by omega⟩
    have hqa := I.sm _ _ (h4 i qa p hq hp)
    obtain ⟨C, hK, hE⟩ := I.ct
    obtain ⟨lx, hCx⟩ : ∃ l, C[x]? = some l := ⟨_, List.getElem?_eq_getElem (by have := hK.1; omega)⟩
    obtain ⟨ly, hCy⟩ : ∃ l, C[y]? = some l := ⟨_, List.getElem?_eq_getElem (by have := hK.1; omega)⟩
    obtain ⟨ax, hax, hlx⟩ := hE.get hCx
    obtain ⟨ay, hay, hly⟩ := hE.get hCy
    have lx5 : lx.length ≤ 12 := nodup_len (n := 12) (hK.2 x lx hCx).1 fun b hb => by
      rcases ((hK.2 x lx hCx).2 b).mp hb with m | m
      · have := hV.rng _ (List.mem_of_mem_take m)
        simp only at this
        omega
      · have := hV.rng _ (List.mem_of_mem_take m)
        simp only at this
        omega
    have ly5 : ly.length ≤ 12 := nodup_len (n := 12) (hK.2 y ly hCy).1 fun b hb => by
      rcases ((hK.2 y ly hCy).2 b).mp hb with m | m
      · have := hV.rng _ (List.mem_of_mem_take m)
        simp only at this
        omega
      · have := hV.rng _ (List.mem_of_mem_take m)
        simp only at this
        omega
    have nxy : ay ≠ ax := fun z => by
      have := nd_ix I.nd hay (z ▸ hax)
      omega
    have nfx : fd ≠ ax := fun z => I.nf (z ▸ List.mem_of_getElem? hax)
    have nfy : fd ≠ ay := fun z => I.nf (z ▸ List.mem_of_getElem? hay)
    refine ⟨qa, _, rfl, SqT.of hqa, rfl, _, _, rfl, _, _, rfl, rfl, ?_⟩
    refine ⟨_, rfl, _, rfl, fd, _, _, _, rfl, rfl, SqL.of I.li, at_of (j := x) ex (map_ref_get hax), .inl ⟨rfl, _, SqL.of hlx⟩, _, rfl, ax, _, _, rfl, rfl, hlx, by rw [List.length_map]; exact small_lst (by omega), ?_⟩
    have hli2 : (upd H' ax (.lst (lx.map V.int ++ [V.int p.2]))) fd = some (.lst (as.map V.ref)) := by rw [upd_ne nfx]; exact I.li
    have hly2 : (upd H' ax (.lst (lx.map V.int ++ [V.int p.2]))) ay = some (.lst (ly.map V.int)) := by rw [upd_ne nxy]; exact hly
    refine ⟨_, rfl, _, rfl, fd, _, _, _, rfl, rfl, SqL.of hli2, at_of (j := y) ey (map_ref_get hay), .inl ⟨rfl, _, SqL.of hly2⟩, _, rfl, ay, _, _, rfl, rfl, hly2, by rw [List.length_map]; exact small_lst (by omega), ?_⟩
    refine ⟨_, _, rfl, ?_⟩
    have hE2 := hE.set (l := lx ++ [p.2]) I.nd hax
    have hE3 := hE2.set (l := ly ++ [p.1]) I.nd hay
    refine ⟨same_upd (same_upd I.sm (I.nw ax (List.mem_of_getElem? hax))) (I.nw ay (List.mem_of_getElem? hay)), by rw [upd_ne nfy]; exact hli2, I.nd, I.nf, I.nw, ⟨(C.set x (lx ++ [(y : Int)])).set y (ly ++ [(x : Int)]), ?_, ?_⟩⟩
    · rw [take_more hp]
      have ep : p = ((x : Int), (y : Int)) := Prod.ext ex ey
      rw [ep] at fresh ⊢
      exact nearK_step hK hCx hCy (by omega) fresh fun p hp => (hV.rng p (List.mem_of_mem_take hp)).2.1
    · rw [lst_snoc_int, lst_snoc_int]
      have e1 : (lx ++ [p.2]) = lx ++ [(y : Int)] := by rw [ey]
      have e2 : (ly ++ [p.1]) = ly ++ [(x : Int)] := by rw [ex]
      rw [e1, e2] at hE3 ⊢
      exact hE3
  -- sorted
  rintro σ H' ⟨y2, y3, rfl, I⟩
  have el : (qs.map V.ref).length = ES.length := by rw [List.length_map, h3]
  rw [el, List.take_length] at I
  obtain ⟨C, hK, hE⟩ := I.ct
  have nl : (nearL n ES).length = n := (nearL_near hV).len
  refine ⟨_, rfl, fd, rfl, ⟨_, SqL.of I.li⟩, fun D2 hD2 => ?_⟩
  refine lcn_list (K := K) (a := fd) (xs := as.map V.ref) (k := lstO) (fun i => (nearL n ES).take i) hD2 (List.take_zero) (SqL.of I.li) (fun i hi => by rw [List.length_take]; omega) (fun i x H3 R R' hx s3 hD3 L => ?_) fun H3 s3 hS => ?_
  · obtain ⟨b, hb, rfl⟩ := of_map_ref hx
    have hi : i < n := by
      have := (List.getElem?_eq_some_iff.mp hb).1
      omega
    obtain ⟨l, hC⟩ : ∃ l, C[i]? = some l := ⟨_, List.getElem?_eq_getElem (by have := hK.1; omega)⟩
    have hbl := s3 _ _ (hE.2 i b l hb hC)
    have l5 : l.length ≤ 12 := nodup_len (n := 12) (hK.2 i l hC).1 fun b hb => by
      rcases ((hK.2 i l hC).2 b).mp hb with m | m
      · have := hV.rng _ m
        simp only at this
        omega
      · have := hV.rng _ m
        simp only at this
        omega
    refine ⟨rfl, ⟨_, rfl, b, l, rfl, .inl (SqL.of hbl), by omega, fun ms p hp hs hnew => ?_⟩⟩
    refine L.1 p ms _ ?_ (same_new hnew) upd_same (take_more (nearK_sorted hK hV hC hp hs))
    rintro rfl
    obtain ⟨o, ho⟩ := hD3
    rw [ho] at hnew
    cases hnew
  · have e2 : (as.map V.ref).length = (nearL n ES).length := by rw [List.length_map, hl, nl]
    rw [e2, List.take_length] at hS
    exact q H3 D2 (I.sm.trans s3) hS
end
end ST

/-! SReach -/
/-! reach. -/
namespace ST
open PySem PySem.Spec PyProof.Rows L2 SM
theorem eqv_nil : ∀ xs : List Int, PyData.eqv (.list (xs.map PyData.int)) (.list []) = decide (xs = [])
  | [] => by simp [PyData.eqv, PyData.eqvAll]
  | x :: r => by simp [PyData.eqv, PyData.eqvAll]
theorem lay_ints : ∀ xs : List Int, PyData.canLayAll0 (xs.map PyData.int) = true
  | [] => by simp [PyData.canLayAll0]
  | x :: r => by
    have h := lay_ints r
    simp [PyData.canLayAll0, PyData.canLay0, h]
theorem shaped_ints (xs : List Int) : SeqAt.shaped (.list (xs.map PyData.int)) = true := by
  have h1 : (PyData.list (xs.map PyData.int)).canLay0 = true := by
    rw [PyData.canLay0]
    exact lay_ints xs
  have h2 : (PyData.list (xs.map PyData.int)).depth ≤ 64 := by
    rw [PyData.depth, PySem.W.depth_ints]
    decide
  unfold SeqAt.shaped
  rw [h1, decide_eq_true h2]
  rfl
theorem filt_pos {p : Int → Bool} {y : Int} (h : p y = true) : ([y] : List Int).filter p = [y] := by simp [h]
theorem filt_neg {p : Int → Bool} {y : Int} (h : p y = false) : ([y] : List Int).filter p = [] := by simp [h]
theorem fresh_is (L : List (List Int)) (ks F : List Int) (z : Int) : SM.fresh L (fun x => x ∈ ks) F z = (nb L z).filter fun y => decide (y ∈ ks ∧ y ∉ F) :=
  List.filter_congr fun y _ => decide_eq_decide.mpr Iff.rfl
/-- a list of ints, not empty, has a last one -/
theorem last_or {R : List Int} (h : R ≠ []) : ∃ R0 z, R = R0 ++ [z] := ⟨R.dropLast, R.getLast h, (List.dropLast_concat_getLast h).symm⟩
theorem pop_at (R0 : List Int) (z : Int) : ((R0 ++ [z]).map V.int)[((R0 ++ [z]).map V.int).length - 1]? = some (.int z) := by
  rw [List.length_map, List.length_append, List.length_singleton, Nat.add_sub_cancel, List.getElem?_map, List.getElem?_append_right (Nat.le_refl _), Nat.sub_self]
  rfl
theorem pop_rest (R0 : List Int) (z : Int) : ((R0 ++ [z]).map V.int).dropLast = R0.map V.int := by
  rw [List.map_append]
  exact List.dropLast_concat
theorem near_get {n : Nat} {L : List (List Int)} (N : Near n L) {h : Int} (h0 : 0 ≤ h) (h1 : h < (n : Int)) : L[h.toNat]? = some (nb L h) := by
  have hl : h.toNat < L.length := by have := N.len; omega
  unfold nb
  rw [List.getD_eq_getElem?_getD, List.getElem?_eq_getElem hl]
  rfl
section
variable {P : Program} {w : World} {K : PySem.W.Frag} {mg : Str → Option Value} {base : Heap}
def spReach : Sp := fun vs H Q _ => ∃ (a k : Addr) (n : Nat) (L : List (List Int)) (st : Int) (ks : List Int) (kvs : List (Key × V)), vs = [.ref a, .int st, .ref k] ∧ Seqs lstO H a L ∧ Near n L ∧ n ≤ 12 ∧ 0 ≤ st ∧ st < (n : Int) ∧
  H k = some (.dK kvs) ∧ kvs.map (·.1) = ks.map Sum.inl ∧ ∀ H' p, Same H H' → H' p = some (tupO (comp n L (fun x => x ∈ ks) st)) → Q (.ref p) H'
/-- what holds ahead of each turn of the while -/
def ReachI (H0 : Hp) (n : Nat) (L : List (List Int)) (ks : List Int) (st : Int) (fd rm : Addr) (F R : List Int) (H : Hp) : Prop :=
  Same H0 H ∧ H fd = some (.dK (keysT F)) ∧ H rm = some (lstO R) ∧ Dfs n L (fun x => x ∈ ks) st F R ∧ R.length ≤ F.length
theorem ok_reach (T : Txt K mg) : FnOk P w K mg base CX0 1 T.d_reach.f T.d_reach.fd p_reach spReach := by
  refine T.d_reach.F.ok sc_reach (fun vs H Q E h => ?_) (fun cdv A outer s H vs Q E hr h => ?_)
  · obtain ⟨a, k, n, L, st, ks, kvs, rfl, _⟩ := h
    rfl
  obtain ⟨a, k, n, L, st, ks, kvs, rfl, hS, hN, hn, h0, h1, hk, hks, q⟩ := h
  have hu64 := hr.units
  have hu := hu_of hr
  have nd := sc_reach.nd
  refine ⟨_, pss_cons (ps_par (i := 3) (j := 4) rfl nd rfl rfl (by decide) rfl rfl (pa_cons (pe_disp (pps_cons (pv 1) pe_bl pps_nil) (by rfl) (by rfl) (fun z => by cases z) (by decide)) (pa_cons (pe_lst (pa_cons (pv 1) pa_nil)) pa_nil)) (by rfl))
    (pss_cons (ps_while PassesOwn.never (pt_cmpR (op_neD hu64) (pv 4) (pe_lst pa_nil) (nomark _))
      (pss_cons (ps_set (i := 5) nd rfl (.inl rfl) (pe_bm0 PySem.F.plainAttrs_list PySem.F.slot_list_pop PySem.F.type_list_pop mt_pop (pv 4)))
        (pss_one (ps_for PassesOwn.never rfl (pi_list (pe_ix ix_list (pv 0) (pv 5) (fun _ _ => rfl))) (pg_name (i := 6) nd rfl (.inl rfl))
          (pss_one (ps_if (PW.pt (pw_and (pt_cmp (pc_din hu (pv 6) (pv 2))) (pw_and1 (pt_cmp (pc_dnotin hu (pv 6) (pv 3))))))
            (pss_cons (ps_dput hu (pv 3) (pv 6) pe_bl rfl) (pss_one (ps_expr (pe_bm PySem.F.plainAttrs_list PySem.F.slot_list_append PySem.F.type_list_append mt_append (pv 4) (pa_cons (pv 6) pa_nil))))) pss_nil))))))
    (pss_one (ps_ret (pe_callTy call_tuple_of (by rfl) T.z_tuple bt_tuple (pa_cons (pe_callB (call_sortedDI rfl) (by rfl) T.z_sorted bt_sorted (pa_cons (pv 3) pa_nil)) pa_nil))))), ?_⟩
  intro fd hfd
  refine ⟨_, rfl, upd_same, [(Sum.inl st, .bl true)], rfl, (by show 1 ≤ 15; decide), ?_⟩
  rw [upd_upd]
  refine ⟨_, rfl, (by show 1 ≤ sizeLine; decide), fun rm hrm => ⟨_, _, rfl, ?_⟩⟩
  have nfr : fd ≠ rm := fun z => by rw [← z, upd_same] at hrm; cases hrm
  have hrm0 : H rm = none := by rw [upd_ne (Ne.symm nfr)] at hrm; exact hrm
  have I0 : ReachI H n L ks st fd rm [st] [st] (upd (upd H fd (.dK (mergeK [] [(Sum.inl st, .bl true)]))) rm (.lst [.int st])) :=
    ⟨same_upd (same_new hfd) hrm0, by rw [upd_ne nfr, upd_same]; rfl, by rw [upd_same]; rfl, Dfs.init h0 h1, Nat.le_refl _⟩
  refine ⟨fun m σ H' => ∃ F R y5 y6, σ = [some (.ref a), some (.int st), some (.ref k), some (.ref fd), some (.ref rm), y5, y6] ∧ ReachI H n L ks st fd rm F R H' ∧ m = 2 * (n - F.length) + R.length, ⟨_, [st], [st], none, none, rfl, I0, rfl⟩, ?_⟩
  rintro m σ H' ⟨F, R, y5, y6, rfl, ⟨sm, hF, hR, hD, hRF⟩, rfl⟩
  refine ⟨_, rfl, Nat.zero_le _, fun e he => ⟨.list (R.map PyData.int), .list [], .lst (SqL.of (by rw [upd_ne (ne_of_none hR he)]; exact hR)) (dp_ints R), .lst (SqL.of upd_same) .nil, shaped_ints R, shaped_ints [], _, rfl, ?_⟩⟩
  have sm1 : Same H (upd H' e (.lst [])) := same_more sm he
  have hF1 : (upd H' e (.lst [])) fd = some (.dK (keysT F)) := by rw [upd_ne (ne_of_none hF he)]; exact hF
  have hR1 : (upd H' e (.lst [])) rm = some (lstO R) := by rw [upd_ne (ne_of_none hR he)]; exact hR
  generalize upd H' e (.lst []) = H1 at sm1 hF1 hR1
  rw [eqv_nil]
  have hFl := hD.len
  refine ite2 (fun c => ?_) (fun c => ?_)
  · have hne : R ≠ [] := by simpa using c
    obtain ⟨R0, z, rfl⟩ := last_or hne
    have hz := hD.rng z (hD.sub z (by simp))
    refine ⟨fun σ' H' => ∃ F' R' y5 y6, σ' = [some (.ref a), some (.int st), some (.ref k), some (.ref fd), some (.ref rm), y5, y6] ∧ ReachI H n L ks st fd rm F' R' H' ∧ 2 * (n - F'.length) + R'.length < 2 * (n - F.length) + (R0 ++ [z]).length,
      fun σ' H' ⟨F', R', z5, z6, e1, e2, e3⟩ => ⟨_, e3, F', R', z5, z6, e1, e2, rfl⟩, ?_⟩
    refine ⟨_, rfl, .inl ⟨rfl, _, SqL.of hR1⟩, rm, _, _, rfl, rfl, hR1, pop_at R0 z, ?_⟩
    rw [pop_rest]
    have sm2 : Same H (upd H1 rm (.lst (R0.map V.int))) := same_upd sm1 hrm0
    have hF2 : (upd H1 rm (.lst (R0.map V.int))) fd = some (.dK (keysT F)) := by rw [upd_ne nfr]; exact hF1
    have hR2 : (upd H1 rm (.lst (R0.map V.int))) rm = some (lstO R0) := upd_same
    generalize upd H1 rm (.lst (R0.map V.int)) = H2 at sm2 hF2 hR2
    obtain ⟨as, hal, hE⟩ := hS.same sm2
    obtain ⟨ah, hah, hlh⟩ := hE.get (near_get hN hz.1 hz.2)
    have hlh0 : H ah = some (lstO (nb L z)) := by
      obtain ⟨as0, hal0, hE0⟩ := hS
      have e1 := (sm2 _ _ hal0).symm.trans hal
      have e2 : as0 = as := by
        have e3 : as0.map V.ref = as.map V.ref := by injection e1 with e1; injection e1
        have inj : Function.Injective V.ref := fun x y hxy => by injection hxy
        exact (List.map_inj_right inj).mp e3
      subst e2
      exact hE0.2 _ _ _ hah (near_get hN hz.1 hz.2)
    refine ⟨_, rfl, _, rfl, a, _, _, _, rfl, rfl, SqL.of hal, at_of (j := z.toNat) (by omega) (map_ref_get hah), ah, rfl, ⟨_, SqL.of hlh⟩, for_list (K := K) (a := ah) (xs := (nb L z).map V.int)
      (fun i σ H' => ∃ y6, σ = [some (.ref a), some (.int st), some (.ref k), some (.ref fd), some (.ref rm), some (.int z), y6] ∧ Same H H' ∧
        H' fd = some (.dK (keysT (F ++ ((nb L z).take i).filter fun y => decide (y ∈ ks ∧ y ∉ F)))) ∧ H' rm = some (lstO (R0 ++ ((nb L z).take i).filter fun y => decide (y ∈ ks ∧ y ∉ F)))) ⟨y6, rfl, sm2, ?_, ?_⟩ ?_ ?_ ?_⟩
    · rw [List.take_zero, List.filter_nil, List.append_nil]
      exact hF2
    · rw [List.take_zero, List.filter_nil, List.append_nil]
      exact hR2
    · rintro i σ H' _ ⟨y6, _, s3, _⟩
      exact SqL.of (s3 _ _ hlh0)
    · rintro i x σ H' hx ⟨y6, rfl, s3, hF3, hR3⟩
      obtain ⟨y, hy, rfl⟩ := of_map_int hx
      have hk3 := s3 _ _ hk
      have ndn := hN.nb_nd z
      have yi : y ∉ (nb L z).take i := fun m => by
        have nd2 : ((nb L z).take (i + 1)).Nodup := ndn.sublist (List.take_sublist _ _)
        rw [take_more hy] at nd2
        exact (List.nodup_append.mp nd2).2.2 y m y (by simp) rfl
      refine ⟨_, rfl, _, rfl, k, _, rfl, DGet.k (k := Sum.inl y) hk3, _, rfl, ?_⟩
      rw [val_inl hks y, take_more hy, List.filter_append]
      generalize hfr : ((nb L z).take i).filter (fun y => decide (y ∈ ks ∧ y ∉ F)) = fr at hF3 hR3 ⊢
      have yfr : y ∉ fr := fun m => by
        rw [← hfr] at m
        exact yi (List.mem_filter.mp m).1
      by_cases c1 : y ∈ ks
      · rw [decide_eq_true c1]
        refine ⟨_, rfl, _, rfl, fd, _, rfl, DGet.k (k := Sum.inl y) hF3, _, rfl, ?_⟩
        rw [keysT_val]
        by_cases c2 : y ∈ F
        · have c3 : decide (y ∈ F ++ fr) = true := decide_eq_true (List.mem_append_left _ c2)
          rw [c3]
          refine iteF ⟨_, rfl, s3, ?_, ?_⟩
          · rw [filt_neg (decide_eq_false (fun z => z.2 c2))]
            simpa using hF3
          · rw [filt_neg (decide_eq_false (fun z => z.2 c2))]
            simpa using hR3
        · have c3 : y ∉ F ++ fr := fun m => (List.mem_append.mp m).elim c2 yfr
          rw [decide_eq_false c3]
          have e1 : (([y] : List Int).filter fun y => decide (y ∈ ks ∧ y ∉ F)) = [y] := filt_pos (decide_eq_true ⟨c1, c2⟩)
          have hsz : (F ++ fr).length ≤ 1000 := by
            have h1 : fr.length ≤ (nb L z).length := by
              rw [← hfr]
              exact Nat.le_trans (List.length_filter_le _ _) (by rw [List.length_take]; omega)
            have h2 : (nb L z).length ≤ n := nodup_len ndn fun u hu => hN.nb_rng hu
            rw [List.length_append]
            omega
          have hszR : (R0 ++ fr).length ≤ 1000 := by
            have h1 : fr.length ≤ (nb L z).length := by
              rw [← hfr]
              exact Nat.le_trans (List.length_filter_le _ _) (by rw [List.length_take]; omega)
            have h2 : (nb L z).length ≤ n := nodup_len ndn fun u hu => hN.nb_rng hu
            rw [List.length_append]
            rw [List.length_append, List.length_singleton] at hRF
            omega
          rw [e1]
          refine iteT ⟨_, rfl, _, rfl, fd, _, rfl, DPut.k (k := Sum.inl y) hF3 (by unfold keysT; rw [List.length_map]; exact small_lst (by omega)), ?_⟩
          rw [keysT_snoc c3]
          refine ⟨_, rfl, .inl ⟨rfl, _, SqL.of (by rw [upd_ne (Ne.symm nfr)]; exact hR3)⟩, _, rfl, rm, _, _, rfl, rfl, by rw [upd_ne (Ne.symm nfr)]; exact hR3, by rw [List.length_map]; exact small_lst (by omega), ?_⟩
          refine ⟨_, rfl, same_upd (same_upd s3 hfd) hrm0, ?_, ?_⟩
          · rw [upd_ne nfr, upd_same, List.append_assoc]
          · rw [upd_same, lst_snoc_int, List.append_assoc]
            rfl
      · rw [decide_eq_false c1]
        refine iteF ⟨_, rfl, s3, ?_, ?_⟩
        · rw [filt_neg (decide_eq_false (fun z => c1 z.1))]
          simpa using hF3
        · rw [filt_neg (decide_eq_false (fun z => c1 z.1))]
          simpa using hR3
    · rintro σ H' ⟨y6, rfl, s3, hF3, hR3⟩
      rw [List.length_map, List.take_length] at hF3 hR3
      have D2 := hD.step hN
      rw [fresh_is] at D2
      have l2 := D2.len
      rw [List.length_append] at l2
      rw [List.length_append, List.length_singleton] at hRF
      refine ⟨_, _, _, _, rfl, ⟨s3, hF3, hR3, D2, ?_⟩, ?_⟩
      · rw [List.length_append, List.length_append]
        omega
      · rw [List.length_append, List.length_append, List.length_append, List.length_singleton]
        omega
  · have hnil : R = [] := by simpa using c
    subst hnil
    refine ⟨_, rfl, fd, _, F, rfl, .inl hF1, keysT_fst F, by omega, fun ys p hp hs hpn => ?_⟩
    refine ⟨p, _, rfl, .inl ⟨SqL.of upd_same, fun l hl => ?_⟩⟩
    refine q _ l (same_more (same_more sm1 hpn) hl) ?_
    rw [upd_same, hD.sorted hp hs]
    rfl
end
end ST

/-! SRules3 -/
/-! name = {k: v for ..} on one line, the name a local. -/
namespace L2
open PySem PySem.Spec PyProof.Rows
section
variable {X : Cx}
theorem ps_setDc {i : Nat} {y : Str} {py : Pos} {kx vx tg iter : Expr} {ifs : List Expr} {scope : Scope} {own : List (Str × Nat)} {pos spos : Pos} {wi : TI} {g : TG} {tt : TT} {tk tv : TE} (hc : X.calm = true) (hN : X.N.Nodup) (hy : X.N[i]? = some y) (hyl : X.env.scope.names.lookup y = some .local)
    (hsw : swapsWith (.DictComp kx vx [⟨tg, iter, ifs, 0⟩] scope pos) (some (.Name y py)) spos.line X.env = pure true) (hi : PI X tg iter wi) (ok : BlkOk X.N X.env.scope scope own)
    (hg : ∀ (s : Shared) (H : Hp) (C : Addr) (cl : List (Str × Addr)) (fp : List Addr), PG (X.blk s H scope (compEnvC scope cl C X.env) fp) tg g) (ht : ∀ (s : Shared) (H : Hp) (C : Addr) (cl : List (Str × Addr)) (fp : List Addr), PTs (X.blk s H scope (compEnvC scope cl C X.env) fp) ifs tt)
    (hk : ∀ (s : Shared) (H : Hp) (C : Addr) (cl : List (Str × Addr)) (fp : List Addr), PE (X.blk s H scope (compEnvC scope cl C X.env) fp) kx tk)
    (he : ∀ (s : Shared) (H : Hp) (C : Addr) (cl : List (Str × Addr)) (fp : List Addr), PE (X.blk s H scope (compEnvC scope cl C X.env) fp) vx tv) (hs : ∀ x, foldedSetIterable iter X.env x = pure x := by intro _; rfl) :
    PS X (.Assign [.Name y py] (.DictComp kx vx [⟨tg, iter, ifs, 0⟩] scope pos) spos) (tAsg (tDc wi g tt tk tv (own.map (·.2))) (gName i)) := by
  refine ⟨fun pins s σ H D I h => ?_⟩
  rw [exec_Assign_Name_used _ _ _ _ hsw]
  refine wpAny_bind (wpAny_standAt (wpAny_bind ?_))
  show wpAny _ X.A (do let _ ← comprehension (.DictComp kx vx [⟨tg, iter, ifs, 0⟩] scope pos) scope X.env (firstIterPos [⟨tg, iter, ifs, 0⟩] pos) newDict false (eval iter X.env) (some (assign (.Name y py) X.env))) _ _ s
  have h : tDc wi g tt tk tv (own.map (·.2)) σ H (fun x H1 => gName i x σ H1 D.nx) := h
  refine wpAny_bind (thn (dc_core (Qf := fun _ s' => SP X pins D .next s') hc hN I hi ok hg ht hk he hs h fun L C s' m H' I' q hn f => ?_) fun _ s' hq => wpAny_pure (wpAny_pure hq))
  show wpAny _ _ (assign (.Name y py) X.env (.ref L)) _ _ _
  refine wpAny_assign_Name (store_ok2 (v := V.ref L) I' hN hy (.inl hyl) rfl (fun s2 I2 ⟨a, sb, ha⟩ => ?_) (.inr hyl))
  obtain ⟨f0, f1, f2, f3, f4, f5⟩ := f
  have haC : C ≠ a := by
    rcases ha with z | z
    · rw [z]; exact f1
    · exact fun e => f4 y a z e.symm
  refine ⟨m, hn.sameBut sb haC, fun h3 sb3 => ?_⟩
  exact ⟨_, H', I2.turned (t' := s2.toks) (fun b o hb e => (sb3.2 b hb).trans e) f0 f1 f3 f4 f5, q⟩
theorem sw_trueD {kx vx : Expr} {gs : List Comprehension} {scope : Scope} {pos py : Pos} {y : Str} {l : Nat} {env : Env} (hk : env.scope.kind = .function) (hy : env.scope.names.lookup y = some .local) (hl : (py.line == pos.line) = true)
    (ha : (scope.names.any fun (n, k) => n == y && (k == .local || k == .cell)) = false) : swapsWith (.DictComp kx vx gs scope pos) (some (.Name y py)) l env = pure true := by
  have ky : env.kindOf y = some .local := hy
  have hb : env.blockKind = .function := by unfold Env.blockKind; rw [hk]; rfl
  unfold swapsWith
  simp only [hb, ky, ha, Expr.pos, hl]
  rfl
end
end L2

/-! SFine -/
/-! may_put, is_fine. -/
namespace ST
open PySem PySem.Spec PyProof.Rows L2 SM
section
variable {P : Program} {w : World} {K : PySem.W.Frag} {mg : Str → Option Value} {base : Heap}
/-- t + u of tuples of ints -/
def rCatI : R2 := fun x y H Q => ∃ (a b : Addr) (ns ms : List Int), x = .ref a ∧ y = .ref b ∧ H a = some (tupO ns) ∧ H b = some (tupO ms) ∧ ns.length + ms.length ≤ 100000 ∧ ∀ H' c, Same H H' → H' c = some (tupO (ns ++ ms)) → Q (.ref c) H'
theorem opCatI {X : Cx} : OpR X (binaryOp .Add) rCatI := by
  intro pins s σ H x y v u Q I rx ry h
  obtain ⟨a, b, ns, ms, rfl, rfl, ha, hb, hz, q⟩ := h
  refine op_catA pins s σ H _ _ v u Q I rx ry ⟨a, b, _, _, rfl, rfl, SqT.of ha, SqT.of hb, by rw [List.length_map, List.length_map]; exact small_le (by omega), fun e => ?_, fun _ e => ?_, fun _ _ c hc => ?_⟩
  · have e2 : ns = [] := List.map_eq_nil_iff.mp e
    subst e2
    exact q H b (Same.refl H) hb
  · have e2 : ms = [] := List.map_eq_nil_iff.mp e
    subst e2
    exact q H a (Same.refl H) (by rw [List.append_nil]; exact ha)
  · refine q _ c (same_new hc) ?_
    rw [upd_same]
    unfold tupO
    rw [List.map_append]
def spMayPut : Sp := fun vs H Q _ => ∃ (a b : Addr) (n : Nat) (L : List (List Int)) (l : List Int) (p m : Int), vs = [.ref a, .ref b, .int p, .int m] ∧ Seqs lstO H a L ∧ Near n L ∧ n ≤ 12 ∧ H b = some (tupO l) ∧ IsLot n l ∧ 0 ≤ p ∧ p < (n : Int) ∧
  ∀ H' c, Same H H' → (c = true ↔ p ∉ l ∧ ((part n L (ins p l) p).length : Int) ≤ m) → Q (.bl c) H'
theorem ok_may_put (T : Txt K mg) : FnOk P w K mg base CX0 2 T.d_may_put.f T.d_may_put.fd p_may_put spMayPut := by
  refine T.d_may_put.F.ok sc_may_put (fun vs H Q E h => ?_) (fun cdv A outer s H vs Q E hr h => ?_)
  · obtain ⟨a, b, n, L, l, p, m, rfl, _⟩ := h
    rfl
  obtain ⟨a, b, n, L, l, p, m, rfl, hS, hN, hn, hb, hl, h0, h1, q⟩ := h
  have nd := sc_may_put.nd
  refine ⟨_, pss_cons (ps_if (pt_cmpR op_in_seq (pv 2) (pv 1) (by rfl)) (pss_one (ps_ret pe_bl)) pss_nil)
    (pss_cons (ps_setDc (i := 4) (own := [("other", 5)]) (g := gName 5) rfl nd rfl rfl (sw_trueD rfl rfl rfl (by decide +kernel)) (pi_tup (pe_op opCatI (pv 1) (pe_tup (pa_cons (pv 2) pa_nil)))) (blkOk_by (own := [("other", 5)]) (N := n_may_put) (sc := defScope s_may_put) (by decide +kernel))
        (fun _ _ _ _ _ => pg_name (i := 5) nd rfl (Or.inl rfl)) (fun _ _ _ _ _ => pts_nil) (fun _ _ _ _ _ => pv 5) (fun _ _ _ _ _ => pe_bl))
    (pss_one (ps_ret (pe_cmpR op_le (pe_callB call_len_seq (by rfl) T.z_len bt_len (pa_cons (pe_call (ok_reach T) hr (by rfl) T.d_reach.g T.d_reach.F.kp T.d_reach.b .nil pass0 (pa_cons (pv 0) (pa_cons (pv 2) (pa_cons (pv 4) pa_nil)))) pa_nil)) (pv 3) (nomark _))))), ?_⟩
  have hll := hl.len
  refine ⟨_, rfl, _, rfl, b, _, rfl, .inr (SqT.of hb), rfl, flat_ints l, _, rfl, ?_⟩
  rw [inV_ints]
  refine ite2 (fun c => ?_) (fun c => ?_)
  · have hp : p ∈ l := of_decide_eq_true c
    exact q H false (Same.refl H) ⟨fun z => (by cases z), fun z => absurd hp z.1⟩
  · have hp : p ∉ l := fun z => c (decide_eq_true z)
    refine ⟨_, rfl, _, rfl, (by show 1 ≤ sizeLine; decide), fun t ht => ?_⟩
    have s1 : Same H (upd H t (.tup [.int p])) := same_new ht
    have hb1 := s1 _ _ hb
    have ht1 : (upd H t (.tup [.int p])) t = some (tupO [p]) := upd_same
    generalize upd H t (.tup [.int p]) = H1 at s1 hb1 ht1
    refine ⟨b, t, l, [p], rfl, rfl, hb1, ht1, by show l.length + 1 ≤ _; omega, fun H2 c s2 hc => ⟨c, rfl, ⟨_, SqT.of hc⟩, fun D hD => ?_⟩⟩
    have s2 : Same H H2 := s1.trans s2
    · have ndc : (l ++ [p]).Nodup := by
        rw [List.nodup_append]
        refine ⟨hl.asc.nodup, by simp, fun u hu v hv e => ?_⟩
        have : v = p := by simpa using hv
        exact hp (by rw [← this, ← e]; exact hu)
      refine dc_keys (K := K) (a := c) (ns := l ++ [p]) (by show 5 < 6; decide) hD hc ndc (by rw [List.length_append]; show l.length + 1 ≤ _; omega) fun H3 s3 hD3 => ?_
      refine ⟨_, rfl, _, rfl, _, rfl, a, D, n, L, p, l ++ [p], _, rfl, hS.same (s2.trans s3), hN, hn, h0, h1, hD3, keysT_fst _, fun H4 r s4 hr4 => ?_⟩
      have e : comp n L (fun x => x ∈ l ++ [p]) p = part n L (ins p l) p := comp_congr fun x => by rw [mem_ins, List.mem_append, List.mem_singleton]
      rw [e] at hr4
      refine ⟨r, _, rfl, .inr (SqT.of hr4), _, rfl, _, m, rfl, rfl, ?_⟩
      refine q H4 _ ((s2.trans s3).trans s4) ?_
      rw [decide_eq_true_iff, List.length_map]
      exact ⟨fun z => ⟨hp, z⟩, fun z => z.2⟩
def spIsFine : Sp := fun vs H Q _ => ∃ (a b : Addr) (n : Nat) (L : List (List Int)) (l : List Int) (m : Int), vs = [.ref a, .ref b, .int m] ∧ Seqs lstO H a L ∧ Near n L ∧ n ≤ 12 ∧ H b = some (tupO l) ∧ IsLot n l ∧
  ∀ H' c, Same H H' → (c = true ↔ Fine n L m l) → Q (.bl c) H'
theorem ok_is_fine (T : Txt K mg) : FnOk P w K mg base CX0 2 T.d_is_fine.f T.d_is_fine.fd p_is_fine spIsFine := by
  refine T.d_is_fine.F.ok sc_is_fine (fun vs H Q E h => ?_) (fun cdv A outer s H vs Q E hr h => ?_)
  · obtain ⟨a, b, n, L, l, m, rfl, _⟩ := h
    rfl
  obtain ⟨a, b, n, L, l, m, rfl, hS, hN, hn, hb, hl, q⟩ := h
  have nd := sc_is_fine.nd
  refine ⟨_, pss_cons (ps_set (i := 3) nd rfl (.inr rfl) (pe_dc (own := [("point", 4)]) rfl nd (pi_tup (pv 1)) (blkOk_by (own := [("point", 4)]) (N := n_is_fine) (sc := defScope s_is_fine) (by decide +kernel))
        (fun _ _ _ _ _ => pg_name (i := 4) nd rfl (Or.inl rfl)) (fun _ _ _ _ _ => pts_nil) (fun _ _ _ _ _ => pv 4) (fun _ _ _ _ _ => pe_bl)))
    (pss_one (ps_ret (pe_callB (cr_all rfl) (by rfl) T.z_all bt_all (pa_cons (pe_lc (own := [("point", 4)]) rfl nd (pi_tup (pv 1)) (blkOk_by (own := [("point", 4)]) (N := n_is_fine) (sc := defScope s_is_fine) (by decide +kernel))
      (fun _ _ _ _ _ => pg_name (i := 4) nd rfl (Or.inl rfl)) (fun _ _ _ _ _ => pts_nil)
      (fun _ _ _ _ _ => pe_cmpR op_le (pe_callB (crLen K) (by rfl) T.z_len bt_len (pa_cons (pe_call (ok_reach T) hr (by rfl) T.d_reach.g T.d_reach.F.kp T.d_reach.b .nil pass0 (pa_cons (pv 0) (pa_cons (pv 4) (pa_cons (pv 3) pa_nil)))) pa_nil)) (pv 2) (nomark _))) pa_nil)))), ?_⟩
  have hll := hl.len
  refine ⟨_, rfl, b, rfl, ⟨_, SqT.of hb⟩, fun D hD => ?_⟩
  refine dc_keys (K := K) (a := b) (ns := l) (by show 4 < 5; decide) hD hb hl.asc.nodup (by omega) fun H1 s1 hD1 => ?_
  refine ⟨_, rfl, b, rfl, ⟨_, SqT.of (s1 _ _ hb)⟩, fun D2 hD2 => ?_⟩
  refine lcs_tup (K := K) (a := b) (xs := l.map V.int) (fun i => ((l.take i).map fun x => decide (((part n L l x).length : Int) ≤ m)).map V.bl) hD2 rfl (SqT.of (s1 _ _ hb)) (fun i hi => ?_) (fun i x H2 R R' hx s2 kR _ => ?_) fun H2 s2 hl2 => ?_
  · rw [List.length_map, List.length_map, List.length_take]
    omega
  · obtain ⟨z, hz, rfl⟩ := of_map_int hx
    have hzr := hl.rng z (List.mem_of_getElem? hz)
    refine ⟨rfl, ⟨_, rfl, _, rfl, _, rfl, a, D, n, L, z, l, _, rfl, hS.same (s1.trans s2), hN, hn, hzr.1, hzr.2, s2 _ _ hD1, keysT_fst _, fun H4 r s4 hr4 => ?_⟩⟩
    refine ⟨r, _, rfl, .inr (SqT.of hr4), _, rfl, _, m, rfl, rfl, ?_⟩
    refine kR _ _ s4 ?_
    show ((l.take (i + 1)).map fun x => decide (((part n L l x).length : Int) ≤ m)).map V.bl = _
    rw [take_more hz, List.map_append, List.map_append, List.length_map]
    rfl
  · rw [List.length_map, List.take_length] at hl2
    refine ⟨D2, _, rfl, SqL.of hl2, ?_⟩
    refine q H2 _ (s1.trans s2) ?_
    rw [List.all_map, List.all_eq_true]
    exact ⟨fun h x hx => of_decide_eq_true (h x hx), fun h x hx => decide_eq_true (h x hx)⟩
end
end ST

/-! SNeed -/
/-! need_stones, free_points. -/
namespace ST
open PySem PySem.Spec PyProof.Rows L2 SM
/-- a net, a lot, a bound, as arguments -/
structure ArgsOk (H : Hp) (a b : Addr) (n : Nat) (E : List Pr) (l : List Int) (m : Int) : Prop where
  net : NetAt H a n E
  v : NetV n E
  pt : H b = some (tupO l)
  lot : IsLot n l
  m0 : 1 ≤ m
  m1 : m ≤ (n : Int)
section
variable {P : Program} {w : World} {K : PySem.W.Frag} {mg : Str → Option Value} {base : Heap}
def spNeed (C : Addr) : Sp := fun vs H Q Ex => ∃ (a b : Addr) (n : Nat) (E : List Pr) (l : List Int) (m : Int), vs = [.ref a, .ref b, .int m] ∧ ArgsOk H a b n E l m ∧
  (Fine n (nearL n E) m l → ∀ H' p, Same H H' → Seqs lstO H' p (nearL n E) → Q (.ref p) H') ∧ (¬ Fine n (nearL n E) m l → ∀ H', Same H H' → Ex (.ref C) none H')
theorem ok_need_stones (T : Txt K mg) : FnOk P w K mg base (L2.CX P w) 5 T.d_need_stones.f T.d_need_stones.fd p_need_stones (spNeed T.nr.C) := by
  refine T.d_need_stones.F.okX sc_need_stones (fun vs H Q E h => ?_) (fun cdv A outer s H vs Q E hr h => ?_)
  · obtain ⟨a, b, n, E, l, m, rfl, _⟩ := h
    rfl
  obtain ⟨a, b, n, ES, l, m, rfl, hA, q1, q2⟩ := h
  have nd := sc_need_stones.nd
  obtain ⟨t10, g10⟩ := T.c_stones
  refine ⟨_, pss_cons (ps_expr (pe_call (ok_need_net T) (hr.mono (by decide)) (by rfl) T.d_need_net.g T.d_need_net.F.kp T.d_need_net.b .nil pass0 (pa_cons (pv 0) pa_nil)))
    (pss_cons (ps_expr (pe_call (ok_need_points T) hr (by rfl) T.d_need_points.g T.d_need_points.F.kp T.d_need_points.b .nil pass0 (pa_cons (pv 0) (pa_cons (pv 1) pa_nil))))
    (pss_cons (ps_expr (pe_call (ok_need_number T) (hr.mono (by decide)) (by rfl) T.d_need_number.g T.d_need_number.F.kp T.d_need_number.b .nil pass0 (pa_cons (pv 2) (pa_cons pe_int (pa_cons (pe_ix ix_tup (pv 0) pe_int (fun _ _ => rfl)) pa_nil)))))
    (pss_cons (ps_set (i := 3) nd rfl (.inl rfl) (pe_call (ok_near_of T) (hr.mono (by decide)) (by rfl) T.d_near_of.g T.d_near_of.F.kp T.d_near_of.b .nil pass0 (pa_cons (pv 0) pa_nil)))
    (pss_cons (ps_if (pt_not (pt_val (pe_call (ok_is_fine T) (hr.mono (by decide)) (by rfl) T.d_is_fine.g T.d_is_fine.F.kp T.d_is_fine.b .nil pass0 (pa_cons (pv 3) (pa_cons (pv 1) (pa_cons (pv 2) pa_nil))))))
        (pss_one (ps_raise rfl (takes_of rfl rfl rfl rfl) (pmk_own0 PySem.F.excBase_ValueError T.nr.x T.nr.g T.nr.k (raises_own T.nr.b T.nr.t) (by exact rfl)))) pss_nil)
    (pss_cons (ps_if (pt_cmpR op_gt (pe_ix ix_tup (pv 0) pe_int (fun _ _ => rfl)) (pe_glob (v := .int 10) (by rfl) g10 ⟨_, rfl⟩) (nomark _)) pss_never pss_nil)
    (pss_one (ps_ret (pv 3)))))))), ?_⟩
  have hV := hA.v
  have hn6 := hV.n6
  refine ⟨_, rfl, a, n, ES, rfl, hA.net, hV, fun H1 s1 => ?_⟩
  refine ⟨_, rfl, _, rfl, a, b, n, ES, l, rfl, hA.net.same s1, by omega, s1 _ _ hA.pt, hA.lot, fun H2 s2 => ?_⟩
  have s12 := s1.trans s2
  obtain ⟨pr, qs, h1, h2, h3, h4⟩ := hA.net.same s12
  refine ⟨_, rfl, _, rfl, a, _, 0, _, rfl, rfl, SqT.of h1, atI_nat (j := 0) rfl, m, 1, n, rfl, hA.m0, hA.m1, ?_⟩
  refine ⟨_, rfl, a, n, ES, rfl, hA.net.same s12, hV, fun H3 p s3 hS => ?_⟩
  have s13 := s12.trans s3
  refine ⟨_, rfl, _, rfl, _, rfl, p, b, n, _, l, m, rfl, hS, nearL_near hV, by omega, s13 _ _ hA.pt, hA.lot, fun H4 c s4 hc => ⟨c, rfl, ?_⟩⟩
  have s14 := s13.trans s4
  cases c with
  | false => exact iteT (q2 (fun z => by have := hc.mpr z; cases this) H4 s14)
  | true =>
    have h14 := s4 _ _ (s3 _ _ h1)
    refine iteF ⟨_, rfl, a, _, 0, _, rfl, rfl, SqT.of h14, atI_nat (j := 0) rfl, n, 10, rfl, rfl, _, rfl, ?_⟩
    have e : decide ((10 : Int) < (n : Int)) = false := decide_eq_false (by omega)
    rw [e]
    exact iteF ⟨_, rfl, q1 (hc.mp rfl) H4 p s14 (hS.same s4)⟩
/-- where the lot is fine, a stone may be put on the free points -/
theorem may_free {n : Nat} {E : List Pr} {m : Int} {l : List Int} {p : Int} (hV : NetV n E) (hl : IsLot n l) (hf : Fine n (nearL n E) m l) (h0 : 0 ≤ p) (h1 : p < (n : Int)) :
    (p ∉ l ∧ ((part n (nearL n E) (ins p l) p).length : Int) ≤ m) ↔ p ∈ free n (nearL n E) m l := by
  rw [mem_free]
  constructor
  · rintro ⟨h, z⟩
    exact ⟨⟨h0, h1⟩, h, (fine_ins (nearL_near hV) hl h h0 h1 hf).mpr z⟩
  · rintro ⟨_, h, z⟩
    exact ⟨h, (fine_ins (nearL_near hV) hl h h0 h1 hf).mp z⟩
/-- a filtered list of points is the filter of 0, 1, .. -/
theorem pts_take {n i : Nat} (h : i ≤ n) : (pts n).take i = pts i := by
  unfold pts
  rw [← List.map_take, List.take_range, Nat.min_eq_left h]
def spFree (C : Addr) : Sp := fun vs H Q Ex => ∃ (a b : Addr) (n : Nat) (E : List Pr) (l : List Int) (m : Int), vs = [.ref a, .ref b, .int m] ∧ ArgsOk H a b n E l m ∧
  (Fine n (nearL n E) m l → ∀ H' p, Same H H' → H p = none → H' p = some (lstO (free n (nearL n E) m l)) → Q (.ref p) H') ∧ (¬ Fine n (nearL n E) m l → ∀ H', Same H H' → Ex (.ref C) none H')
theorem ok_free_points (T : Txt K mg) : FnOk P w K mg base (L2.CX P w) 6 T.d_free_points.f T.d_free_points.fd p_free_points (spFree T.nr.C) := by
  refine T.d_free_points.F.okX sc_free_points (fun vs H Q E h => ?_) (fun cdv A outer s H vs Q E hr h => ?_)
  · obtain ⟨a, b, n, E, l, m, rfl, _⟩ := h
    rfl
  obtain ⟨a, b, n, ES, l, m, rfl, hA, q1, q2⟩ := h
  have nd := sc_free_points.nd
  refine ⟨_, pss_cons (ps_set (i := 3) nd rfl (.inr rfl) (pe_call (ok_need_stones T) hr (by rfl) T.d_need_stones.g T.d_need_stones.F.kp T.d_need_stones.b .nil (passes_call (takes_of rfl rfl rfl rfl) (fun _ _ _ _ h => h)) (pa_cons (pv 0) (pa_cons (pv 1) (pa_cons (pv 2) pa_nil)))))
    (pss_one (ps_ret (pe_lc (own := [("point", 4)]) rfl nd (pi_range1 (by rfl) T.z_range (pa_cons (pe_ix ix_tup (pv 0) pe_int (fun _ _ => rfl)) pa_nil)) (blkOk_by (own := [("point", 4)]) (N := n_free_points) (sc := defScope s_free_points) (by decide +kernel))
      (fun _ _ _ _ _ => pg_name (i := 4) nd rfl (Or.inl rfl))
      (fun _ _ _ _ _ => pts_one (pt_val (pe_call (ok_may_put T) (hr.mono (by decide)) (by rfl) T.d_may_put.g T.d_may_put.F.kp T.d_may_put.b .nil pass0 (pa_cons (pv 3) (pa_cons (pv 1) (pa_cons (pv 4) (pa_cons (pv 2) pa_nil)))))))
      (fun _ _ _ _ _ => pv 4)))), ?_⟩
  have hV := hA.v
  have hn6 := hV.n6
  refine ⟨_, rfl, _, rfl, _, rfl, a, b, n, ES, l, m, rfl, hA, fun hf H1 p s1 hS => ?_, q2⟩
  obtain ⟨pr, qs, h1, h2, h3, h4⟩ := hA.net.same s1
  refine ⟨_, rfl, a, _, 0, _, rfl, rfl, SqT.of h1, atI_nat (j := 0) rfl, n, rfl, by omega, by omega, fun D hD => ?_⟩
  have en : ((n : Int)).toNat = n := by omega
  rw [en]
  refine lcs_range (lo := 0) (n := n) (fun i => (((pts n).take i).filter fun z => decide (z ∈ free n (nearL n ES) m l)).map V.int) hD (by rw [List.take_zero]; rfl) (fun i hi => ?_) (fun i H2 R R' hi s2 kR kR' => ?_) fun H2 s2 hl2 => ?_
  · rw [List.length_map]
    refine Nat.le_trans (List.length_filter_le _ _) ?_
    rw [List.length_take]
    omega
  · have ei : (0 : Int) + (i : Int) = (i : Int) := by omega
    rw [ei]
    refine ⟨rfl, ⟨_, rfl, _, rfl, _, rfl, _, rfl, p, b, n, _, l, i, m, rfl, hS.same s2, nearL_near hV, by omega, s2 _ _ (s1 _ _ hA.pt), hA.lot, by omega, by omega, fun H3 c s3 hc => ⟨c, rfl, ?_⟩⟩⟩
    rw [may_free hV hA.lot hf (by omega) (by omega)] at hc
    cases c with
    | true =>
      refine iteT ⟨_, rfl, kR _ _ s3 ?_⟩
      show (((pts n).take (i + 1)).filter _).map V.int = _
      rw [take_more (pts_get hi), List.filter_append, filt_pos (decide_eq_true (hc.mp rfl)), List.map_append]
      rfl
    | false =>
      refine iteF (kR' _ s3 ?_)
      show (((pts n).take (i + 1)).filter _).map V.int = _
      rw [take_more (pts_get hi), List.filter_append, filt_neg (decide_eq_false fun z => by have := hc.mpr z; cases this), List.append_nil]
  · refine q1 hf H2 D (s1.trans s2) (s1.free hD) ?_
    rw [hl2]
    have e : ((pts n).take n).filter (fun z => decide (z ∈ free n (nearL n ES) m l)) = free n (nearL n ES) m l := by
      rw [pts_take (Nat.le_refl n)]
      refine asc_ext ((asc_pts n).filter _) ((asc_pts n).filter _) fun x => ?_
      rw [List.mem_filter, decide_eq_true_iff]
      exact ⟨fun z => z.2, fun z => ⟨mem_pts.mpr (mem_free.mp z).1, z⟩⟩
    rw [e]
    rfl
end
end ST

/-! SWorth -/
/-! worth_of. -/
namespace ST
open PySem PySem.Spec PyProof.Rows L2 SM
theorem PE.weak {X : Cx} {e : Expr} {t t' : TE} (h : PE X e t) (k : ∀ σ H Q, t' σ H Q → t σ H Q) : PE X e t' := ⟨fun pins s σ H Q I q => h.run pins s σ H Q I (k σ H Q q)⟩
/-- tuple(sorted(points + (point,))), points in slot i, point in slot j -/
def tPut (i j : Nat) : TE := fun σ H Q => ∃ (b : Addr) (l : List Int) (p : Int), σ[i]? = some (some (.ref b)) ∧ σ[j]? = some (some (.int p)) ∧ H b = some (tupO l) ∧ Asc l ∧ p ∉ l ∧ l.length ≤ 100 ∧ ∀ H' c, Same H H' → H' c = some (tupO (ins p l)) → Q (.ref c) H'
theorem pe_put {X : Cx} {x y : Str} {i j kt : Nat} {p1 p2 p3 p4 p5 p6 p7 p8 : Pos} (h1 : PE X (.Name x p1) (tVar i)) (h2 : PE X (.Name y p2) (tVar j)) (hu : X.A.units + 64 < cLine) (m1 : X.mg "tuple" = none) (m2 : X.mg "sorted" = none) (g1 : Gl X "tuple" := by rfl) (g2 : Gl X "sorted" := by rfl) :
    PE X (.Call (.Name "tuple" p3) [.Call (.Name "sorted" p4) [.BinOp (.Name x p1) .Add (.Tuple [.Name y p2] kt p5) p6] [] p7] [] p8) (tPut i j) := by
  refine PE.weak (pe_callTy call_tuple_of g1 m1 bt_tuple (pa_cons (pe_callB (cr_sortedIT hu) g2 m2 bt_sorted (pa_cons (pe_op opCatI h1 (pe_tup (pa_cons h2 pa_nil))) pa_nil)) pa_nil)) fun σ H Q h => ?_
  obtain ⟨b, l, p, e1, e2, hb, ha, hp, hl, q⟩ := h
  refine ⟨_, e1, _, e2, (by show 1 ≤ sizeLine; decide), fun t ht => ?_⟩
  have s1 : Same H (upd H t (.tup [.int p])) := same_new ht
  refine ⟨b, t, l, [p], rfl, rfl, s1 _ _ hb, upd_same, by show l.length + 1 ≤ _; omega, fun H2 c s2 hc => ?_⟩
  refine ⟨c, l ++ [p], rfl, .inr (SqT.of hc), by rw [List.length_append]; show l.length + 1 ≤ _; omega, fun ms r hp2 hs hr => ?_⟩
  refine ⟨r, _, rfl, .inl ⟨SqL.of upd_same, fun u hu2 => ?_⟩⟩
  refine q _ u (same_more (same_more (s1.trans s2) hr) hu2) ?_
  rw [upd_same, sorted_ins hp2 hs ha hp]
  rfl

/-! ### the table of known worths -/
theorem keyI_inj {l m : List Int} (h : keyI l = keyI m) : l = m := by
  have inj : Function.Injective (fun x : Int => (Sum.inl x : Key)) := fun x y hxy => Sum.inl.inj hxy
  exact (List.map_inj_right inj).mp h
structure Known (n : Nat) (L : List (List Int)) (m : Int) (kvs : List (List Key × V)) : Prop where
  nd : (kvs.map (·.1)).Nodup
  ok : ∀ p ∈ kvs, ∃ l, IsLot n l ∧ p.1 = keyI l ∧ p.2 = .int (worth n L m l)
theorem known_nil (n : Nat) (L : List (List Int)) (m : Int) : Known n L m [] := ⟨List.nodup_nil, fun p hp => by cases hp⟩
theorem Known.len {n : Nat} {L : List (List Int)} {m : Int} {kvs : List (List Key × V)} (h : Known n L m kvs) : kvs.length ≤ 2 ^ n := by
  have := List.Nodup.length_le_of_subset (l₂ := (sets n).map keyI) h.nd fun k hk => by
    obtain ⟨p, hp, rfl⟩ := List.mem_map.mp hk
    obtain ⟨l, hl, e, _⟩ := h.ok p hp
    exact List.mem_map.mpr ⟨l, lot_sets hl, e.symm⟩
  rw [List.length_map, List.length_map, sets_len] at this
  exact this
theorem valV_at {κ : Type} [DecidableEq κ] {kvs : List (κ × V)} {k : κ} {v : V} (h : valV kvs k = some v) : (k, v) ∈ kvs := by
  unfold valV at h
  cases e : kvs.find? fun kv => decide (kv.1 = k) with
  | none => rw [e] at h; cases h
  | some p =>
    rw [e] at h
    have h1 : p.2 = v := Option.some.inj h
    have h2 : p.1 = k := of_decide_eq_true (List.find?_some (p := fun kv : κ × V => decide (kv.1 = k)) e)
    have h3 := List.mem_of_find?_eq_some e
    rw [← h1, ← h2]
    exact h3
theorem Known.get {n : Nat} {L : List (List Int)} {m : Int} {kvs : List (List Key × V)} (h : Known n L m kvs) {l : List Int} {v : V} (e : valV kvs (keyI l) = some v) : v = .int (worth n L m l) := by
  obtain ⟨l', _, e1, e2⟩ := h.ok _ (valV_at e)
  have : l = l' := keyI_inj e1
  subst this
  exact e2
theorem Known.put {n : Nat} {L : List (List Int)} {m : Int} {kvs : List (List Key × V)} (h : Known n L m kvs) {l : List Int} (hl : IsLot n l) (e : valV kvs (keyI l) = none) : Known n L m (putK kvs (keyI l) (.int (worth n L m l))) := by
  refine ⟨nd_putK _ h.nd e, fun p hp => ?_⟩
  rw [putK_new _ e] at hp
  rcases List.mem_append.mp hp with hp | hp
  · exact h.ok p hp
  · have : p = (keyI l, V.int (worth n L m l)) := by simpa using hp
    subst this
    exact ⟨l, hl, rfl, rfl⟩
theorem putK_fst {κ : Type} [DecidableEq κ] {kvs : List (κ × V)} {k : κ} {v u : V} (h : valV kvs k = some u) : (putK kvs k v).map (·.1) = kvs.map (·.1) := by
  have q : (kvs.any fun kv => decide (kv.1 = k)) = true := by rw [valV_any, h]; rfl
  unfold putK
  rw [if_pos q, List.map_map]
  refine List.map_congr_left fun p _ => ?_
  show (if p.1 = k then (p.1, v) else p).1 = p.1
  split <;> rfl
theorem putK_ints {kvs : List (Key × V)} {zs : List Int} {z : Int} {v : V} (h : kvs.map (·.1) = zs.map Sum.inl) : ∃ zs' : List Int, (putK kvs (Sum.inl z) v).map (·.1) = zs'.map Sum.inl ∧ (∀ x, x ∈ zs' ↔ x ∈ zs ∨ x = z) ∧ zs'.length ≤ zs.length + 1 := by
  cases e : valV kvs (Sum.inl z) with
  | none =>
    refine ⟨zs ++ [z], ?_, fun x => by simp, by simp⟩
    rw [putK_new v e, List.map_append, h, List.map_append]
    rfl
  | some u =>
    refine ⟨zs, by rw [putK_fst e, h], fun x => ?_, by omega⟩
    have hz : z ∈ zs := by
      have := valV_in e
      rw [h] at this
      obtain ⟨y, hy, ey⟩ := List.mem_map.mp this
      have : y = z := Sum.inl.inj ey
      rw [← this]
      exact hy
    exact ⟨fun q => .inl q, fun q => q.elim id fun q => q ▸ hz⟩
theorem but_new {r p : Addr} {H H1 : Hp} {o : HO} (s : But r H H1) (h : H p = none) : But r H (upd H1 p o) := fun b u n q => by rw [upd_ne (ne_of_none q h)]; exact s b u n q
theorem But.seqs {k : List Int → HO} {r p : Addr} {H H' : Hp} {ls : List (List Int)} (s : But r H H') (h : Seqs k H p ls) (np : p ≠ r) (nr : ∀ l, H r ≠ some (k l)) : Seqs k H' p ls := by
  obtain ⟨as, h1, h2⟩ := h
  refine ⟨as, s _ _ np h1, h2.mono fun a o ha ho => s _ _ (fun z => ?_) ho⟩
  obtain ⟨l, _, hl⟩ := h2.mem ha
  rw [z] at hl
  exact nr l hl
section
variable {P : Program} {w : World} {K : PySem.W.Frag} {mg : Str → Option Value} {base : Heap}
def spWorthOf (d : Nat) : Sp := fun vs H Q _ => ∃ (a b k : Addr) (n : Nat) (E : List Pr) (l : List Int) (m : Int) (kvs : List (List Key × V)), vs = [.ref a, .ref b, .int m, .ref k] ∧ Seqs lstO H a (nearL n E) ∧ NetV n E ∧ H b = some (tupO l) ∧ IsLot n l ∧
  Fine n (nearL n E) m l ∧ H k = some (.dT kvs) ∧ Known n (nearL n E) m kvs ∧ n < l.length + d ∧
  ∀ H' kvs', But k H H' → H' k = some (.dT kvs') → Known n (nearL n E) m kvs' → Q (.int (worth n (nearL n E) m l)) H'
theorem worth_none (T : Txt K mg) : FnOk P w K mg base CX0 0 T.d_worth_of.f T.d_worth_of.fd p_worth_of (spWorthOf 0) := by
  have no : ∀ vs H Q E, ¬ spWorthOf 0 vs H Q E := fun vs H Q E h => by
    obtain ⟨a, b, k, n, ES, l, m, kvs, _, _, _, _, hl, _, _, _, hd, _⟩ := h
    have := hl.len
    omega
  exact ⟨fun vs H Q E h => absurd h (no vs H Q E), fun A outer s H args us vs Q E _ _ _ _ h => absurd h (no vs H Q E)⟩
theorem ok_worth_step (T : Txt K mg) (d : Nat) (ih : FnOk P w K mg base CX0 (2 + d) T.d_worth_of.f T.d_worth_of.fd p_worth_of (spWorthOf d)) : FnOk P w K mg base CX0 (2 + (d + 1)) T.d_worth_of.f T.d_worth_of.fd p_worth_of (spWorthOf (d + 1)) := by
  refine T.d_worth_of.F.ok (k := 2 + d) sc_worth_of (fun vs H Q E h => ?_) (fun cdv A outer s H vs Q E hr h => ?_)
  · obtain ⟨a, b, k, n, ES, l, m, kvs, rfl, _⟩ := h
    rfl
  obtain ⟨a, b, k, n, ES, l, m, kvs, rfl, hS, hV, hb, hl, hf, hk, hK, hd, q⟩ := h
  have nd := sc_worth_of.nd
  have hu64 := hr.units
  have hu := hu_of hr
  have hn6 := hV.n6
  have hll := hl.len
  refine ⟨_, pss_cons (ps_if (pt_cmp (pc_dnotin hu (pv 1) (pv 3)))
      (pss_cons (ps_set (i := 4) nd rfl (.inl rfl) pe_dnewK)
      (pss_cons (ps_for PassesOwn.never rfl (pi_range1 (by rfl) T.z_range (pa_cons (pe_callB call_len_seq (by rfl) T.z_len bt_len (pa_cons (pv 0) pa_nil)) pa_nil)) (pg_name (i := 5) nd rfl (.inl rfl))
        (pss_one (ps_if (pt_val (pe_call (ok_may_put T) (hr.mono (by omega)) (by rfl) T.d_may_put.g T.d_may_put.F.kp T.d_may_put.b .nil pass0 (pa_cons (pv 0) (pa_cons (pv 1) (pa_cons (pv 5) (pa_cons (pv 2) pa_nil))))))
          (pss_one (ps_dput hu (pv 4) (pe_call ih hr (by rfl) T.d_worth_of.g T.d_worth_of.F.kp T.d_worth_of.b .nil pass0 (pa_cons (pv 0) (pa_cons (pe_put (pv 1) (pv 5) hu64 T.z_tuple T.z_sorted) (pa_cons (pv 2) (pa_cons (pv 3) pa_nil))))) pe_bl rfl)) pss_nil)))
      (pss_cons (ps_set (i := 6) nd rfl (.inl rfl) pe_int)
      (pss_cons (ps_while PassesOwn.never (pt_cmp (pc_din hu (pv 6) (pv 4))) (pss_one (ps_aug (i := 6) nd rfl (.inl rfl) pe_int ip_add)))
      (pss_one (ps_dput hu (pv 3) (pv 1) (pv 6) rfl)))))) pss_nil)
    (pss_one (ps_ret (pe_dget hu (pv 3) (pv 1) (fun _ _ => rfl)))), ?_⟩
  have hbk : ∀ H' : Hp, H' b = some (tupO l) → H' b = some (.tup ((keyI l).map kV)) := fun H' h => by rw [keyI_V]; exact h
  have nbk : b ≠ k := ne_of hb hk (by intro z; cases z)
  refine ⟨_, rfl, _, rfl, k, _, rfl, DGet.t (k := keyI l) hk (hbk H hb), _, rfl, ?_⟩
  cases ev : valV kvs (keyI l) with
  | some v =>
    refine iteF ⟨_, rfl, _, rfl, k, v, rfl, ?_, ?_⟩
    · rw [← ev]
      exact DGet.t (k := keyI l) hk (hbk H hb)
    · rw [hK.get ev]
      exact q H kvs (But.refl k H) hk hK
  | none =>
    refine iteT ?_
    intro sd hsd
    have nsk : sd ≠ k := fun z => by rw [z, hk] at hsd; cases hsd
    obtain ⟨as, hal, hE⟩ := id hS
    have ela : as.length = n := by rw [hE.1, (nearL_near hV).len]
    have nak : a ≠ k := ne_of hal hk (by intro z; cases z)
    have nrk : ∀ l', H k ≠ some (lstO l') := fun l' z => by rw [hk] at z; cases z
    refine ⟨_, rfl, a, _, rfl, .inl (SqL.of ((same_new hsd) _ _ hal)), _, rfl, by rw [List.length_map]; omega, by rw [List.length_map]; omega, ?_⟩
    have en : (((as.map V.ref).length : Nat) : Int).toNat = n := by rw [List.length_map]; omega
    rw [en]
    refine for_range (lo := 0) (n := n) (fun i σ H' => ∃ (y5 : Option V) (kvs' : List (List Key × V)) (ss : List (Key × V)) (zs : List Int), σ = [some (.ref a), some (.ref b), some (.int m), some (.ref k), some (.ref sd), y5, none] ∧ But k H H' ∧ H' k = some (.dT kvs') ∧ Known n (nearL n ES) m kvs' ∧
      H' sd = some (.dK ss) ∧ ss.map (·.1) = zs.map Sum.inl ∧ zs.length ≤ i ∧ ∀ z : Int, z ∈ zs ↔ ∃ p ∈ free n (nearL n ES) m l, p < (i : Int) ∧ z = (worth n (nearL n ES) m (ins p l) : Int)) ?_ ?_ ?_
    · refine ⟨none, kvs, [], [], rfl, but_new (But.refl k H) hsd, by rw [upd_ne (Ne.symm nsk)]; exact hk, hK, upd_same, rfl, Nat.le_refl _, fun z => ⟨fun h => (by cases h), fun ⟨p, hp, h1, _⟩ => ?_⟩⟩
      have := (mem_free.mp hp).1.1
      omega
    · rintro i σ H' hi ⟨y5, kvs', ss, zs, rfl, sB, hk', hK', hs', hz1, hz2, hz3⟩
      have ei : (0 : Int) + (i : Int) = (i : Int) := by omega
      rw [ei]
      have hb' := sB _ _ nbk hb
      have hS' := sB.seqs hS nak nrk
      refine ⟨_, rfl, _, rfl, _, rfl, _, rfl, a, b, n, _, l, i, m, rfl, hS', nearL_near hV, by omega, hb', hl, by omega, by omega, fun H3 c s3 hc => ⟨c, rfl, ?_⟩⟩
      rw [may_free hV hl hf (by omega) (by omega)] at hc
      have s3B : But k H H3 := sB.trans (Same.but s3)
      have hk3 := s3 _ _ hk'
      have hs3 := s3 _ _ hs'
      cases c with
      | false =>
        refine iteF ⟨_, kvs', ss, zs, rfl, s3B, hk3, hK', hs3, hz1, by omega, fun z => (hz3 z).trans ⟨fun ⟨p, hp, h1, h2⟩ => ⟨p, hp, by omega, h2⟩, fun ⟨p, hp, h1, h2⟩ => ⟨p, hp, ?_, h2⟩⟩⟩
        by_cases e : p = (i : Int)
        · subst e
          have := hc.mpr hp
          cases this
        · omega
      | true =>
        have hfi := hc.mp rfl
        obtain ⟨_, hni, hfine⟩ := mem_free.mp hfi
        refine iteT ⟨_, rfl, _, rfl, b, l, i, rfl, rfl, s3 _ _ hb', hl.asc, hni, by omega, fun H4 u s4 hu4 => ?_⟩
        have s4B : But k H H4 := s3B.trans (Same.but s4)
        refine ⟨_, rfl, _, rfl, a, u, k, n, ES, ins i l, m, kvs', rfl, (hS'.same s3).same s4, hV, hu4, hl.ins hni (by omega) (by omega), hfine, s4 _ _ hk3, hK', by rw [len_ins]; omega, fun H5 kvs5 s5 hk5 hK5 => ?_⟩
        have hs5 := s5 _ _ nsk (s4 _ _ hs3)
        obtain ⟨zs', e1, e2, e3⟩ := putK_ints (z := (worth n (nearL n ES) m (ins i l) : Int)) (v := .bl true) hz1
        have hssl : ss.length = zs.length := by
          have := congrArg List.length hz1
          rw [List.length_map, List.length_map] at this
          exact this
        refine ⟨sd, _, rfl, DPut.k (k := Sum.inl (worth n (nearL n ES) m (ins i l) : Int)) hs5 (by rw [hssl]; exact small_lst (by omega)), ?_⟩
        refine ⟨_, kvs5, _, zs', rfl, but_new (s4B.trans s5) hsd, by rw [upd_ne (Ne.symm nsk)]; exact hk5, hK5, upd_same, e1, by omega, fun z => ?_⟩
        rw [e2, hz3]
        constructor
        · rintro (⟨p, hp, h1, h2⟩ | rfl)
          · exact ⟨p, hp, by omega, h2⟩
          · exact ⟨i, hfi, by omega, rfl⟩
        · rintro ⟨p, hp, h1, h2⟩
          by_cases e : p = (i : Int)
          · subst e
            exact .inr h2
          · exact .inl ⟨p, hp, by omega, h2⟩
    · rintro σ H' ⟨y5, kvs', ss, zs, rfl, sB, hk', hK', hs', hz1, hz2, hz3⟩
      have hmem : ∀ j : Nat, ((j : Int) ∈ zs) ↔ j ∈ (free n (nearL n ES) m l).map fun p => worth n (nearL n ES) m (ins p l) := fun j => by
        rw [hz3, List.mem_map]
        constructor
        · rintro ⟨p, hp, _, e⟩
          exact ⟨p, hp, by omega⟩
        · rintro ⟨p, hp, e⟩
          exact ⟨p, hp, (mem_free.mp hp).1.2, by omega⟩
      have hw := worth_eq (L := nearL n ES) (most := m) hl
      refine ⟨fun mm σ H2 => ∃ f : Nat, σ = [some (.ref a), some (.ref b), some (.int m), some (.ref k), some (.ref sd), y5, some (.int (f : Int))] ∧ H2 = H' ∧ f ≤ worth n (nearL n ES) m l ∧ mm = worth n (nearL n ES) m l - f, ⟨_, 0, rfl, rfl, Nat.zero_le _, rfl⟩, ?_⟩
      rintro mm σ H2 ⟨f, rfl, rfl, hle, rfl⟩
      refine ⟨_, rfl, _, rfl, sd, _, rfl, DGet.k (k := Sum.inl (f : Int)) hs', _, rfl, ?_⟩
      rw [val_inl hz1]
      refine ite2 (fun c => ?_) (fun c => ?_)
      · have hin := (hmem f).mp (of_decide_eq_true c)
        have hlt : f < worth n (nearL n ES) m l := by
          rcases Nat.lt_or_eq_of_le hle with h | h
          · exact h
          · exfalso
            rw [h, hw] at hin
            exact mex_not hin
        refine ⟨fun σ' H3 => ∃ g : Nat, σ' = [some (.ref a), some (.ref b), some (.int m), some (.ref k), some (.ref sd), y5, some (.int (g : Int))] ∧ H3 = H2 ∧ g ≤ worth n (nearL n ES) m l ∧ g = f + 1, fun σ' H3 ⟨g, e1, e2, e3, e4⟩ => ⟨_, (by omega : worth n (nearL n ES) m l - g < worth n (nearL n ES) m l - f), g, e1, e2, e3, rfl⟩, ?_⟩
        refine ⟨_, rfl, _, 1, rfl, rfl, ?_⟩
        exact ⟨f + 1, rfl, rfl, hlt, rfl⟩
      · have hnin : f ∉ (free n (nearL n ES) m l).map fun p => worth n (nearL n ES) m (ins p l) := fun z => c (decide_eq_true ((hmem f).mpr z))
        have ef : f = worth n (nearL n ES) m l := by
          rw [hw]
          refine mex_unique hnin fun j hj => ?_
          rw [hw] at hle
          exact mex_below (by omega)
        subst ef
        have hb2 := sB _ _ nbk hb
        have hlen : kvs'.length < sizeLine := Nat.lt_of_le_of_lt hK'.len (Nat.lt_of_le_of_lt (Nat.pow_le_pow_right (by decide) hn6) (by decide))
        refine ⟨_, rfl, _, rfl, _, rfl, k, _, rfl, DPut.t (k := keyI l) hk' (hbk H2 hb2) hlen, ?_⟩
        have hb3 : (upd H2 k (.dT (putK kvs' (keyI l) (.int (worth n (nearL n ES) m l))))) b = some (tupO l) := by rw [upd_ne nbk]; exact hb2
        refine ⟨_, rfl, _, rfl, k, .int (worth n (nearL n ES) m l), rfl, ?_, ?_⟩
        · have := DGet.t (H := upd H2 k (.dT (putK kvs' (keyI l) (.int (worth n (nearL n ES) m l))))) (k := keyI l) upd_same (hbk _ hb3)
          rw [valV_put, if_pos rfl] at this
          exact this
        · refine q _ _ (sB.trans but_upd) upd_same ?_
          cases e : valV kvs' (keyI l) with
          | none => exact hK'.put hl e
          | some v =>
            have ev2 := hK'.get e
            refine ⟨by rw [putK_fst e]; exact hK'.nd, fun p hp => ?_⟩
            unfold putK at hp
            have hany : (kvs'.any fun kv => decide (kv.1 = keyI l)) = true := by rw [valV_any, e]; rfl
            rw [if_pos hany] at hp
            obtain ⟨p0, hp0, rfl⟩ := List.mem_map.mp hp
            by_cases c2 : p0.1 = keyI l
            · rw [if_pos c2]
              exact ⟨l, hl, c2, rfl⟩
            · rw [if_neg c2]
              exact hK'.ok p0 hp0
theorem ok_worth_of (T : Txt K mg) : ∀ d : Nat, FnOk P w K mg base CX0 (2 + d) T.d_worth_of.f T.d_worth_of.fd p_worth_of (spWorthOf d)
  | 0 => (worth_none T).mono (Nat.zero_le _)
  | d + 1 => ok_worth_step T d (ok_worth_of T d)
end
end ST

/-! SWork -/
/-! worth, winning_points. -/
namespace ST
open PySem PySem.Spec PyProof.Rows L2 SM
theorem But.fresh {k : Addr} {H0 H H' : Hp} (s : But k H H') (n : H0 k = none) (s0 : Same H0 H) : Same H0 H' := fun b o h => s b o (ne_of_none h n) (s0 b o h)
section
variable {P : Program} {w : World} {K : PySem.W.Frag} {mg : Str → Option Value} {base : Heap}
def spWorth (C : Addr) : Sp := fun vs H Q Ex => ∃ (a b : Addr) (n : Nat) (E : List Pr) (l : List Int) (m : Int), vs = [.ref a, .ref b, .int m] ∧ ArgsOk H a b n E l m ∧
  (Fine n (nearL n E) m l → ∀ H', Same H H' → Q (.int (worth n (nearL n E) m l)) H') ∧ (¬ Fine n (nearL n E) m l → ∀ H', Same H H' → Ex (.ref C) none H')
theorem ok_worth (T : Txt K mg) : FnOk P w K mg base (L2.CX P w) 10 T.d_worth.f T.d_worth.fd p_worth (spWorth T.nr.C) := by
  refine T.d_worth.F.okX sc_worth (fun vs H Q E h => ?_) (fun cdv A outer s H vs Q E hr h => ?_)
  · obtain ⟨a, b, n, E, l, m, rfl, _⟩ := h
    rfl
  obtain ⟨a, b, n, ES, l, m, rfl, hA, q1, q2⟩ := h
  have nd := sc_worth.nd
  refine ⟨_, pss_cons (ps_set (i := 3) nd rfl (.inl rfl) (pe_call (ok_need_stones T) (hr.mono (by decide)) (by rfl) T.d_need_stones.g T.d_need_stones.F.kp T.d_need_stones.b .nil (passes_call (takes_of rfl rfl rfl rfl) (fun _ _ _ _ h => h)) (pa_cons (pv 0) (pa_cons (pv 1) (pa_cons (pv 2) pa_nil)))))
    (pss_one (ps_ret (pe_call (ok_worth_of T 7) hr (by rfl) T.d_worth_of.g T.d_worth_of.F.kp T.d_worth_of.b .nil pass0 (pa_cons (pv 3) (pa_cons (pv 1) (pa_cons (pv 2) (pa_cons pe_dnewT pa_nil))))))), ?_⟩
  have hn6 := hA.v.n6
  refine ⟨_, rfl, _, rfl, _, rfl, a, b, n, ES, l, m, rfl, hA, fun hf H1 p s1 hS => ?_, q2⟩
  refine ⟨_, rfl, _, rfl, _, rfl, fun k hk => ?_⟩
  have s2 := s1.trans (same_new (o := .dT []) hk)
  have hk0 : H k = none := by
    cases e : H k with
    | none => rfl
    | some o => rw [s1 _ _ e] at hk; cases hk
  refine ⟨p, b, k, n, ES, l, m, [], rfl, hS.same (same_new hk), hA.v, s2 _ _ hA.pt, hA.lot, hf, upd_same, known_nil _ _ _, by omega, fun H3 kvs s3 _ _ => ?_⟩
  exact q1 hf H3 (s3.fresh hk0 s2)
def spWin (C : Addr) : Sp := fun vs H Q Ex => ∃ (a b : Addr) (n : Nat) (E : List Pr) (l : List Int) (m : Int), vs = [.ref a, .ref b, .int m] ∧ ArgsOk H a b n E l m ∧
  (Fine n (nearL n E) m l → ∀ H' p, Same H H' → H p = none → H' p = some (lstO ((free n (nearL n E) m l).filter fun x => decide (worth n (nearL n E) m (ins x l) = 0))) → Q (.ref p) H') ∧ (¬ Fine n (nearL n E) m l → ∀ H', Same H H' → Ex (.ref C) none H')
theorem ok_winning_points (T : Txt K mg) : FnOk P w K mg base (L2.CX P w) 10 T.d_winning_points.f T.d_winning_points.fd p_winning_points (spWin T.nr.C) := by
  refine T.d_winning_points.F.okX sc_winning_points (fun vs H Q E h => ?_) (fun cdv A outer s H vs Q E hr h => ?_)
  · obtain ⟨a, b, n, E, l, m, rfl, _⟩ := h
    rfl
  obtain ⟨a, b, n, ES, l, m, rfl, hA, q1, q2⟩ := h
  have nd := sc_winning_points.nd
  have hu64 := hr.units
  refine ⟨_, pss_cons (ps_par (i := 3) (j := 4) rfl nd rfl rfl (by decide) rfl rfl (pa_cons (pe_call (ok_need_stones T) (hr.mono (by decide)) (by rfl) T.d_need_stones.g T.d_need_stones.F.kp T.d_need_stones.b .nil (passes_call (takes_of rfl rfl rfl rfl) (fun _ _ _ _ h => h)) (pa_cons (pv 0) (pa_cons (pv 1) (pa_cons (pv 2) pa_nil)))) (pa_cons pe_dnewT pa_nil)) (by rfl))
    (PSs.nox (pss_cons (ps_set (i := 5) nd rfl (.inl rfl) (pe_lst pa_nil))
    (pss_cons (ps_for PassesOwn.never rfl (pi_range1 (by rfl) T.z_range (pa_cons (pe_ix ix_tup (pv 0) pe_int (fun _ _ => rfl)) pa_nil)) (pg_name (i := 6) nd rfl (.inl rfl))
      (pss_one (ps_if (pt_val (pe_call (ok_may_put T) (hr.mono (by decide)) (by rfl) T.d_may_put.g T.d_may_put.F.kp T.d_may_put.b .nil pass0 (pa_cons (pv 3) (pa_cons (pv 1) (pa_cons (pv 6) (pa_cons (pv 2) pa_nil))))))
        (pss_one (ps_if (pt_cmpR op_eq (pe_call (ok_worth_of T 7) hr (by rfl) T.d_worth_of.g T.d_worth_of.F.kp T.d_worth_of.b .nil pass0 (pa_cons (pv 3) (pa_cons (pe_put (pv 1) (pv 6) hu64 T.z_tuple T.z_sorted) (pa_cons (pv 2) (pa_cons (pv 4) pa_nil))))) pe_int (nomark _))
          (pss_one (ps_expr (pe_bm PySem.F.plainAttrs_list PySem.F.slot_list_append PySem.F.type_list_append mt_append (pv 5) (pa_cons (pv 6) pa_nil)))) pss_nil)) pss_nil)))
    (pss_one (ps_ret (pv 5)))))), ?_⟩
  have hn6 := hA.v.n6
  have hV := hA.v
  have hl := hA.lot
  have hll := hl.len
  refine ⟨_, rfl, _, rfl, _, rfl, a, b, n, ES, l, m, rfl, hA, fun hf H1 p s1 hS => ?_, q2⟩
  intro k hk
  refine ⟨_, _, rfl, ?_⟩
  have s2 : Same H1 (upd H1 k (.dT [])) := same_new hk
  have hk2 : (upd H1 k (.dT [])) k = some (.dT []) := upd_same
  generalize upd H1 k (.dT []) = H2 at s2 hk2
  refine ⟨Nat.zero_le _, fun fd hfd => ?_⟩
  have nkf : k ≠ fd := ne_of_none hk2 hfd
  have hfd0 : H1 fd = none := by
    cases e : H1 fd with
    | none => rfl
    | some o => rw [s2 _ _ e] at hfd; cases hfd
  obtain ⟨pr, qs, h1, h2, h3, h4⟩ := hA.net.same (s1.trans (same_more s2 (o := .lst []) hfd))
  refine ⟨_, rfl, a, _, 0, _, rfl, rfl, SqT.of h1, atI_nat (j := 0) rfl, n, rfl, by omega, by omega, ?_⟩
  have en : ((n : Int)).toNat = n := by omega
  rw [en]
  refine for_range (lo := 0) (n := n) (fun i σ H' => ∃ (y6 : Option V) (kvs : List (List Key × V)), σ = [some (.ref a), some (.ref b), some (.int m), some (.ref p), some (.ref k), some (.ref fd), y6] ∧ Same H1 H' ∧ H' k = some (.dT kvs) ∧ Known n (nearL n ES) m kvs ∧
      H' fd = some (lstO (((pts n).take i).filter fun z => decide (z ∈ free n (nearL n ES) m l ∧ worth n (nearL n ES) m (ins z l) = 0)))) ?_ ?_ ?_
  · exact ⟨none, [], rfl, same_more s2 hfd, by rw [upd_ne nkf]; exact hk2, known_nil _ _ _, upd_same⟩
  · rintro i σ H' hi ⟨y6, kvs, rfl, sB, hk', hK', hf'⟩
    have ei : (0 : Int) + (i : Int) = (i : Int) := by omega
    rw [ei, take_more (pts_get hi), List.filter_append]
    have hb' := sB _ _ (s1 _ _ hA.pt)
    refine ⟨_, rfl, _, rfl, _, rfl, _, rfl, p, b, n, _, l, i, m, rfl, hS.same sB, nearL_near hV, by omega, hb', hl, by omega, by omega, fun H3 c s3 hc => ⟨c, rfl, ?_⟩⟩
    rw [may_free hV hl hf (by omega) (by omega)] at hc
    cases c with
    | false =>
      rw [filt_neg (decide_eq_false fun z => by have := hc.mpr z.1; cases this), List.append_nil]
      exact iteF ⟨_, kvs, rfl, sB.trans s3, s3 _ _ hk', hK', s3 _ _ hf'⟩
    | true =>
      have hfi := hc.mp rfl
      obtain ⟨_, hni, hfine⟩ := mem_free.mp hfi
      refine iteT ⟨_, rfl, b, l, i, rfl, rfl, s3 _ _ hb', hl.asc, hni, by omega, fun H4 u s4 hu4 => ?_⟩
      have s34 := s3.trans s4
      have hk4 := s34 _ _ hk'
      refine ⟨_, rfl, _, rfl, p, u, k, n, ES, ins i l, m, kvs, rfl, hS.same (sB.trans s34), hV, hu4, hl.ins hni (by omega) (by omega), hfine, hk4, hK', by rw [len_ins]; omega, fun H5 kvs5 s5 hk5 hK5 => ?_⟩
      have sH5 : Same H1 H5 := s5.fresh hk (sB.trans s34)
      have hf5 := s5 _ _ (Ne.symm nkf) (s34 _ _ hf')
      refine ⟨rfl, _, rfl, ?_⟩
      by_cases c0 : worth n (nearL n ES) m (ins i l) = 0
      · rw [c0, filt_pos (decide_eq_true ⟨hfi, c0⟩)]
        refine iteT ⟨_, rfl, .inl ⟨rfl, _, SqL.of hf5⟩, _, rfl, fd, _, _, rfl, rfl, hf5, by rw [List.length_map]; exact small_lst (Nat.le_trans (List.length_filter_le _ _) (by rw [List.length_take]; omega)), ?_⟩
        refine ⟨_, kvs5, rfl, same_upd sH5 hfd0, by rw [upd_ne nkf]; exact hk5, hK5, ?_⟩
        rw [upd_same, lst_snoc_int]
        rfl
      · rw [filt_neg (decide_eq_false fun z => c0 z.2), List.append_nil]
        have e : decide (V.int (worth n (nearL n ES) m (ins i l) : Int) = .int 0) = false := decide_eq_false (fun z => by injection z with z; omega)
        rw [e]
        exact iteF ⟨_, kvs5, rfl, sH5, hk5, hK5, hf5⟩
  · rintro σ H' ⟨y6, kvs, rfl, sB, hk', hK', hf'⟩
    refine ⟨_, rfl, q1 hf H' fd (s1.trans sB) (s1.free hfd0) ?_⟩
    rw [hf']
    refine congrArg (fun z => some (lstO z)) ?_
    rw [pts_take (Nat.le_refl n)]
    refine asc_ext ((asc_pts n).filter _) (((asc_pts n).filter _).filter _) fun x => ?_
    rw [List.mem_filter, List.mem_filter, decide_eq_true_iff, decide_eq_true_iff]
    exact ⟨fun z => z.2, fun z => ⟨mem_pts.mpr (mem_free.mp z.1).1, z⟩⟩
end
end ST

/-! SMasks -/
/-! The lot of a mask, step by step. -/
namespace ST
open PySem PySem.Spec PyProof.Rows L2 SM
theorem lot_turn_len {n i j : Nat} (hi : i < n) (hn : n ≤ 6) : ((((pts n).take i).filter fun k => decide (j / 2 ^ k.toNat % 2 = 1)).map V.int).length ≤ 100000 := by
  rw [List.length_map]
  refine Nat.le_trans (List.length_filter_le _ _) ?_
  rw [List.length_take]
  omega
theorem lot_turn_pos {n i j : Nat} (hi : i < n) (c : j / 2 ^ i % 2 = 1) : (((pts n).take (i + 1)).filter fun k => decide (j / 2 ^ k.toNat % 2 = 1)).map V.int = (((pts n).take i).filter fun k => decide (j / 2 ^ k.toNat % 2 = 1)).map V.int ++ [V.int (i : Int)] := by
  rw [take_more (pts_get hi), List.filter_append, filt_pos (decide_eq_true (by rw [Int.toNat_natCast]; exact c)), List.map_append]
  rfl
theorem lot_turn_neg {n i j : Nat} (hi : i < n) (c : ¬ j / 2 ^ i % 2 = 1) : (((pts n).take (i + 1)).filter fun k => decide (j / 2 ^ k.toNat % 2 = 1)).map V.int = (((pts n).take i).filter fun k => decide (j / 2 ^ k.toNat % 2 = 1)).map V.int := by
  rw [take_more (pts_get hi), List.filter_append, filt_neg (decide_eq_false (by rw [Int.toNat_natCast]; exact c)), List.append_nil]
theorem lot_turn_end {n j : Nat} : (((pts n).take n).filter fun k => decide (j / 2 ^ k.toNat % 2 = 1)).map V.int = (lotOf n j).map V.int := by
  rw [pts_take (Nat.le_refl n)]
  rfl
/-- the better of two lots: more stones, or as many and ahead in order -/
def Bet (s b : List Int) : Prop := b.length < s.length ∨ (b.length = s.length ∧ s < b)
theorem pow2_le {n : Nat} (h : n ≤ 6) : 2 ^ n ≤ 64 := Nat.le_trans (Nat.pow_le_pow_right (by decide) h) (by decide)
theorem pow2_cast (n : Nat) : ((2 : Int) ^ n) = ((2 ^ n : Nat) : Int) := by rw [Int.natCast_pow]; rfl
theorem pow2_int {n : Nat} (h : n ≤ 6) : ∃ N : Nat, N = 2 ^ n ∧ (2 : Int) ^ n = (N : Int) ∧ 1 ≤ N ∧ N ≤ 64 := ⟨2 ^ n, rfl, pow2_cast n, Nat.two_pow_pos n, pow2_le h⟩
theorem lex_trans {a b c : List Int} (h1 : a < b) (h2 : b < c) : a < c := List.lt_trans h1 h2
theorem Bet.trans {a b c : List Int} (h1 : Bet a b) (h2 : Bet b c) : Bet a c := by
  rcases h1 with h1 | ⟨e1, h1⟩ <;> rcases h2 with h2 | ⟨e2, h2⟩
  · exact .inl (by omega)
  · exact .inl (by omega)
  · exact .inl (by omega)
  · exact .inr ⟨by omega, lex_trans h1 h2⟩
theorem Bet.or {a b : List Int} (h : ¬ Bet a b) : Bet b a ∨ a = b := by
  rcases Nat.lt_trichotomy a.length b.length with c | c | c
  · exact .inl (.inl c)
  · have h1 : ¬ a < b := fun z => h (.inr ⟨c.symm, z⟩)
    rcases lexlt_or b a h1 with z | z
    · exact .inl (.inr ⟨c, z⟩)
    · exact .inr z.symm
  · exact absurd (.inl c) h
theorem lex_irr (a : List Int) : ¬ a < a := List.lt_irrefl a
theorem Bet.irr (a : List Int) : ¬ Bet a a := by
  rintro (h | ⟨_, h⟩)
  · omega
  · exact lex_irr a h
/-- what a best lot is: it fulfils G, no other that does is better -/
structure Best (n : Nat) (G : List Int → Prop) (R : List Int → List Int → Prop) (b : List Int) : Prop where
  lot : IsLot n b
  good : G b
  top : ∀ s, IsLot n s → G s → ¬ R s b
/-- an expression that answers one value, the heap as it was -/
def Ev (t : TE) (σ : L2.St) (H : Hp) (v : V) : Prop := ∀ Q : VK, Q v H → t σ H Q
theorem bet_read {tA tB tC : TE} {σ : L2.St} {H : Hp} {Q : Bool → Hp → Prop} {l b : List Int} (hA : Ev tA σ H (.int (l.length : Nat))) (hB : Ev tB σ H (.int (b.length : Nat))) (hC : Ev tC σ H (.bl (decide (l < b)))) (q : ∀ c, (c = true ↔ Bet l b) → Q c H) :
    tOr (tTest (tOp (rI0 fun i j => .bl (decide (j < i))) tA tB)) (tAnd (tTest (tOp rEq tA tB)) (tTest tC)) σ H Q := by
  refine hA _ (hB _ ⟨_, _, rfl, rfl, _, rfl, ?_⟩)
  refine ite2 (fun c => ?_) (fun c => ?_)
  · have h := of_decide_eq_true c
    exact q true ⟨fun _ => .inl (by omega), fun _ => rfl⟩
  · have h : ¬ ((b.length : Nat) : Int) < (l.length : Nat) := fun z => c (decide_eq_true z)
    refine hA _ (hB _ ⟨rfl, _, rfl, ?_⟩)
    refine ite2 (fun c2 => ?_) (fun c2 => ?_)
    · have e := of_decide_eq_true c2
      injection e with e
      refine hC _ ⟨_, rfl, q _ ?_⟩
      rw [decide_eq_true_iff]
      refine ⟨fun z => .inr ⟨by omega, z⟩, ?_⟩
      rintro (z | ⟨_, z⟩)
      · omega
      · exact z
    · refine q false ⟨fun z => (by cases z), ?_⟩
      rintro (z | ⟨z, _⟩)
      · omega
      · exact absurd (decide_eq_true (congrArg V.int (by omega : ((l.length : Nat) : Int) = (b.length : Nat)))) c2
theorem ev_len {K : PySem.W.Frag} {σ : L2.St} {H : Hp} {i : Nat} {u : Addr} {l : List Int} (h : σ[i]? = some (some (.ref u))) (hu : H u = some (tupO l)) : Ev (fun σ H Q => tVar i σ H fun x H1 => rLenS K [x] H1 Q) σ H (.int (l.length : Nat)) := fun Q q => by
  refine ⟨_, h, u, _, rfl, .inr (SqT.of hu), ?_⟩
  rw [List.length_map]
  exact q
theorem dp_tup_not (l : List Int) : PyData.tuple (l.map PyData.int) ≠ .none := by intro z; cases z
theorem ev_lt {K : PySem.W.Frag} {σ : L2.St} {H : Hp} {i j : Nat} {u v : Addr} {l b : List Int} (h : σ[i]? = some (some (.ref u))) (hu : H u = some (tupO l)) (h2 : σ[j]? = some (some (.ref v))) (hv : H v = some (tupO b)) : Ev (tOp (rLtDt K) (tVar i) (tVar j)) σ H (.bl (decide (l < b))) := fun Q q => by
  refine ⟨_, h, _, h2, _, _, dp_tup (SqT.of hu), dp_tup (SqT.of hv), alike_tup l b, dp_tup_not l, by rw [depth_tup]; decide, ?_⟩
  rw [lt_tup]
  exact q
end ST

/-! SMost -/
/-! most_stones. -/
namespace ST
open PySem PySem.Spec PyProof.Rows L2 SM
section
variable {P : Program} {w : World} {K : PySem.W.Frag} {mg : Str → Option Value} {base : Heap}
def spMost : Sp := fun vs H Q _ => ∃ (a : Addr) (n : Nat) (E : List Pr) (m : Int), vs = [.ref a, .int m] ∧ NetAt H a n E ∧ NetV n E ∧ 1 ≤ m ∧ m ≤ (n : Int) ∧
  ∀ H' p b, Same H H' → Best n (Fine n (nearL n E) m) Bet b → H' p = some (tupO b) → Q (.ref p) H'
theorem ok_most_stones (T : Txt K mg) : FnOk P w K mg base CX0 6 T.d_most_stones.f T.d_most_stones.fd p_most_stones spMost := by
  refine T.d_most_stones.F.ok sc_most_stones (fun vs H Q E h => ?_) (fun cdv A outer s H vs Q E hr h => ?_)
  · obtain ⟨a, n, E, m, rfl, _⟩ := h
    rfl
  obtain ⟨a, n, ES, m, rfl, hA, hV, m0, m1, q⟩ := h
  have nd := sc_most_stones.nd
  have hu64 := hr.units
  have hn6 := hV.n6
  refine ⟨_, pss_cons (ps_set (i := 2) nd rfl (.inl rfl) (pe_call (ok_need_stones T) hr (by rfl) T.d_need_stones.g T.d_need_stones.F.kp T.d_need_stones.b .nil passL (pa_cons (pv 0) (pa_cons (pe_tup pa_nil) (pa_cons (pv 1) pa_nil)))))
    (pss_cons (ps_set (i := 3) nd rfl (.inl rfl) (pe_tup pa_nil))
    (pss_cons (ps_for PassesOwn.never rfl (pi_range1 (by rfl) T.z_range (pa_cons (pe_op op_oneShl pe_int (pe_ix ix_tup (pv 0) pe_int (fun _ _ => rfl))) pa_nil)) (pg_name (i := 4) nd rfl (.inr rfl))
      (pss_cons (ps_set (i := 5) nd rfl (.inl rfl) (pe_callTy call_tuple_of (by rfl) T.z_tuple bt_tuple (pa_cons (pe_lc (own := [("point", 6)]) rfl nd (pi_range1 (by rfl) T.z_range (pa_cons (pe_ix ix_tup (pv 0) pe_int (fun _ _ => rfl)) pa_nil)) (blkOk_by (own := [("point", 6)]) (N := n_most_stones) (sc := defScope s_most_stones) (by decide +kernel))
        (fun _ _ _ _ _ => pg_name (i := 6) nd rfl (Or.inl rfl)) (fun _ _ _ _ _ => pts_one (pt_cmpR op_eq (pe_op op_odd (pe_op op_shrN (pv 4) (pv 6)) pe_int) pe_int (by rfl))) (fun _ _ _ _ _ => pv 6)) pa_nil)))
      (pss_one (ps_if (PW.pt (pw_or (pt_cmpR op_gt (pe_callB call_len_seq (by rfl) T.z_len bt_len (pa_cons (pv 5) pa_nil)) (pe_callB call_len_seq (by rfl) T.z_len bt_len (pa_cons (pv 3) pa_nil)) (nomark _))
          (pw_or1 (PW.pt (pw_and (pt_cmpR op_eq (pe_callB call_len_seq (by rfl) T.z_len bt_len (pa_cons (pv 5) pa_nil)) (pe_callB call_len_seq (by rfl) T.z_len bt_len (pa_cons (pv 3) pa_nil)) (nomark _)) (pw_and1 (pt_cmpR (op_ltDt hu64) (pv 5) (pv 3) (nomark _))))))))
        (pss_one (ps_if (pt_val (pe_call (ok_is_fine T) (hr.mono (by decide)) (by rfl) T.d_is_fine.g T.d_is_fine.F.kp T.d_is_fine.b .nil pass0 (pa_cons (pv 2) (pa_cons (pv 5) (pa_cons (pv 1) pa_nil)))))
          (pss_one (ps_set (i := 3) nd rfl (.inl rfl) (pv 5))) pss_nil)) pss_nil))))
    (pss_one (ps_ret (pv 3))))), ?_⟩
  refine ⟨_, rfl, Nat.zero_le _, fun e he => ?_⟩
  have s0 : Same H (upd H e (.tup [])) := same_new he
  refine ⟨_, rfl, a, e, n, ES, [], m, rfl, ⟨hA.same s0, hV, upd_same, isLot_nil n, m0, m1⟩, fun _ H0 p s01 hS => ?_, fun z => absurd fine_nil z⟩
  have sH0 := s0.trans s01
  refine ⟨Nat.zero_le _, fun be hbe => ?_⟩
  have s1 : Same H (upd H0 be (.tup [])) := same_more sH0 hbe
  have hS1 := hS.same (same_new (o := .tup []) hbe)
  have hbe1 : (upd H0 be (.tup [])) be = some (tupO []) := upd_same
  generalize upd H0 be (.tup []) = H1 at s1 hS1 hbe1
  obtain ⟨pr, qs, h1, h2, h3, h4⟩ := hA.same s1
  have net1 : ∀ H', Same H1 H' → H' a = some (.tup [.int n, .ref pr]) := fun H' s => s _ _ h1
  obtain ⟨N, eN, eN2, hN1, hN2⟩ := pow2_int hn6
  refine ⟨_, rfl, a, _, 0, _, rfl, rfl, SqT.of h1, atI_nat (j := 0) rfl, n, rfl, rfl, by omega, 2 ^ n, rfl, by rw [eN2]; omega, by rw [eN2]; omega, ?_⟩
  have en2 : ((2 : Int) ^ n).toNat = N := by rw [eN2]; omega
  have en : ((n : Int)).toNat = n := by omega
  rw [en2]
  refine for_range (lo := 0) (n := N) (fun i σ H' => ∃ (pb : Addr) (b : List Int) (y4 y5 : Option V), σ = [some (.ref a), some (.int m), some (.ref p), some (.ref pb), y4, y5, none] ∧ Same H1 H' ∧ H' pb = some (tupO b) ∧ IsLot n b ∧ Fine n (nearL n ES) m b ∧
      ∀ k, k < i → Fine n (nearL n ES) m (lotOf n k) → ¬ Bet (lotOf n k) b) ?_ ?_ ?_
  · exact ⟨be, [], none, none, rfl, Same.refl _, hbe1, isLot_nil n, fine_nil, fun k hk => absurd hk (Nat.not_lt_zero k)⟩
  · rintro j σ H' hj ⟨pb, b, y4, y5, rfl, sB, hb, hbl, hbf, htop⟩
    have ej : (0 : Int) + (j : Int) = (j : Int) := by omega
    rw [ej]
    refine ⟨_, rfl, a, _, 0, _, rfl, rfl, SqT.of (net1 _ sB), atI_nat (j := 0) rfl, n, rfl, by omega, by omega, fun D hD => ?_⟩
    rw [en]
    refine lcs_range (lo := 0) (n := n) (fun i => (((pts n).take i).filter fun k => decide (j / 2 ^ k.toNat % 2 = 1)).map V.int) hD (by rw [List.take_zero]; rfl) (fun i hi => lot_turn_len hi hn6) (fun i H2 R R' hi s2 kR kR' => ?_) fun H2 s2 hl2 => ?_
    · have ei : (0 : Int) + (i : Int) = (i : Int) := by omega
      rw [ei]
      refine ⟨rfl, ⟨_, rfl, _, rfl, (j : Int), i, rfl, rfl, j / 2 ^ i, by rw [Int.natCast_ediv]; rfl, rfl, rfl, _, rfl, ?_⟩⟩
      by_cases c : j / 2 ^ i % 2 = 1
      · rw [c]
        refine iteT ⟨_, rfl, kR _ _ (Same.refl _) ?_⟩
        exact lot_turn_pos hi c
      · have e : decide (V.int ((j / 2 ^ i % 2 : Nat) : Int) = .int 1) = false := decide_eq_false (fun z => by injection z with z; omega)
        rw [e]
        refine iteF (kR' _ (Same.refl _) ?_)
        exact lot_turn_neg hi c
    rw [lot_turn_end] at hl2
    refine ⟨D, _, rfl, .inl ⟨SqL.of hl2, fun u hu => ?_⟩⟩
    have sB2 : Same H1 (upd H2 u (HO.tup ((lotOf n j).map V.int))) := same_more (sB.trans s2) hu
    have hu2 : (upd H2 u (HO.tup ((lotOf n j).map V.int))) u = some (tupO (lotOf n j)) := upd_same
    have sD2 : Same H' (upd H2 u (HO.tup ((lotOf n j).map V.int))) := same_more s2 hu
    have hlot : IsLot n (lotOf n j) := isLot_filter n _
    generalize upd H2 u (HO.tup ((lotOf n j).map V.int)) = H3 at sB2 hu2 sD2 ⊢
    have hb3 := sD2 _ _ hb
    dsimp only [gName]
    show tIfS (tOr _ _) _ _ _ _ _
    refine bet_read (l := lotOf n j) (b := b) ?_ ?_ ?_ fun c hc => ?_
    · exact ev_len (K := K) (i := 5) rfl hu2
    · exact ev_len (K := K) (i := 3) rfl hb3
    · exact ev_lt (K := K) (i := 5) (j := 3) rfl hu2 rfl hb3
    have skip : ¬ (Bet (lotOf n j) b ∧ Fine n (nearL n ES) m (lotOf n j)) → ∀ k, k < j + 1 → Fine n (nearL n ES) m (lotOf n k) → ¬ Bet (lotOf n k) b := fun no k hk hf hbt => by
      by_cases e : k = j
      · subst e
        exact no ⟨hbt, hf⟩
      · exact htop k (by omega) hf hbt
    cases c with
    | false => exact iteF ⟨pb, b, _, _, rfl, sB2, hb3, hbl, hbf, skip fun z => by have := hc.mpr z.1; cases this⟩
    | true =>
      have hbt := hc.mp rfl
      refine iteT ⟨_, rfl, _, rfl, _, rfl, p, u, n, _, lotOf n j, m, rfl, hS1.same sB2, nearL_near hV, by omega, hu2, hlot, fun H4 c s4 hc4 => ⟨c, rfl, ?_⟩⟩
      cases c with
      | false => exact iteF ⟨pb, b, _, _, rfl, sB2.trans s4, s4 _ _ hb3, hbl, hbf, skip fun z => by have := hc4.mpr z.2; cases this⟩
      | true =>
        refine iteT ⟨_, rfl, u, lotOf n j, _, _, rfl, sB2.trans s4, s4 _ _ hu2, hlot, hc4.mp rfl, fun k hk hf hk2 => ?_⟩
        by_cases e : k = j
        · subst e
          exact Bet.irr _ hk2
        · exact htop k (by omega) hf (hk2.trans hbt)
  · rintro σ H' ⟨pb, b, y4, y5, rfl, sB, hb, hbl, hbf, htop⟩
    refine ⟨_, rfl, q H' pb b (s1.trans sB) ⟨hbl, hbf, fun s hs hsf => ?_⟩ hb⟩
    obtain ⟨k, hk⟩ := List.getElem?_of_mem (lot_sets hs)
    have hk2 : k < 2 ^ n := by
      have := (List.getElem?_eq_some_iff.mp hk).1
      rw [sets_len] at this
      exact this
    rw [sets_get hk2] at hk
    have e : lotOf n k = s := Option.some.inj hk
    subst e
    exact htop k (by omega) hsf
end
end ST

/-! SCount -/
/-! count_stones. -/
namespace ST
open Classical
open PySem PySem.Spec PyProof.Rows L2 SM
noncomputable def fines (n : Nat) (L : List (List Int)) (m : Int) : List (List Int) := (sets n).filter fun l => decide (Fine n L m l)
theorem mem_fines {n : Nat} {L : List (List Int)} {m : Int} {l : List Int} : l ∈ fines n L m ↔ IsLot n l ∧ Fine n L m l := by
  unfold fines
  rw [List.mem_filter, mem_sets, decide_eq_true_iff]
def cnt (ls : List (List Int)) (k : Nat) : Nat := (ls.map List.length).count k
def cntI (ls : List (List Int)) (t : Nat) : List Int := (List.range t).map fun k => ((cnt ls k : Nat) : Int)
theorem cntI_len (ls : List (List Int)) (t : Nat) : (cntI ls t).length = t := by unfold cntI; rw [List.length_map, List.length_range]
theorem cntI_get {ls : List (List Int)} {t k : Nat} (h : k < t) : (cntI ls t)[k]? = some ((cnt ls k : Nat) : Int) := by
  unfold cntI
  rw [List.getElem?_map, List.getElem?_range h]
  rfl
theorem cntI_succ (ls : List (List Int)) (t : Nat) : cntI ls (t + 1) = cntI ls t ++ [((cnt ls t : Nat) : Int)] := by
  unfold cntI
  rw [List.range_succ, List.map_append]
  rfl
theorem cntI_nil : ∀ t : Nat, (cntI [] t).map V.int = (List.replicate t [V.int 0]).flatten
  | 0 => rfl
  | t + 1 => by
    rw [cntI_succ, List.map_append, cntI_nil t, List.replicate_succ', List.flatten_append]
    rfl
theorem cnt_snoc (ls : List (List Int)) (l : List Int) (k : Nat) : cnt (ls ++ [l]) k = cnt ls k + (if l.length = k then 1 else 0) := by
  unfold cnt
  rw [List.map_append, List.count_append]
  congr 1
  show List.count k [l.length] = _
  rw [List.count_singleton]
  by_cases c : l.length = k
  · simp [c]
  · simp [c]
theorem cntI_snoc {ls : List (List Int)} {l : List Int} {t : Nat} (h : l.length < t) : cntI (ls ++ [l]) t = (cntI ls t).set l.length (((cnt ls l.length : Nat) : Int) + 1) := by
  refine List.ext_getElem? fun k => ?_
  by_cases hk : k < t
  · rw [cntI_get hk, cnt_snoc]
    by_cases c : l.length = k
    · subst c
      rw [List.getElem?_set_self (by rw [cntI_len]; exact hk), if_pos rfl]
      rfl
    · rw [List.getElem?_set_ne c, cntI_get hk, if_neg c]
      rfl
  · rw [List.getElem?_eq_none (by rw [cntI_len]; omega), List.getElem?_eq_none (by rw [List.length_set, cntI_len]; omega)]
theorem filtl_pos {α : Type} {p : α → Bool} {y : α} (h : p y = true) : ([y] : List α).filter p = [y] := by simp [h]
theorem filtl_neg {α : Type} {p : α → Bool} {y : α} (h : p y = false) : ([y] : List α).filter p = [] := by simp [h]
theorem map_set_int (ns : List Int) (k : Nat) (z : Int) : (ns.map V.int).set k (V.int z) = (ns.set k z).map V.int := by rw [List.map_set]
theorem ixN_nat {n j : Nat} (h : j < n) : ixN n (j : Int) = some j := by
  unfold ixN
  rw [if_pos (by omega), if_pos (by omega)]
  rfl
section
variable {P : Program} {w : World} {K : PySem.W.Frag} {mg : Str → Option Value} {base : Heap}
def spCount : Sp := fun vs H Q _ => ∃ (a : Addr) (n : Nat) (E : List Pr) (m : Int), vs = [.ref a, .int m] ∧ NetAt H a n E ∧ NetV n E ∧ 1 ≤ m ∧ m ≤ (n : Int) ∧
  ∀ H' p t, Same H H' → t ≤ n → cnt (fines n (nearL n E) m) t ≠ 0 → (∀ k, t < k → cnt (fines n (nearL n E) m) k = 0) → H' p = some (tupO (cntI (fines n (nearL n E) m) (t + 1))) → Q (.ref p) H'
theorem ok_count_stones (T : Txt K mg) : FnOk P w K mg base CX0 6 T.d_count_stones.f T.d_count_stones.fd p_count_stones spCount := by
  refine T.d_count_stones.F.ok sc_count_stones (fun vs H Q E h => ?_) (fun cdv A outer s H vs Q E hr h => ?_)
  · obtain ⟨a, n, E, m, rfl, _⟩ := h
    rfl
  obtain ⟨a, n, ES, m, rfl, hA, hV, m0, m1, q⟩ := h
  have nd := sc_count_stones.nd
  have hu64 := hr.units
  have hn6 := hV.n6
  refine ⟨_, pss_cons (ps_set (i := 2) nd rfl (.inl rfl) (pe_call (ok_need_stones T) hr (by rfl) T.d_need_stones.g T.d_need_stones.F.kp T.d_need_stones.b .nil passL (pa_cons (pv 0) (pa_cons (pe_tup pa_nil) (pa_cons (pv 1) pa_nil)))))
    (pss_cons (ps_set (i := 3) nd rfl (.inl rfl) (pe_op op_rep (pe_lst (pa_cons pe_int pa_nil)) (pe_op op_add (pe_ix ix_tup (pv 0) pe_int (fun _ _ => rfl)) pe_int)))
    (pss_cons (ps_for PassesOwn.never rfl (pi_range1 (by rfl) T.z_range (pa_cons (pe_op op_oneShl pe_int (pe_ix ix_tup (pv 0) pe_int (fun _ _ => rfl))) pa_nil)) (pg_name (i := 4) nd rfl (.inr rfl))
      (pss_cons (ps_set (i := 5) nd rfl (.inl rfl) (pe_callTy call_tuple_of (by rfl) T.z_tuple bt_tuple (pa_cons (pe_lc (own := [("point", 6)]) rfl nd (pi_range1 (by rfl) T.z_range (pa_cons (pe_ix ix_tup (pv 0) pe_int (fun _ _ => rfl)) pa_nil)) (blkOk_by (own := [("point", 6)]) (N := n_count_stones) (sc := defScope s_count_stones) (by decide +kernel))
        (fun _ _ _ _ _ => pg_name (i := 6) nd rfl (Or.inl rfl)) (fun _ _ _ _ _ => pts_one (pt_cmpR op_eq (pe_op op_odd (pe_op op_shrN (pv 4) (pv 6)) pe_int) pe_int (by rfl))) (fun _ _ _ _ _ => pv 6)) pa_nil)))
      (pss_one (ps_if (pt_val (pe_call (ok_is_fine T) (hr.mono (by decide)) (by rfl) T.d_is_fine.g T.d_is_fine.F.kp T.d_is_fine.b .nil pass0 (pa_cons (pv 2) (pa_cons (pv 5) (pa_cons (pv 1) pa_nil)))))
          (pss_one (ps_augS (pv 3) (pe_callB call_len_seq (by rfl) T.z_len bt_len (pa_cons (pv 5) pa_nil)) get_list pe_int ip_add set_list)) pss_nil))))
    (pss_cons (ps_while PassesOwn.never (pt_cmpR op_eq (pe_ix ix_list (pv 3) (pe_un un_neg pe_int) (fun _ _ => rfl)) pe_int (nomark _))
      (pss_one (ps_expr (pe_bm0 PySem.F.plainAttrs_list PySem.F.slot_list_pop PySem.F.type_list_pop mt_pop (pv 3)))))
    (pss_one (ps_ret (pe_callTy call_tuple_of (by rfl) T.z_tuple bt_tuple (pa_cons (pv 3) pa_nil))))))), ?_⟩
  refine ⟨_, rfl, Nat.zero_le _, fun e he => ?_⟩
  have s0 : Same H (upd H e (.tup [])) := same_new he
  refine ⟨_, rfl, a, e, n, ES, [], m, rfl, ⟨hA.same s0, hV, upd_same, isLot_nil n, m0, m1⟩, fun _ H0 p s01 hS => ?_, fun z => absurd fine_nil z⟩
  have sH0 := s0.trans s01
  refine ⟨(by show 1 ≤ sizeLine; decide), fun ze hze => ?_⟩
  have sz : Same H0 (upd H0 ze (.lst [.int 0])) := same_new hze
  have hz1 : (upd H0 ze (.lst [.int 0])) ze = some (.lst [.int 0]) := upd_same
  generalize upd H0 ze (.lst [.int 0]) = Hz at sz hz1
  obtain ⟨pr, qs, h1, h2, h3, h4⟩ := hA.same (sH0.trans sz)
  refine ⟨_, rfl, a, _, 0, _, rfl, rfl, SqT.of h1, atI_nat (j := 0) rfl, n, 1, rfl, rfl, ze, _, _, rfl, rfl, hz1, by omega, by omega, ?_, fun cp hcp => ?_⟩
  · show 1 * ((n : Int) + 1).toNat ≤ sizeLine
    exact small_le (by omega)
  have en1 : ((n : Int) + 1).toNat = n + 1 := by omega
  rw [en1, ← cntI_nil]
  have s1 : Same H Hz := sH0.trans sz
  have hcp0 := hcp
  have sc : Same Hz (upd Hz cp (.lst ((cntI [] (n + 1)).map V.int))) := same_new hcp
  have hc1 : (upd Hz cp (.lst ((cntI [] (n + 1)).map V.int))) cp = some (lstO (cntI [] (n + 1))) := upd_same
  generalize upd Hz cp (.lst ((cntI [] (n + 1)).map V.int)) = H1' at sc hc1
  have net1 : ∀ H', Same Hz H' → H' a = some (.tup [.int n, .ref pr]) := fun H' s => s _ _ h1
  have hS1 := hS.same sz
  have ncp : ∀ b o, Hz b = some o → b ≠ cp := fun b o h => ne_of_none h hcp0
  obtain ⟨N, eN, eN2, hN1, hN2⟩ := pow2_int hn6
  refine ⟨_, rfl, a, _, 0, _, rfl, rfl, SqT.of (sc _ _ h1), atI_nat (j := 0) rfl, n, rfl, rfl, by omega, 2 ^ n, rfl, by rw [eN2]; omega, by rw [eN2]; omega, ?_⟩
  have en2 : ((2 : Int) ^ n).toNat = N := by rw [eN2]; omega
  have en : ((n : Int)).toNat = n := by omega
  rw [en2]
  refine for_range (lo := 0) (n := N) (fun i σ H' => ∃ (y4 y5 : Option V), σ = [some (.ref a), some (.int m), some (.ref p), some (.ref cp), y4, y5, none] ∧ Same Hz H' ∧ H' cp = some (lstO (cntI (((sets n).take i).filter fun l => decide (Fine n (nearL n ES) m l)) (n + 1)))) ?_ ?_ ?_
  · exact ⟨none, none, rfl, sc, by rw [List.take_zero]; exact hc1⟩
  · rintro j σ H' hj ⟨y4, y5, rfl, sB, hc⟩
    have ej : (0 : Int) + (j : Int) = (j : Int) := by omega
    rw [ej]
    have hjs : (sets n)[j]? = some (lotOf n j) := sets_get (by omega)
    rw [take_more hjs, List.filter_append]
    refine ⟨_, rfl, a, _, 0, _, rfl, rfl, SqT.of (net1 _ sB), atI_nat (j := 0) rfl, n, rfl, by omega, by omega, fun D hD => ?_⟩
    rw [en]
    refine lcs_range (lo := 0) (n := n) (fun i => (((pts n).take i).filter fun k => decide (j / 2 ^ k.toNat % 2 = 1)).map V.int) hD (by rw [List.take_zero]; rfl) (fun i hi => lot_turn_len hi hn6) (fun i H2 R R' hi s2 kR kR' => ?_) fun H2 s2 hl2 => ?_
    · have ei : (0 : Int) + (i : Int) = (i : Int) := by omega
      rw [ei]
      refine ⟨rfl, ⟨_, rfl, _, rfl, (j : Int), i, rfl, rfl, j / 2 ^ i, by rw [Int.natCast_ediv]; rfl, rfl, rfl, _, rfl, ?_⟩⟩
      by_cases c : j / 2 ^ i % 2 = 1
      · rw [c]
        refine iteT ⟨_, rfl, kR _ _ (Same.refl _) ?_⟩
        exact lot_turn_pos hi c
      · have e : decide (V.int ((j / 2 ^ i % 2 : Nat) : Int) = .int 1) = false := decide_eq_false (fun z => by injection z with z; omega)
        rw [e]
        refine iteF (kR' _ (Same.refl _) ?_)
        exact lot_turn_neg hi c
    rw [lot_turn_end] at hl2
    refine ⟨D, _, rfl, .inl ⟨SqL.of hl2, fun u hu => ?_⟩⟩
    have sB2 : Same Hz (upd H2 u (HO.tup ((lotOf n j).map V.int))) := same_more (sB.trans s2) hu
    have hu2 : (upd H2 u (HO.tup ((lotOf n j).map V.int))) u = some (tupO (lotOf n j)) := upd_same
    have sD2 : Same H' (upd H2 u (HO.tup ((lotOf n j).map V.int))) := same_more s2 hu
    have hlot : IsLot n (lotOf n j) := isLot_filter n _
    generalize upd H2 u (HO.tup ((lotOf n j).map V.int)) = H3 at sB2 hu2 sD2 ⊢
    have hc3 := sD2 _ _ hc
    refine ⟨_, rfl, _, rfl, _, rfl, p, u, n, _, lotOf n j, m, rfl, hS1.same sB2, nearL_near hV, by omega, hu2, hlot, fun H4 c s4 hc4 => ⟨c, rfl, ?_⟩⟩
    have hc5 := s4 _ _ hc3
    generalize hls : ((sets n).take j).filter (fun l => decide (Fine n (nearL n ES) m l)) = ls at hc5 ⊢
    cases c with
    | false =>
      have e : ([lotOf n j] : List (List Int)).filter (fun l => decide (Fine n (nearL n ES) m l)) = [] := filtl_neg (decide_eq_false fun z => by have := hc4.mpr z; cases this)
      rw [e, List.append_nil]
      exact iteF ⟨_, _, rfl, sB2.trans s4, hc5⟩
    | true =>
      have e : ([lotOf n j] : List (List Int)).filter (fun l => decide (Fine n (nearL n ES) m l)) = [lotOf n j] := filtl_pos (decide_eq_true (hc4.mp rfl))
      rw [e]
      have hll := hlot.len
      refine iteT ⟨_, rfl, _, rfl, u, _, rfl, .inr (SqT.of (s4 _ _ hu2)), cp, _, (((lotOf n j).map V.int).length : Nat), V.int ((cnt ls (lotOf n j).length : Nat) : Int), rfl, rfl, SqL.of hc5, ?_, _, _, rfl, rfl, cp, _, _, (lotOf n j).length, rfl, rfl, hc5, ?_, ?_⟩
      · rw [List.length_map]
        exact atI_nat (map_int_get (cntI_get (by omega)))
      · rw [List.length_map, List.length_map, cntI_len]
        exact ixN_nat (by omega)
      · refine ⟨_, _, rfl, fun b o hb => ?_, ?_⟩
        · rw [upd_ne (ncp b o hb)]
          exact s4 _ _ (sB2 _ _ hb)
        · rw [upd_same, map_set_int, ← cntI_snoc (by omega)]
          rfl
  · rintro σ H' ⟨y4, y5, rfl, sB, hc⟩
    have eN3 : (sets n).take N = sets n := List.take_of_length_le (by rw [sets_len]; omega)
    rw [eN3] at hc
    have hc : H' cp = some (lstO (cntI (fines n (nearL n ES) m) (n + 1))) := hc
    have hnil : cnt (fines n (nearL n ES) m) 0 ≠ 0 := by
      unfold cnt
      rw [Ne, List.count_eq_zero]
      exact fun h => h (List.mem_map.mpr ⟨[], mem_fines.mpr ⟨isLot_nil n, fine_nil⟩, rfl⟩)
    have hbig : ∀ k, n < k → cnt (fines n (nearL n ES) m) k = 0 := fun k hk => by
      unfold cnt
      rw [List.count_eq_zero]
      intro h
      obtain ⟨l, hl, e⟩ := List.mem_map.mp h
      have := (mem_fines.mp hl).1.len
      omega
    generalize hfs : fines n (nearL n ES) m = fs at hc hnil hbig q
    refine ⟨fun mm σ H2 => ∃ t, t ≤ n ∧ σ = [some (.ref a), some (.int m), some (.ref p), some (.ref cp), y4, y5, none] ∧ Same Hz H2 ∧ H2 cp = some (lstO (cntI fs (t + 1))) ∧ (∀ k, t < k → cnt fs k = 0) ∧ mm = t, ⟨n, n, Nat.le_refl _, rfl, sB, hc, hbig, rfl⟩, ?_⟩
    rintro mm σ H2 ⟨t, ht, rfl, sB2, hc2, hab, rfl⟩
    refine ⟨_, rfl, 1, rfl, cp, _, -1, V.int ((cnt fs mm : Nat) : Int), rfl, rfl, SqL.of hc2, ?_, rfl, _, rfl, ?_⟩
    · rw [cntI_succ, List.map_append]
      exact atI_last _ _
    refine ite2 (fun c => ?_) (fun c => ?_)
    · have c0 := of_decide_eq_true c
      injection c0 with c0
      have c1 : cnt fs mm = 0 := by omega
      cases mm with
      | zero => exact absurd c1 hnil
      | succ t =>
        refine ⟨fun σ' H3 => ∃ t', t' ≤ n ∧ σ' = [some (.ref a), some (.int m), some (.ref p), some (.ref cp), y4, y5, none] ∧ Same Hz H3 ∧ H3 cp = some (lstO (cntI fs (t' + 1))) ∧ (∀ k, t' < k → cnt fs k = 0) ∧ t' = t, fun σ' H3 ⟨t', e1, e2, e3, e4, e5, e6⟩ => ⟨_, (by omega : t' < t + 1), t', e1, e2, e3, e4, e5, rfl⟩, ?_⟩
        rw [cntI_succ] at hc2
        refine ⟨_, rfl, .inl ⟨rfl, _, SqL.of hc2⟩, cp, _, _, rfl, rfl, hc2, pop_at _ _, ?_⟩
        rw [pop_rest]
        refine ⟨t, by omega, rfl, same_upd sB2 hcp0, upd_same, fun k hk => ?_, rfl⟩
        by_cases e : k = t + 1
        · rw [e]
          exact c1
        · exact hab k (by omega)
    · have c1 : cnt fs mm ≠ 0 := fun z => c (decide_eq_true (by rw [z]; rfl))
      refine ⟨_, rfl, cp, _, rfl, .inl ⟨SqL.of hc2, fun u hu => ?_⟩⟩
      exact q _ u mm (s1.trans (same_more sB2 hu)) ht c1 hab upd_same
end
end ST

/-! SFew0 -/
/-! Full lots; (len, lot) in order. -/
namespace ST
open Classical
open PySem PySem.Spec PyProof.Rows L2 SM
open PySem.W (alike dataLt)
/-- fewer stones, or as many and ahead in order -/
def Few (s b : List Int) : Prop := s.length < b.length ∨ (s.length = b.length ∧ s < b)
theorem Few.trans {a b c : List Int} (h1 : Few a b) (h2 : Few b c) : Few a c := by
  rcases h1 with h1 | ⟨e1, h1⟩ <;> rcases h2 with h2 | ⟨e2, h2⟩
  · exact .inl (by omega)
  · exact .inl (by omega)
  · exact .inl (by omega)
  · exact .inr ⟨by omega, lex_trans h1 h2⟩
theorem Few.or {a b : List Int} (h : ¬ Few a b) : Few b a ∨ a = b := by
  rcases Nat.lt_trichotomy b.length a.length with c | c | c
  · exact .inl (.inl c)
  · have h1 : ¬ a < b := fun z => h (.inr ⟨c.symm, z⟩)
    rcases lexlt_or b a h1 with z | z
    · exact .inl (.inr ⟨c, z⟩)
    · exact .inr z.symm
  · exact absurd (.inl c) h
theorem Few.irr (a : List Int) : ¬ Few a a := by
  rintro (h | ⟨_, h⟩)
  · omega
  · exact lex_irr a h
theorem eqv_tup (ns ms : List Int) : PyData.eqv (.tuple (ns.map PyData.int)) (.tuple (ms.map PyData.int)) = decide (ns = ms) := by
  rw [PyData.eqv]
  induction ns generalizing ms with
  | nil =>
    cases ms with
    | nil => simp [PyData.eqvAll]
    | cons y r => simp [PyData.eqvAll]
  | cons x r ih =>
    cases ms with
    | nil => simp [PyData.eqvAll]
    | cons y s =>
      rw [List.map_cons, List.map_cons, PyData.eqvAll, ih s]
      rw [PyData.eqv, Bool.eq_iff_iff]
      simp
def itD (x : Int) (ns : List Int) : PyData := .tuple [.int x, .tuple (ns.map PyData.int)]
theorem alike_it (x y : Int) (ns ms : List Int) : alike (itD x ns) (itD y ms) = true := by
  unfold itD
  rw [PySem.W.alike, PySem.W.alikeAll, PySem.W.alikeAll, alike_tup]
  simp [PySem.W.alike, PySem.W.alikeAll]
theorem depth_it (x : Int) (ns : List Int) : (itD x ns).depth = 2 := by
  unfold itD
  rw [PyData.depth, PyData.depthAll, PyData.depthAll, PyData.depthAll, depth_tup, PyData.depth]
  rfl
theorem lt_it (x y : Int) (ns ms : List Int) : dataLt (itD x ns) (itD y ms) = decide (x < y ∨ (x = y ∧ ns < ms)) := by
  unfold itD
  rw [PySem.W.dataLt_pair (by simp [PySem.W.alike]) (alike_tup ns ms), PySem.W.dataLt_int, lt_tup, eqv_tup]
  have e : PyData.eqv (.int x) (.int y) = decide (x = y) := by rw [PyData.eqv, Bool.eq_iff_iff]; simp
  rw [e]
  by_cases h1 : x = y
  · subst h1
    rw [if_pos (decide_eq_true rfl)]
    by_cases h2 : ns = ms
    · subst h2
      rw [if_pos (decide_eq_true rfl)]
      refine (decide_eq_false ?_).symm
      rintro (h | ⟨_, h⟩)
      · omega
      · exact lex_irr _ h
    · rw [if_neg (fun z => h2 (of_decide_eq_true z))]
      refine decide_eq_decide.mpr ⟨fun h => .inr ⟨rfl, h⟩, ?_⟩
      rintro (h | ⟨_, h⟩)
      · omega
      · exact h
  · rw [if_neg (fun z => h1 (of_decide_eq_true z))]
    refine decide_eq_decide.mpr ⟨fun h => .inl h, ?_⟩
    rintro (h | ⟨h, _⟩)
    · exact h
    · exact absurd h h1
theorem dp_it {K : PySem.W.Frag} {H : Hp} {t a : Addr} {x : Int} {ns : List Int} (h : H t = some (.tup [.int x, .ref a])) (ha : H a = some (tupO ns)) : Dp K H (.ref t) (itD x ns) := .tup (SqT.of h) (.cons (.int x) (.cons (dp_tup (SqT.of ha)) .nil))
theorem it_not (x : Int) (ns : List Int) : itD x ns ≠ .none := by intro z; cases z
/-- an expression that answers a new pair: a number, a lot -/
def EvIt (t : TE) (σ : L2.St) (H : Hp) (x : Int) (a : Addr) : Prop := ∀ H', Same H H' → ∀ Q : VK, (∀ p H2, Same H' H2 → H2 p = some (.tup [.int x, .ref a]) → Q (.ref p) H2) → t σ H' Q
/-- the test of fewest_full -/
theorem few_read {K : PySem.W.Frag} {tL tR : TE} {σ : L2.St} {H : Hp} {Q : Bool → Hp → Prop} {l : List Int} {u : Addr} {v : V} (hv : σ[3]? = some (some v)) (hL : EvIt tL σ H (l.length : Nat) u) (hu : H u = some (tupO l))
    (hR : v = .non ∨ ∃ (pb : Addr) (b : List Int), v = .ref pb ∧ H pb = some (tupO b) ∧ EvIt tR σ H (b.length : Nat) pb)
    (q : ∀ c H', Same H H' → (c = true ↔ (v = .non ∨ ∃ (pb : Addr) (b : List Int), v = .ref pb ∧ H pb = some (tupO b) ∧ Few l b)) → Q c H') :
    tOr (tB (tIsN (tVar 3))) (tTest (tOp (rLtDt K) tL tR)) σ H Q := by
  refine ⟨_, hv, _, rfl, ?_⟩
  rcases hR with e | ⟨pb, b, e, hb, hR⟩
  · subst e
    rw [if_pos (decide_eq_true rfl)]
    exact q true H (Same.refl H) ⟨fun _ => .inl rfl, fun _ => rfl⟩
  · subst e
    rw [if_neg (fun z => by have := of_decide_eq_true z; cases this)]
    refine hL H (Same.refl H) _ fun p1 H1 s1 h1 => hR H1 s1 _ fun p2 H2 s2 h2 => ?_
    have s12 := s1.trans s2
    refine ⟨_, _, dp_it (s2 _ _ h1) (s12 _ _ hu), dp_it h2 (s12 _ _ hb), alike_it _ _ _ _, it_not _ _, by rw [depth_it]; decide, _, rfl, q _ H2 s12 ?_⟩
    rw [lt_it, decide_eq_true_iff]
    constructor
    · rintro (h | ⟨h, h2⟩)
      · exact .inr ⟨pb, b, rfl, hb, .inl (by omega)⟩
      · exact .inr ⟨pb, b, rfl, hb, .inr ⟨by omega, h2⟩⟩
    · rintro (h | ⟨pb2, b2, e2, hb2, h⟩)
      · cases h
      · injection e2 with e2
        subst e2
        rw [hb] at hb2
        have eb : b = b2 := by
          injection hb2 with hb2
          injection hb2 with hb2
          have inj : Function.Injective V.int := fun x y hxy => by injection hxy
          exact (List.map_inj_right inj).mp hb2
        subst eb
        rcases h with h | ⟨h, h2⟩
        · exact .inl (by omega)
        · exact .inr ⟨by omega, h2⟩
theorem evit_len {K : PySem.W.Frag} {σ : L2.St} {H : Hp} {i : Nat} {u : Addr} {l : List Int} (h : σ[i]? = some (some (.ref u))) (hu : H u = some (tupO l)) :
    EvIt (tTup (tCons (fun σ H Q => tVar i σ H fun x H1 => rLenS K [x] H1 Q) (tCons (tVar i) tNil))) σ H (l.length : Nat) u := fun H' s Q q => by
  refine ⟨_, h, u, _, rfl, .inr (SqT.of (s _ _ hu)), _, h, (by show 2 ≤ sizeLine; decide), fun t ht => ?_⟩
  rw [List.length_map]
  exact q _ _ (same_new ht) upd_same
/-- there is a full lot -/
theorem full_over {n : Nat} {L : List (List Int)} {m : Int} : ∀ (k : Nat) (l : List Int), n ≤ l.length + k → IsLot n l → Fine n L m l → ∃ s, IsLot n s ∧ Fine n L m s ∧ free n L m s = []
  | 0, l, h, hl, hf => by
    refine ⟨l, hl, hf, ?_⟩
    cases e : free n L m l with
    | nil => rfl
    | cons p r =>
      have hp : p ∈ free n L m l := by rw [e]; exact List.mem_cons_self
      obtain ⟨h1, h2, h3⟩ := mem_free.mp hp
      have := (hl.ins h2 h1.1 h1.2).len
      rw [len_ins] at this
      omega
  | k + 1, l, h, hl, hf => by
    cases e : free n L m l with
    | nil => exact ⟨l, hl, hf, e⟩
    | cons p r =>
      have hp : p ∈ free n L m l := by rw [e]; exact List.mem_cons_self
      obtain ⟨h1, h2, h3⟩ := mem_free.mp hp
      exact full_over k (ins p l) (by rw [len_ins]; omega) (hl.ins h2 h1.1 h1.2) h3
theorem full_is {n : Nat} {L : List (List Int)} {m : Int} : ∃ s, IsLot n s ∧ Fine n L m s ∧ free n L m s = [] := full_over n [] (Nat.le_add_left _ _) (isLot_nil n) fine_nil
end ST

/-! SFewest -/
/-! fewest_full. -/
namespace ST
open Classical
open PySem PySem.Spec PyProof.Rows L2 SM
section
variable {P : Program} {w : World} {K : PySem.W.Frag} {mg : Str → Option Value} {base : Heap}
def Full (n : Nat) (L : List (List Int)) (m : Int) (l : List Int) : Prop := Fine n L m l ∧ free n L m l = []
def spFew : Sp := fun vs H Q _ => ∃ (a : Addr) (n : Nat) (E : List Pr) (m : Int), vs = [.ref a, .int m] ∧ NetAt H a n E ∧ NetV n E ∧ 1 ≤ m ∧ m ≤ (n : Int) ∧
  ∀ H' p b, Same H H' → Best n (Full n (nearL n E) m) Few b → H' p = some (tupO b) → Q (.ref p) H'
/-- the best so far -/
def FewI (n : Nat) (G : List Int → Prop) (i : Nat) (H : Hp) (v : V) : Prop :=
  (v = .non ∧ ∀ k, k < i → ¬ G (lotOf n k)) ∨ (∃ (pb : Addr) (b : List Int), v = .ref pb ∧ H pb = some (tupO b) ∧ IsLot n b ∧ G b ∧ ∀ k, k < i → G (lotOf n k) → ¬ Few (lotOf n k) b)
theorem FewI.same {n i : Nat} {G : List Int → Prop} {H H' : Hp} {v : V} (h : FewI n G i H v) (s : Same H H') : FewI n G i H' v := by
  rcases h with h | ⟨pb, b, e, h1, h2, h3, h4⟩
  · exact .inl h
  · exact .inr ⟨pb, b, e, s _ _ h1, h2, h3, h4⟩
/-- nothing better: either not G, or not fewer -/
theorem FewI.skip {n i : Nat} {G : List Int → Prop} {H : Hp} {v : V} (h : FewI n G i H v) (no : ¬ G (lotOf n i) ∨ ∃ pb b, v = .ref pb ∧ H pb = some (tupO b) ∧ ¬ Few (lotOf n i) b) : FewI n G (i + 1) H v := by
  rcases h with ⟨e, h⟩ | ⟨pb, b, e, h1, h2, h3, h4⟩
  · refine .inl ⟨e, fun k hk => ?_⟩
    by_cases c : k = i
    · subst c
      rcases no with no | ⟨pb, b, e2, _⟩
      · exact no
      · rw [e] at e2
        cases e2
    · exact h k (by omega)
  · refine .inr ⟨pb, b, e, h1, h2, h3, fun k hk hg => ?_⟩
    by_cases c : k = i
    · subst c
      rcases no with no | ⟨pb2, b2, e2, hb2, no⟩
      · exact absurd hg no
      · rw [e] at e2
        injection e2 with e2
        subst e2
        rw [h1] at hb2
        have : b = b2 := by
          injection hb2 with hb2
          injection hb2 with hb2
          have inj : Function.Injective V.int := fun x y hxy => by injection hxy
          exact (List.map_inj_right inj).mp hb2
        rw [this]
        exact no
    · exact h4 k (by omega) hg
theorem FewI.put {n i : Nat} {G : List Int → Prop} {H : Hp} {v : V} {u : Addr} (h : FewI n G i H v) (hu : H u = some (tupO (lotOf n i))) (hg : G (lotOf n i)) (yes : v = .non ∨ ∃ pb b, v = .ref pb ∧ H pb = some (tupO b) ∧ Few (lotOf n i) b) : FewI n G (i + 1) H (.ref u) := by
  refine .inr ⟨u, lotOf n i, rfl, hu, isLot_filter n _, hg, fun k hk hgk => ?_⟩
  by_cases c : k = i
  · subst c
    exact Few.irr _
  · rcases h with ⟨e, h⟩ | ⟨pb, b, e, h1, h2, h3, h4⟩
    · exact absurd hgk (h k (by omega))
    · rcases yes with yes | ⟨pb2, b2, e2, hb2, yes⟩
      · rw [yes] at e
        cases e
      · rw [e] at e2
        injection e2 with e2
        subst e2
        rw [h1] at hb2
        have : b = b2 := by
          injection hb2 with hb2
          injection hb2 with hb2
          have inj : Function.Injective V.int := fun x y hxy => by injection hxy
          exact (List.map_inj_right inj).mp hb2
        rw [← this] at yes
        exact fun z => h4 k (by omega) hgk (z.trans yes)
theorem ok_fewest_full (T : Txt K mg) : FnOk P w K mg base CX0 6 T.d_fewest_full.f T.d_fewest_full.fd p_fewest_full spFew := by
  refine T.d_fewest_full.F.ok sc_fewest_full (fun vs H Q E h => ?_) (fun cdv A outer s H vs Q E hr h => ?_)
  · obtain ⟨a, n, E, m, rfl, _⟩ := h
    rfl
  obtain ⟨a, n, ES, m, rfl, hA, hV, m0, m1, q⟩ := h
  have nd := sc_fewest_full.nd
  have hu64 := hr.units
  have hn6 := hV.n6
  refine ⟨_, pss_cons (ps_set (i := 2) nd rfl (.inr rfl) (pe_call (ok_need_stones T) hr (by rfl) T.d_need_stones.g T.d_need_stones.F.kp T.d_need_stones.b .nil passL (pa_cons (pv 0) (pa_cons (pe_tup pa_nil) (pa_cons (pv 1) pa_nil)))))
    (pss_cons (ps_set (i := 3) nd rfl (.inl rfl) pe_non)
    (pss_cons (ps_for PassesOwn.never rfl (pi_range1 (by rfl) T.z_range (pa_cons (pe_op op_oneShl pe_int (pe_ix ix_tup (pv 0) pe_int (fun _ _ => rfl))) pa_nil)) (pg_name (i := 4) nd rfl (.inr rfl))
      (pss_cons (ps_set (i := 5) nd rfl (.inr rfl) (pe_callTy call_tuple_of (by rfl) T.z_tuple bt_tuple (pa_cons (pe_lc (own := [("point", 6)]) rfl nd (pi_range1 (by rfl) T.z_range (pa_cons (pe_ix ix_tup (pv 0) pe_int (fun _ _ => rfl)) pa_nil)) (blkOk_by (own := [("point", 6)]) (N := n_fewest_full) (sc := defScope s_fewest_full) (by decide +kernel))
        (fun _ _ _ _ _ => pg_name (i := 6) nd rfl (Or.inl rfl)) (fun _ _ _ _ _ => pts_one (pt_cmpR op_eq (pe_op op_odd (pe_op op_shrN (pv 4) (pv 6)) pe_int) pe_int (by rfl))) (fun _ _ _ _ _ => pv 6)) pa_nil)))
      (pss_one (ps_if (PW.pt (pw_or (pt_cmp (pc_isN (pv 3)))
          (pw_or1 (pt_cmpR (op_ltDt hu64) (pe_tup (pa_cons (pe_callB call_len_seq (by rfl) T.z_len bt_len (pa_cons (pv 5) pa_nil)) (pa_cons (pv 5) pa_nil))) (pe_tup (pa_cons (pe_callB call_len_seq (by rfl) T.z_len bt_len (pa_cons (pv 3) pa_nil)) (pa_cons (pv 3) pa_nil))) (nomark _)))))
        (pss_one (ps_if (pt_val (pe_call (ok_is_fine T) (hr.mono (by decide)) (by rfl) T.d_is_fine.g T.d_is_fine.F.kp T.d_is_fine.b .nil pass0 (pa_cons (pv 2) (pa_cons (pv 5) (pa_cons (pv 1) pa_nil)))))
          (pss_one (ps_if (pt_not (pt_val (pe_callB (cr_any rfl) (by rfl) T.z_any bt_any (pa_cons (pe_lc (own := [("point", 6)]) rfl nd (pi_range1 (by rfl) T.z_range (pa_cons (pe_ix ix_tup (pv 0) pe_int (fun _ _ => rfl)) pa_nil)) (blkOk_by (own := [("point", 6)]) (N := n_fewest_full) (sc := defScope s_fewest_full) (by decide +kernel))
              (fun _ _ _ _ _ => pg_name (i := 6) nd rfl (Or.inl rfl)) (fun _ _ _ _ _ => pts_nil)
              (fun _ _ _ _ _ => pe_call (ok_may_put T) (hr.mono (by decide)) (by rfl) T.d_may_put.g T.d_may_put.F.kp T.d_may_put.b .nil pass0 (pa_cons (pv 2) (pa_cons (pv 5) (pa_cons (pv 6) (pa_cons (pv 1) pa_nil)))))) pa_nil))))
            (pss_one (ps_set (i := 3) nd rfl (.inl rfl) (pv 5))) pss_nil)) pss_nil)) pss_nil))))
    (pss_one (ps_ret (pv 3))))), ?_⟩
  refine ⟨_, rfl, Nat.zero_le _, fun e he => ?_⟩
  have s0 : Same H (upd H e (.tup [])) := same_new he
  refine ⟨_, rfl, a, e, n, ES, [], m, rfl, ⟨hA.same s0, hV, upd_same, isLot_nil n, m0, m1⟩, fun _ H1 p s01 hS1 => ?_, fun z => absurd fine_nil z⟩
  have s1 := s0.trans s01
  obtain ⟨pr, qs, h1, h2, h3, h4⟩ := hA.same s1
  have net1 : ∀ H', Same H1 H' → H' a = some (.tup [.int n, .ref pr]) := fun H' s => s _ _ h1
  obtain ⟨N, eN, eN2, hN1, hN2⟩ := pow2_int hn6
  refine ⟨_, rfl, a, _, 0, _, rfl, rfl, SqT.of h1, atI_nat (j := 0) rfl, n, rfl, rfl, by omega, 2 ^ n, rfl, by rw [eN2]; omega, by rw [eN2]; omega, ?_⟩
  have en2 : ((2 : Int) ^ n).toNat = N := by rw [eN2]; omega
  have en : ((n : Int)).toNat = n := by omega
  rw [en2]
  refine for_range (lo := 0) (n := N) (fun i σ H' => ∃ (v : V) (y4 y5 : Option V), σ = [some (.ref a), some (.int m), some (.ref p), some v, y4, y5, none] ∧ Same H1 H' ∧ FewI n (Full n (nearL n ES) m) i H' v) ?_ ?_ ?_
  · exact ⟨.non, none, none, rfl, Same.refl _, .inl ⟨rfl, fun k hk => absurd hk (Nat.not_lt_zero k)⟩⟩
  · rintro j σ H' hj ⟨v, y4, y5, rfl, sB, hI⟩
    have ej : (0 : Int) + (j : Int) = (j : Int) := by omega
    rw [ej]
    refine ⟨_, rfl, a, _, 0, _, rfl, rfl, SqT.of (net1 _ sB), atI_nat (j := 0) rfl, n, rfl, by omega, by omega, fun D hD => ?_⟩
    rw [en]
    refine lcs_range (lo := 0) (n := n) (fun i => (((pts n).take i).filter fun k => decide (j / 2 ^ k.toNat % 2 = 1)).map V.int) hD (by rw [List.take_zero]; rfl) (fun i hi => lot_turn_len hi hn6) (fun i H2 R R' hi s2 kR kR' => ?_) fun H2 s2 hl2 => ?_
    · have ei : (0 : Int) + (i : Int) = (i : Int) := by omega
      rw [ei]
      refine ⟨rfl, ⟨_, rfl, _, rfl, (j : Int), i, rfl, rfl, j / 2 ^ i, by rw [Int.natCast_ediv]; rfl, rfl, rfl, _, rfl, ?_⟩⟩
      by_cases c : j / 2 ^ i % 2 = 1
      · rw [c]
        refine iteT ⟨_, rfl, kR _ _ (Same.refl _) ?_⟩
        exact lot_turn_pos hi c
      · have e : decide (V.int ((j / 2 ^ i % 2 : Nat) : Int) = .int 1) = false := decide_eq_false (fun z => by injection z with z; omega)
        rw [e]
        refine iteF (kR' _ (Same.refl _) ?_)
        exact lot_turn_neg hi c
    rw [lot_turn_end] at hl2
    refine ⟨D, _, rfl, .inl ⟨SqL.of hl2, fun u hu => ?_⟩⟩
    have sB2 : Same H1 (upd H2 u (HO.tup ((lotOf n j).map V.int))) := same_more (sB.trans s2) hu
    have hu2 : (upd H2 u (HO.tup ((lotOf n j).map V.int))) u = some (tupO (lotOf n j)) := upd_same
    have sD2 : Same H' (upd H2 u (HO.tup ((lotOf n j).map V.int))) := same_more s2 hu
    have hlot : IsLot n (lotOf n j) := isLot_filter n _
    generalize upd H2 u (HO.tup ((lotOf n j).map V.int)) = H3 at sB2 hu2 sD2 ⊢
    have hI3 := hI.same sD2
    dsimp only [gName]
    show tIfS (tOr _ _) _ _ _ _ _
    refine few_read (l := lotOf n j) (u := u) (v := v) ?_ ?_ hu2 ?_ fun c H4 s4 hc => ?_
    · rfl
    · exact evit_len (K := K) (i := 5) rfl hu2
    · rcases hI3 with ⟨e, _⟩ | ⟨pb, b, rfl, hb, _⟩
      · exact .inl e
      · exact .inr ⟨pb, b, rfl, hb, evit_len (K := K) (i := 3) rfl hb⟩
    have hI4 := hI3.same s4
    have sB4 := sB2.trans s4
    cases c with
    | false =>
      refine iteF ⟨v, _, _, rfl, sB4, hI4.skip (.inr ?_)⟩
      rcases hI3 with ⟨e, _⟩ | ⟨pb, b, rfl, hb, _⟩
      · have := hc.mpr (.inl e)
        cases this
      · refine ⟨pb, b, rfl, s4 _ _ hb, fun z => ?_⟩
        have := hc.mpr (.inr ⟨pb, b, rfl, hb, z⟩)
        cases this
    | true =>
      refine iteT ⟨_, rfl, _, rfl, _, rfl, p, u, n, _, lotOf n j, m, rfl, hS1.same sB4, nearL_near hV, by omega, s4 _ _ hu2, hlot, fun H5 c s5 hc5 => ⟨c, rfl, ?_⟩⟩
      have hI5 := hI4.same s5
      have sB5 := sB4.trans s5
      cases c with
      | false => exact iteF ⟨v, _, _, rfl, sB5, hI5.skip (.inl fun z => by have := hc5.mpr z.1; cases this)⟩
      | true =>
        have hf := hc5.mp rfl
        have hu5 := s5 _ _ (s4 _ _ hu2)
        refine iteT ⟨_, rfl, a, _, 0, _, rfl, rfl, SqT.of (net1 _ sB5), atI_nat (j := 0) rfl, n, rfl, by omega, by omega, fun D2 hD2 => ?_⟩
        rw [en]
        refine lcs_range (lo := 0) (n := n) (fun i => (((pts n).take i).map fun x => decide (x ∈ free n (nearL n ES) m (lotOf n j))).map V.bl) hD2 rfl (fun i hi => by rw [List.length_map, List.length_map, List.length_take]; omega) (fun i H6 R R' hi s6 kR kR' => ?_) fun H6 s6 hl6 => ?_
        · have ei : (0 : Int) + (i : Int) = (i : Int) := by omega
          rw [ei]
          refine ⟨rfl, ⟨_, rfl, _, rfl, _, rfl, _, rfl, p, u, n, _, lotOf n j, i, m, rfl, hS1.same (sB5.trans s6), nearL_near hV, by omega, s6 _ _ hu5, hlot, by omega, by omega, fun H7 c s7 hc7 => ?_⟩⟩
          rw [may_free hV hlot hf (by omega) (by omega)] at hc7
          refine kR _ _ s7 ?_
          show (((pts n).take (i + 1)).map _).map V.bl = _
          rw [take_more (pts_get hi), List.map_append, List.map_append]
          have ec : c = decide ((i : Int) ∈ free n (nearL n ES) m (lotOf n j)) := by rw [Bool.eq_iff_iff, decide_eq_true_iff]; exact hc7
          rw [ec]
          rfl
        · refine ⟨D2, _, rfl, SqL.of hl6, ?_⟩
          have sB6 := sB5.trans s6
          have hI6 := hI5.same s6
          have eany : (((pts n).take n).map fun x => decide (x ∈ free n (nearL n ES) m (lotOf n j))).any id = true ↔ free n (nearL n ES) m (lotOf n j) ≠ [] := by
            rw [pts_take (Nat.le_refl n), List.any_map, List.any_eq_true]
            constructor
            · rintro ⟨x, _, hx⟩ e
              have := of_decide_eq_true hx
              rw [e] at this
              cases this
            · intro h
              obtain ⟨x, hx⟩ := List.exists_mem_of_ne_nil _ h
              exact ⟨x, mem_pts.mpr (mem_free.mp hx).1, decide_eq_true hx⟩
          refine ⟨_, rfl, ?_⟩
          by_cases cf : free n (nearL n ES) m (lotOf n j) = []
          · have e1 : (((pts n).take n).map fun x => decide (x ∈ free n (nearL n ES) m (lotOf n j))).any id = false := by
              cases e : (((pts n).take n).map fun x => decide (x ∈ free n (nearL n ES) m (lotOf n j))).any id with
              | false => rfl
              | true => exact absurd cf (eany.mp e)
            rw [e1]
            refine iteT ⟨_, rfl, .ref u, _, _, rfl, sB6, hI6.put (s6 _ _ hu5) ⟨hf, cf⟩ ?_⟩
            rcases hc.mp rfl with e | ⟨pb, b, e, hb, hfew⟩
            · exact .inl e
            · exact .inr ⟨pb, b, e, s6 _ _ (s5 _ _ (s4 _ _ hb)), hfew⟩
          · rw [eany.mpr cf]
            exact iteF ⟨v, _, _, rfl, sB6, hI6.skip (.inl fun z => cf z.2)⟩
  · rintro σ H' ⟨v, y4, y5, rfl, sB, hI⟩
    obtain ⟨s, hs, hsf, hse⟩ := full_is (n := n) (L := nearL n ES) (m := m)
    have lots : ∀ s, IsLot n s → ∃ k, k < N ∧ lotOf n k = s := fun s hs => by
      obtain ⟨k, hk⟩ := List.getElem?_of_mem (lot_sets hs)
      have hk2 : k < 2 ^ n := by
        have := (List.getElem?_eq_some_iff.mp hk).1
        rw [sets_len] at this
        exact this
      rw [sets_get hk2] at hk
      exact ⟨k, by omega, Option.some.inj hk⟩
    rcases hI with ⟨_, hno⟩ | ⟨pb, b, rfl, hb, hbl, hbf, htop⟩
    · obtain ⟨k, hk, e⟩ := lots s hs
      exact absurd (by rw [e]; exact ⟨hsf, hse⟩) (hno k hk)
    · refine ⟨_, rfl, q H' pb b (s1.trans sB) ⟨hbl, hbf, fun s hs hsf => ?_⟩ hb⟩
      obtain ⟨k, hk, e⟩ := lots s hs
      subst e
      exact htop k hk hsf
end
end ST

/-! LTaken -/
/-! law's row of draws. -/
namespace ST
open Classical
open PySem PySem.Spec PyProof.Rows L2 SM
/-- the script stands, whatever becomes of the row -/
def Scr (K : PySem.W.Frag) (H : Hp) (r sc : Addr) (ns : List Int) : Prop := ∀ H', But r H H' → SqL K H' sc (ns.map V.int)
theorem Scr.but {K : PySem.W.Frag} {H H' : Hp} {r sc : Addr} {ns : List Int} (h : Scr K H r sc ns) (s : But r H H') : Scr K H' r sc ns := fun H2 s2 => h H2 (s.trans s2)
def rowO (sc : Addr) (k s rest : Int) : HO := .lst [.ref sc, .int k, .int s, .int rest]
def RowSh (H : Hp) (r sc : Addr) : Prop := ∃ k s rest : Int, H r = some (rowO sc k s rest) ∧ 0 ≤ k
section
variable {P : Program} {w : World} {K : PySem.W.Frag} {mg : Str → Option Value} {base : Heap}
def spTaken (K : PySem.W.Frag) : Sp := fun vs H Q _ => ∃ (r sc : Addr) (ns : List Int) (j : Int), vs = [.ref r, .int j] ∧ 0 < j ∧ j < 100 ∧ RowSh H r sc ∧ Scr K H r sc ns ∧ ∀ H' v, But r H H' → RowSh H' r sc → 0 ≤ v → v < j → Q (.int v) H'
theorem ok_l_taken (T : Txt K mg) : FnOk P w K mg base CX0 1 T.d_l_taken.f T.d_l_taken.fd p_l_taken (spTaken K) := by
  refine T.d_l_taken.F.ok sc_l_taken (fun vs H Q E h => ?_) (fun cdv A outer s H vs Q E hr h => ?_)
  · obtain ⟨r, sc, ns, j, rfl, _⟩ := h
    rfl
  obtain ⟨r, sc, ns, j, rfl, j0, j1, ⟨k, z, rest, h1, h2⟩, h3, q⟩ := h
  have nd := sc_l_taken.nd
  refine ⟨_, pss_cons (ps_if (pt_cmpR op_gt (pe_ix ix_list (pv 0) pe_int (fun _ _ => rfl)) pe_int (nomark _))
      (pss_cons (ps_set (i := 2) nd rfl (.inl rfl) (pe_op op_mod (pe_callTy call_int1 (by rfl) T.z_int bt_int (pa_cons (pe_ix ix_list (pv 0) pe_int (fun _ _ => rfl)) pa_nil)) (pv 1)))
      (pss_cons (ps_asg (pe_op op_fdiv (pe_ix ix_list (pv 0) pe_int (fun _ _ => rfl)) (pv 1)) (pg_sub (pv 0) pe_int set_list))
      (pss_one (ps_ret (pv 2))))) pss_nil)
    (pss_cons (ps_asg (pe_op op_add (pe_ix ix_list (pv 0) pe_int (fun _ _ => rfl)) pe_int) (pg_sub (pv 0) pe_int set_list))
    (pss_cons (ps_if (pt_cmpR op_gt (pe_ix ix_list (pv 0) pe_int (fun _ _ => rfl)) (pe_callB call_len_seq (by rfl) T.z_len bt_len (pa_cons (pe_ix ix_list (pv 0) pe_int (fun _ _ => rfl)) pa_nil)) (nomark _))
      (pss_cons (ps_asg (pe_op op_mod (pe_callTy call_int1 (by rfl) T.z_int bt_int (pa_cons (pe_op op_add (pe_op op_mul (pe_ix ix_list (pv 0) pe_int (fun _ _ => rfl)) pe_int) pe_int) pa_nil)) pe_int) (pg_sub (pv 0) pe_int set_list))
      (pss_one (ps_ret (pe_op op_mod (pe_callTy call_int1 (by rfl) T.z_int bt_int (pa_cons (pe_op op_fdiv (pe_ix ix_list (pv 0) pe_int (fun _ _ => rfl)) pe_int) pa_nil)) (pv 1))))) pss_nil)
    (pss_cons (ps_set (i := 3) nd rfl (.inl rfl) (pe_ix ix_list (pe_ix ix_list (pv 0) pe_int (fun _ _ => rfl)) (pe_op op_sub (pe_ix ix_list (pv 0) pe_int (fun _ _ => rfl)) pe_int) (fun _ _ => rfl)))
    (pss_cons (ps_asg (pe_op op_mod (pe_callTy call_int1 (by rfl) T.z_int bt_int (pa_cons (pe_op op_add (pe_op op_add (pe_op op_mul (pe_ix ix_list (pv 0) pe_int (fun _ _ => rfl)) pe_int) (pv 3)) pe_int) pa_nil)) pe_int) (pg_sub (pv 0) pe_int set_list))
    (pss_cons (ps_if (pt_cmpR op_ge (pv 3) (pe_op op_pow pe_int pe_int) (nomark _))
      (pss_one (ps_asg (pe_op op_fdiv (pv 3) (pv 1)) (pg_sub (pv 0) pe_int set_list))) pss_nil)
    (pss_one (ps_ret (pe_op op_mod (pe_callTy call_int1 (by rfl) T.z_int bt_int (pa_cons (pv 3) pa_nil)) (pv 1))))))))), ?_⟩
  have i0 : ∀ (k s rest : Int), atI [V.ref sc, .int k, .int s, .int rest] 0 = some (.ref sc) := fun _ _ _ => rfl
  have i1 : ∀ (k s rest : Int), atI [V.ref sc, .int k, .int s, .int rest] 1 = some (.int k) := fun _ _ _ => rfl
  have i2 : ∀ (k s rest : Int), atI [V.ref sc, .int k, .int s, .int rest] 2 = some (.int s) := fun _ _ _ => rfl
  have i3 : ∀ (k s rest : Int), atI [V.ref sc, .int k, .int s, .int rest] 3 = some (.int rest) := fun _ _ _ => rfl
  have p1 : ∀ (H' : Hp) (k k' s rest : Int), upd H' r (.lst ([V.ref sc, .int k, .int s, .int rest].set 1 (.int k'))) = upd H' r (rowO sc k' s rest) := fun _ _ _ _ _ => rfl
  have m0 : ∀ x : Int, 0 ≤ x % j := fun x => Int.emod_nonneg x (by omega)
  have m1 : ∀ x : Int, x % j < j := fun x => Int.emod_lt_of_pos x j0
  refine ⟨_, rfl, r, _, 3, _, rfl, rfl, SqL.of h1, i3 _ _ _, _, _, rfl, rfl, _, rfl, ?_⟩
  refine ite2 (fun c => ?_) (fun c => ?_)
  · refine ⟨_, rfl, r, _, 3, _, rfl, rfl, SqL.of h1, i3 _ _ _, .inl ⟨_, rfl, _, rfl, _, _, rfl, rfl, j0, ?_⟩⟩
    refine ⟨_, rfl, r, _, 3, _, rfl, rfl, SqL.of h1, i3 _ _ _, _, rfl, _, _, rfl, rfl, ⟨j0, by omega⟩, _, rfl, r, _, 3, 3, rfl, rfl, h1, rfl, ?_⟩
    refine ⟨_, rfl, q _ _ but_upd ⟨k, z, rest / j, upd_same, h2⟩ (m0 _) (m1 _)⟩
  refine ⟨_, rfl, r, _, 1, _, rfl, rfl, SqL.of h1, i1 _ _ _, _, _, rfl, rfl, _, rfl, r, _, 1, 1, rfl, rfl, h1, rfl, ?_⟩
  have b1 : But r H (upd H r (rowO sc (k + 1) z rest)) := but_upd
  have g1 : (upd H r (rowO sc (k + 1) z rest)) r = some (rowO sc (k + 1) z rest) := upd_same
  have e1 : upd H r (.lst ([V.ref sc, .int k, .int z, .int rest].set 1 (.int (k + 1)))) = upd H r (rowO sc (k + 1) z rest) := rfl
  rw [e1]
  generalize upd H r (rowO sc (k + 1) z rest) = H1 at b1 g1
  have hs1 := h3 H1 b1
  refine ⟨_, rfl, r, _, 1, _, rfl, rfl, SqL.of g1, i1 _ _ _, _, rfl, r, _, 0, _, rfl, rfl, SqL.of g1, i0 _ _ _, sc, _, rfl, .inl hs1, _, _, rfl, rfl, _, rfl, ?_⟩
  refine ite2 (fun c => ?_) (fun c => ?_)
  · refine ⟨_, rfl, r, _, 2, _, rfl, rfl, SqL.of g1, i2 _ _ _, _, _, rfl, rfl, .inr (by decide), _, _, rfl, rfl, .inl ⟨_, rfl, _, _, rfl, rfl, (by show (0 : Int) < 2147483647; decide), _, rfl, r, _, 2, 2, rfl, rfl, g1, rfl, ?_⟩⟩
    have b2 : But r H (upd H1 r (rowO sc (k + 1) ((z * 48271 + 11) % 2147483647) rest)) := b1.trans but_upd
    have g2 : (upd H1 r (rowO sc (k + 1) ((z * 48271 + 11) % 2147483647) rest)) r = some (rowO sc (k + 1) ((z * 48271 + 11) % 2147483647) rest) := upd_same
    refine ⟨_, rfl, r, _, 2, _, rfl, rfl, SqL.of g2, i2 _ _ _, _, _, rfl, rfl, (by show (0 : Int) < 7 ∧ (7 : Int) < 1073741824; decide), .inl ⟨_, rfl, _, rfl, _, _, rfl, rfl, j0, ?_⟩⟩
    exact q _ _ b2 ⟨_, _, _, g2, by omega⟩ (m0 _) (m1 _)
  have hk : k < ns.length := by
    have : ¬ ((ns.map V.int).length : Int) < k + 1 := fun z => c (decide_eq_true z)
    rw [List.length_map] at this
    omega
  have gk : ns[k.toNat]? = some ns[k.toNat] := List.getElem?_eq_getElem (by omega)
  generalize ns[k.toNat] = x at gk
  have ak : atI (ns.map V.int) (k + 1 - 1) = some (.int x) := by
    have e : k + 1 - 1 = (k.toNat : Int) := by omega
    rw [e]
    exact atI_nat (map_int_get gk)
  refine ⟨_, rfl, r, _, 0, _, rfl, rfl, SqL.of g1, i0 _ _ _, _, rfl, r, _, 1, _, rfl, rfl, SqL.of g1, i1 _ _ _, _, _, rfl, rfl, sc, _, _, _, rfl, rfl, hs1, ak, ?_⟩
  refine ⟨_, rfl, r, _, 2, _, rfl, rfl, SqL.of g1, i2 _ _ _, _, _, rfl, rfl, .inr (by decide), _, rfl, _, _, rfl, rfl, _, _, rfl, rfl, .inl ⟨_, rfl, _, _, rfl, rfl, (by show (0 : Int) < 2147483647; decide), _, rfl, r, _, 2, 2, rfl, rfl, g1, rfl, ?_⟩⟩
  have b2 : But r H (upd H1 r (rowO sc (k + 1) ((z * 48271 + x + 11) % 2147483647) rest)) := b1.trans but_upd
  have g2 : (upd H1 r (rowO sc (k + 1) ((z * 48271 + x + 11) % 2147483647) rest)) r = some (rowO sc (k + 1) ((z * 48271 + x + 11) % 2147483647) rest) := upd_same
  have e2 : upd H1 r (.lst ([V.ref sc, .int (k + 1), .int z, .int rest].set 2 (.int ((z * 48271 + x + 11) % 2147483647)))) = upd H1 r (rowO sc (k + 1) ((z * 48271 + x + 11) % 2147483647) rest) := rfl
  rw [e2]
  generalize (z * 48271 + x + 11) % 2147483647 = z2 at b2 g2
  generalize upd H1 r (rowO sc (k + 1) z2 rest) = H2 at b2 g2
  refine ⟨_, rfl, _, _, rfl, rfl, ⟨by decide, by decide, by decide⟩, _, _, rfl, rfl, _, rfl, ?_⟩
  refine ite2 (fun c => ?_) (fun c => ?_)
  · refine ⟨_, rfl, _, rfl, _, _, rfl, rfl, ⟨j0, by omega⟩, _, rfl, r, _, 3, 3, rfl, rfl, g2, rfl, ?_⟩
    refine ⟨_, rfl, .inl ⟨_, rfl, _, rfl, _, _, rfl, rfl, j0, ?_⟩⟩
    exact q _ _ (b2.trans but_upd) ⟨k + 1, z2, x / j, upd_same, by omega⟩ (m0 _) (m1 _)
  · refine ⟨_, rfl, .inl ⟨_, rfl, _, rfl, _, _, rfl, rfl, j0, ?_⟩⟩
    exact q _ _ b2 ⟨_, _, _, g2, by omega⟩ (m0 _) (m1 _)
end
end ST

/-! LNet -/
/-! law's lot and law's net. -/
namespace ST
open Classical
open PySem PySem.Spec PyProof.Rows L2 SM
/-! ### the joined pairs -/
def Jo (m : Int) (i : Nat) (kvs : List (List Key × V)) : Prop := ∃ nss : List (List Int), kvs.map (·.1) = nss.map keyI ∧ nss.Nodup ∧ (∀ ns ∈ nss, ∃ a b : Int, ns = [a, b] ∧ 0 ≤ a ∧ a < b ∧ b < m) ∧ nss.length ≤ i
theorem jo_nil (m : Int) : Jo m 0 [] := ⟨[], rfl, List.nodup_nil, fun ns h => (by cases h), Nat.le_refl _⟩
theorem Jo.mono {m : Int} {i j : Nat} {kvs : List (List Key × V)} (h : Jo m i kvs) (l : i ≤ j) : Jo m j kvs := by
  obtain ⟨nss, h1, h2, h3, h4⟩ := h
  exact ⟨nss, h1, h2, h3, by omega⟩
theorem Jo.len {m : Int} {i : Nat} {kvs : List (List Key × V)} (h : Jo m i kvs) : kvs.length ≤ i := by
  obtain ⟨nss, h1, _, _, h4⟩ := h
  have := congrArg List.length h1
  rw [List.length_map, List.length_map] at this
  omega
theorem Jo.put {m : Int} {i : Nat} {kvs : List (List Key × V)} {a b : Int} {v : V} (h : Jo m i kvs) (h0 : 0 ≤ a) (hab : a < b) (hb : b < m) : Jo m (i + 1) (putK kvs (keyI [a, b]) v) := by
  obtain ⟨nss, h1, h2, h3, h4⟩ := h
  cases e : valV kvs (keyI [a, b]) with
  | some u => exact ⟨nss, by rw [putK_fst e, h1], h2, h3, by omega⟩
  | none =>
    refine ⟨nss ++ [[a, b]], ?_, ?_, fun ns hns => ?_, by rw [List.length_append]; show nss.length + 1 ≤ _; omega⟩
    · rw [putK_new v e, List.map_append, h1, List.map_append]
      rfl
    · refine List.nodup_append.mpr ⟨h2, by simp, fun x hx y hy z => ?_⟩
      have hy : y = [a, b] := by simpa using hy
      subst hy
      subst z
      have hin : keyI [a, b] ∈ kvs.map (·.1) := by rw [h1]; exact List.mem_map.mpr ⟨_, hx, rfl⟩
      obtain ⟨kv, hkv, ek⟩ := List.mem_map.mp hin
      have hs : (valV kvs (keyI [a, b])).isSome = true := by
        rw [← valV_any, List.any_eq_true]
        exact ⟨kv, hkv, decide_eq_true ek⟩
      rw [e] at hs
      cases hs
    · rcases List.mem_append.mp hns with hns | hns
      · exact h3 ns hns
      · have : ns = [a, b] := by simpa using hns
        exact ⟨a, b, this, h0, hab, hb⟩
theorem RowSh.same {H H' : Hp} {r sc : Addr} (h : RowSh H r sc) (s : Same H H') : RowSh H' r sc := by
  obtain ⟨k, z, rest, h1, h0⟩ := h
  exact ⟨k, z, rest, s _ _ h1, h0⟩
theorem RowSh.but {H H' : Hp} {r sc d : Addr} (h : RowSh H r sc) (s : But d H H') (n : d ≠ r) : RowSh H' r sc := by
  obtain ⟨k, z, rest, h1, h0⟩ := h
  exact ⟨k, z, rest, s _ _ (Ne.symm n) h1, h0⟩
theorem RowSh.ne {H : Hp} {r sc d : Addr} (h : RowSh H r sc) (hd : H d = none) : d ≠ r := fun z => by
  obtain ⟨k, y, rest, h1, h0⟩ := h
  rw [← z, hd] at h1
  cases h1
theorem But.over {r d : Addr} {H0 H H' : Hp} (a : But r H0 H) (n : H0 d = none) (b : But d H H') : But r H0 H' := fun x o hx h => b x o (ne_of_none h n) (a x o hx h)
theorem jo_dput {tK : TE} {D : Ends} {σ : L2.St} {H : Hp} {d : Addr} {a b m : Int} {i : Nat} {kvs : List (List Key × V)} (h3 : σ[3]? = some (some (.ref d))) (hd : H d = some (.dT kvs)) (hJ : Jo m i kvs) (hi : i ≤ 100)
    (hK : ∀ Q : VK, (∀ t H', Same H H' → H' t = some (.tup [.int a, .int b]) → Q (.ref t) H') → tK σ H Q) (h0 : 0 ≤ a) (hab : a < b) (hb : b < m) (q : ∀ H' kvs', But d H H' → H' d = some (.dT kvs') → Jo m (i + 1) kvs' → D.nx σ H') :
    sDPut (tVar 3) tK (tC (.bl true)) D σ H := by
  refine ⟨_, h3, hK _ fun t H' s ht => ?_⟩
  refine ⟨d, _, rfl, DPut.t (k := keyI [a, b]) (s _ _ hd) (by rw [keyI_V]; exact ht) (by have := hJ.len; exact small_lst (by omega)), ?_⟩
  exact q _ _ ((Same.but s).trans but_upd) upd_same (hJ.put h0 hab hb)
section
variable {K : PySem.W.Frag} {σ : L2.St} {H : Hp} {Q : VK} {r sc : Addr} {ns : List Int}
theorem draw_if {mn : Int} (h0 : σ[0]? = some (some (.ref r))) (h2 : σ[2]? = some (some (.int mn))) (m0 : 1 ≤ mn) (m1 : mn ≤ 6) (hR : RowSh H r sc) (hS : Scr K H r sc ns) (q : ∀ H' k, But r H H' → RowSh H' r sc → 0 ≤ k → k < mn → Q (.int k) H') :
    tIf (tTest (tOp (rI0 fun i j => .bl (decide (j < i))) (tVar 2) (tC (.int 2)))) (tCall (spTaken K) [] E0 (tCons (tVar 0) (tCons (tVar 2) tNil))) (tC (.int 0)) σ H Q := by
  refine ⟨_, h2, _, _, rfl, rfl, _, rfl, ?_⟩
  refine ite2 (fun c => ?_) (fun c => ?_)
  · exact ⟨_, h0, _, h2, r, sc, ns, mn, rfl, by omega, by omega, hR, hS, fun H' v s' hR' v0 v1 => q H' v s' hR' v0 v1⟩
  · exact q H 0 (But.refl r H) hR (by omega) (by omega)
theorem draw_other {p : Int} (h0 : σ[0]? = some (some (.ref r))) (h4 : σ[4]? = some (some (.int p))) (m0 : 1 ≤ p) (m1 : p ≤ 6) (hR : RowSh H r sc) (hS : Scr K H r sc ns) (q : ∀ H' k, But r H H' → RowSh H' r sc → 0 ≤ k → k < p → Q (.int k) H') :
    tIf (tTest (tOp rEq (tCall (spTaken K) [] E0 (tCons (tVar 0) (tCons (tC (.int 2)) tNil))) (tC (.int 0)))) (tOp (rI0 fun i j => .int (i - j)) (tVar 4) (tC (.int 1))) (tCall (spTaken K) [] E0 (tCons (tVar 0) (tCons (tVar 4) tNil))) σ H Q := by
  refine ⟨_, h0, r, sc, ns, 2, rfl, by decide, by decide, hR, hS, fun H1 v s1 hR1 v0 v1 => ⟨rfl, _, rfl, ?_⟩⟩
  refine ite2 (fun c => ?_) (fun c => ?_)
  · exact ⟨_, h4, _, _, rfl, rfl, q H1 _ s1 hR1 (by omega) (by omega)⟩
  · exact ⟨_, h0, _, h4, r, sc, ns, p, rfl, by omega, by omega, hR1, hS.but s1, fun H' v s' hR' v0 v1 => q H' v (s1.trans s') hR' v0 v1⟩
end
section
variable {P : Program} {w : World} {K : PySem.W.Frag} {mg : Str → Option Value} {base : Heap}
def spLot (K : PySem.W.Frag) : Sp := fun vs H Q _ => ∃ (r sc : Addr) (ns : List Int) (n : Nat), vs = [.ref r, .int n] ∧ n ≤ 6 ∧ RowSh H r sc ∧ Scr K H r sc ns ∧ ∀ H' p l, But r H H' → RowSh H' r sc → IsLot n l → H' p = some (tupO l) → Q (.ref p) H'
theorem ok_l_lot (T : Txt K mg) : FnOk P w K mg base CX0 2 T.d_l_lot.f T.d_l_lot.fd p_l_lot (spLot K) := by
  refine T.d_l_lot.F.ok sc_l_lot (fun vs H Q E h => ?_) (fun cdv A outer s H vs Q E hr h => ?_)
  · obtain ⟨r, sc, ns, n, rfl, _⟩ := h
    rfl
  obtain ⟨r, sc, ns, n, rfl, hn, hR, hS, q⟩ := h
  have nd := sc_l_lot.nd
  refine ⟨_, pss_one (ps_ret (pe_callTy call_tuple_of (by rfl) T.z_tuple bt_tuple (pa_cons (pe_lc (own := [("_law_point", 2)]) rfl nd (pi_range1 (by rfl) T.z_range (pa_cons (pv 1) pa_nil)) (blkOk_by (own := [("_law_point", 2)]) (N := n_l_lot) (sc := defScope s_l_lot) (by decide +kernel))
      (fun _ _ _ _ _ => pg_name (i := 2) nd rfl (Or.inl rfl))
      (fun _ _ _ _ _ => pts_one (pt_cmpR op_eq (pe_call (ok_l_taken T) hr (by rfl) T.d_l_taken.g T.d_l_taken.F.kp T.d_l_taken.b .nil pass0 (pa_cons (pv 0) (pa_cons pe_int pa_nil))) pe_int (by rfl)))
      (fun _ _ _ _ _ => pv 2)) pa_nil))), ?_⟩
  refine ⟨_, rfl, n, rfl, by omega, by omega, fun D hD => ?_⟩
  have en : ((n : Int)).toNat = n := by omega
  rw [en]
  have nDr : D ≠ r := fun z => by
    obtain ⟨k, s, rest, h, _⟩ := hR
    rw [← z, hD] at h
    cases h
  refine lc_range (lo := 0) (n := n) (fun i H' => But r H H' ∧ RowSh H' r sc ∧ ∃ l, IsLot i l ∧ H' D = some (lstO l)) ⟨but_new (But.refl r H) hD, ?_, [], isLot_nil 0, upd_same⟩ (fun i H' hi ⟨sB, hR', l, hl, hD'⟩ => ?_) fun H' ⟨sB, hR', l, hl, hD'⟩ => ?_
  · obtain ⟨k, s, rest, h, h0⟩ := hR
    exact ⟨k, s, rest, by rw [upd_ne (Ne.symm nDr)]; exact h, h0⟩
  · have ei : (0 : Int) + (i : Int) = (i : Int) := by omega
    rw [ei]
    refine ⟨rfl, ⟨_, rfl, r, sc, ns, 2, rfl, by decide, by decide, hR', hS.but sB, fun H4 v s4 hR4 v0 v1 => ⟨rfl, _, rfl, ?_⟩⟩⟩
    have hD4 := s4 _ _ nDr hD'
    refine ite2 (fun c => ?_) (fun c => ?_)
    · have hll := hl.len
      refine ⟨_, rfl, _, hD4, by rw [List.length_map]; exact small_lst (by omega), but_new (sB.trans s4) hD, ?_, l ++ [(i : Int)], ⟨asc_snoc hl.asc fun x hx => (hl.rng x hx).2, fun x hx => ?_⟩, ?_⟩
      · obtain ⟨k, s, rest, h, h0⟩ := hR4
        exact ⟨k, s, rest, by rw [upd_ne (Ne.symm nDr)]; exact h, h0⟩
      · rcases List.mem_append.mp hx with hx | hx
        · have := hl.rng x hx
          omega
        · have : x = (i : Int) := by simpa using hx
          omega
      · rw [upd_same, lst_snoc_int]
        rfl
    · exact ⟨sB.trans s4, hR4, l, ⟨hl.asc, fun x hx => by have := hl.rng x hx; omega⟩, hD4⟩
  · refine ⟨D, _, rfl, .inl ⟨SqL.of hD', fun u hu => ?_⟩⟩
    refine q _ u l (fun b o n hb => ?_) ?_ hl upd_same
    · have hb' := sB b o n hb
      rw [upd_ne (ne_of_none hb' hu)]
      exact hb'
    · obtain ⟨k, s, rest, h, h0⟩ := hR'
      exact ⟨k, s, rest, by rw [upd_ne (ne_of_none h hu)]; exact h, h0⟩
def spNetL (K : PySem.W.Frag) : Sp := fun vs H Q _ => ∃ (r sc : Addr) (ns : List Int), vs = [.ref r, .int 6] ∧ RowSh H r sc ∧ Scr K H r sc ns ∧ ∀ H' p n E, But r H H' → RowSh H' r sc → NetAt H' p n E → NetV n E → Q (.ref p) H'
theorem ok_l_net (T : Txt K mg) : FnOk P w K mg base CX0 2 T.d_l_net.f T.d_l_net.fd p_l_net (spNetL K) := by
  refine T.d_l_net.F.ok sc_l_net (fun vs H Q E h => ?_) (fun cdv A outer s H vs Q E hr h => ?_)
  · obtain ⟨r, sc, ns, rfl, _⟩ := h
    rfl
  obtain ⟨r, sc, ns, rfl, hR, hS, q⟩ := h
  have nd := sc_l_net.nd
  have hu64 := hr.units
  have hu := hu_of hr
  refine ⟨_, pss_cons (ps_par (i := 2) (j := 3) rfl nd rfl rfl (by decide) rfl rfl (pa_cons (pe_op op_add pe_int (pe_call (ok_l_taken T) hr (by rfl) T.d_l_taken.g T.d_l_taken.F.kp T.d_l_taken.b .nil pass0 (pa_cons (pv 0) (pa_cons (pv 1) pa_nil)))) (pa_cons pe_dnewT pa_nil)) (by rfl))
    (pss_cons (ps_for PassesOwn.never rfl (pi_range2 (by rfl) T.z_range (pa_cons pe_int (pa_cons (pv 2) pa_nil))) (pg_name (i := 4) nd rfl (.inl rfl))
      (pss_one (ps_if (pt_cmpR op_gt (pe_call (ok_l_taken T) hr (by rfl) T.d_l_taken.g T.d_l_taken.F.kp T.d_l_taken.b .nil pass0 (pa_cons (pv 0) (pa_cons pe_int pa_nil))) pe_int (nomark _))
        (pss_cons (ps_set (i := 5) nd rfl (.inl rfl) (pe_ifExp (pt_cmpR op_eq (pe_call (ok_l_taken T) hr (by rfl) T.d_l_taken.g T.d_l_taken.F.kp T.d_l_taken.b .nil pass0 (pa_cons (pv 0) (pa_cons pe_int pa_nil))) pe_int (nomark _)) (pe_op op_sub (pv 4) pe_int) (pe_call (ok_l_taken T) hr (by rfl) T.d_l_taken.g T.d_l_taken.F.kp T.d_l_taken.b .nil pass0 (pa_cons (pv 0) (pa_cons (pv 4) pa_nil)))))
        (pss_one (ps_dput hu (pv 3) (pe_tup (pa_cons (pv 5) (pa_cons (pv 4) pa_nil))) pe_bl rfl))) pss_nil)))
    (pss_cons (ps_for PassesOwn.never rfl (pi_range1 (by rfl) T.z_range (pa_cons (pe_ifExp (pt_cmpR op_gt (pv 2) pe_int (nomark _)) (pe_call (ok_l_taken T) hr (by rfl) T.d_l_taken.g T.d_l_taken.F.kp T.d_l_taken.b .nil pass0 (pa_cons (pv 0) (pa_cons (pv 2) pa_nil))) pe_int) pa_nil)) (pg_name (i := 6) nd rfl (.inl rfl))
      (pss_cons (ps_par (i := 7) (j := 5) rfl nd rfl rfl (by decide) rfl rfl (pa_cons (pe_call (ok_l_taken T) hr (by rfl) T.d_l_taken.g T.d_l_taken.F.kp T.d_l_taken.b .nil pass0 (pa_cons (pv 0) (pa_cons (pv 2) pa_nil))) (pa_cons (pe_call (ok_l_taken T) hr (by rfl) T.d_l_taken.g T.d_l_taken.F.kp T.d_l_taken.b .nil pass0 (pa_cons (pv 0) (pa_cons (pv 2) pa_nil))) pa_nil)) (by rfl))
      (pss_one (ps_if (pt_cmpR op_ne (pv 7) (pv 5) (nomark _))
        (pss_one (ps_dput hu (pv 3) (pe_tup (pa_cons (pe_callB (call_min2 rfl) (by rfl) T.z_min bt_min (pa_cons (pv 7) (pa_cons (pv 5) pa_nil))) (pa_cons (pe_callB (call_max2 rfl) (by rfl) T.z_max bt_max (pa_cons (pv 7) (pa_cons (pv 5) pa_nil))) pa_nil))) pe_bl rfl)) pss_nil))))
    (pss_one (ps_ret (pe_tup (pa_cons (pv 2) (pa_cons (pe_callTy call_tuple_of (by rfl) T.z_tuple bt_tuple (pa_cons (pe_callB (cr_sortedTD rfl hu64) (by rfl) T.z_sorted bt_sorted (pa_cons (pv 3) pa_nil)) pa_nil)) pa_nil))))))), ?_⟩
  refine ⟨_, rfl, _, rfl, r, sc, ns, 6, rfl, by decide, by decide, hR, hS, fun H1 v s1 hR1 v0 v1 => ?_⟩
  refine ⟨_, _, rfl, rfl, fun d hd => ⟨_, _, rfl, ?_⟩⟩
  have hd0 : H d = none := by
    cases e : H d with
    | none => rfl
    | some o =>
      by_cases c : d = r
      · exact absurd c (hR1.ne hd)
      · rw [s1 _ _ c e] at hd
        cases hd
  have ndr := hR1.ne hd
  refine ⟨_, rfl, _, _, rfl, ⟨by decide, by decide, by omega, by omega⟩, ?_⟩
  have en1 : (1 + v - 1).toNat = v.toNat := by omega
  rw [en1]
  have Jd : ∀ {i j : Nat} {kvs}, Jo (1 + v) i kvs → i = j → Jo (1 + v) j kvs := fun h e => e ▸ h
  refine for_range (lo := 1) (n := v.toNat) (fun i σ H' => ∃ (y4 y5 : Option V) (kvs : List (List Key × V)), σ = [some (.ref r), some (.int 6), some (.int (1 + v)), some (.ref d), y4, y5, none, none] ∧ But r H H' ∧ RowSh H' r sc ∧ H' d = some (.dT kvs) ∧ Jo (1 + v) i kvs) ?_ ?_ ?_
  · exact ⟨none, none, [], rfl, but_new s1 hd0, hR1.same (same_new hd), upd_same, jo_nil _⟩
  · rintro i σ H' hi ⟨y4, y5, kvs, rfl, sB, hR', hd', hJ⟩
    refine ⟨_, rfl, r, sc, ns, 8, rfl, by decide, by decide, hR', hS.but sB, fun H4 t s4 hR4 t0 t1 => ⟨_, _, rfl, rfl, _, rfl, ?_⟩⟩
    have hd4 := s4 _ _ ndr hd'
    refine ite2 (fun c => ?_) (fun c => ?_)
    · refine draw_other (sc := sc) (ns := ns) (p := 1 + (i : Int)) rfl rfl (by omega) (by omega) hR4 (hS.but (sB.trans s4)) fun H5 o s5 hR5 o0 o1 => ?_
      dsimp only [gName]
      refine jo_dput (d := d) (a := o) (b := 1 + (i : Int)) rfl (s5 _ _ ndr hd4) hJ (by omega) (fun Q q => ?_) o0 o1 (by omega) fun H6 kvs' s6 hd6 hJ6 => ?_
      · exact ⟨_, rfl, _, rfl, (by show 2 ≤ sizeLine; decide), fun t ht => q _ _ (same_new ht) upd_same⟩
      · exact ⟨_, _, kvs', rfl, (sB.trans (s4.trans s5)).over hd0 s6, hR5.but s6 ndr, hd6, hJ6⟩
    · exact ⟨_, _, kvs, rfl, sB.trans s4, hR4, hd4, hJ.mono (Nat.le_succ i)⟩
  rintro σ H' ⟨y4, y5, kvs, rfl, sB, hR', hd', hJ⟩
  refine draw_if (sc := sc) (ns := ns) (mn := 1 + v) rfl rfl (by omega) (by omega) hR' (hS.but sB) fun H2 k s2 hR2 k0 k1 => ?_
  refine ⟨k, rfl, by omega, by omega, ?_⟩
  refine for_range (lo := 0) (n := k.toNat) (fun i σ H' => ∃ (y5 y6 y7 : Option V) (kvs : List (List Key × V)), σ = [some (.ref r), some (.int 6), some (.int (1 + v)), some (.ref d), y4, y5, y6, y7] ∧ But r H H' ∧ RowSh H' r sc ∧ H' d = some (.dT kvs) ∧ Jo (1 + v) (v.toNat + i) kvs) ?_ ?_ ?_
  · exact ⟨y5, none, none, kvs, rfl, sB.trans s2, hR2, s2 _ _ ndr hd', hJ⟩
  · rintro i σ H' hi ⟨y5, y6, y7, kvs, rfl, sB, hR', hd', hJ⟩
    refine ⟨_, rfl, _, rfl, r, sc, ns, 1 + v, rfl, by omega, by omega, hR', hS.but sB, fun H4 x s4 hR4 x0 x1 => ?_⟩
    refine ⟨_, rfl, _, rfl, r, sc, ns, 1 + v, rfl, by omega, by omega, hR4, hS.but (sB.trans s4), fun H5 y s5 hR5 y0 y1 => ⟨_, _, rfl, ?_⟩⟩
    have hd5 := s5 _ _ ndr (s4 _ _ ndr hd')
    have sB5 := sB.trans (s4.trans s5)
    refine ⟨_, rfl, _, rfl, rfl, _, rfl, ?_⟩
    refine ite2 (fun c => ?_) (fun c => ?_)
    · have hne : x ≠ y := fun z => by
        subst z
        simp at c
      refine jo_dput (d := d) (a := if y < x then y else x) (b := if y > x then y else x) rfl hd5 hJ (by omega) (fun Q q => ?_) (by split <;> omega) (by split <;> split <;> omega) (by split <;> omega) fun H6 kvs' s6 hd6 hJ6 => ?_
      · exact ⟨_, rfl, _, rfl, x, y, rfl, _, rfl, _, rfl, x, y, rfl, (by show 2 ≤ sizeLine; decide), fun t ht => q _ _ (same_new ht) upd_same⟩
      · exact ⟨_, _, _, kvs', rfl, sB5.over hd0 s6, hR5.but s6 ndr, hd6, Jd hJ6 (by omega)⟩
    · exact ⟨_, _, _, kvs, rfl, sB5, hR5, hd5, hJ.mono (by omega)⟩
  rintro σ H' ⟨y5, y6, y7, kvs, rfl, sB, hR', hd', ⟨nss, j1, j2, j3, j4⟩⟩
  refine ⟨_, rfl, _, rfl, d, kvs, nss, rfl, .inl hd', j1, fun z hz => ?_, by omega, fun qs p hq hpm hpw hp => ?_⟩
  · obtain ⟨a, b, rfl, _⟩ := j3 z hz
    intro z
    cases z
  refine ⟨p, _, rfl, .inl ⟨SqL.of upd_same, fun u hu => ⟨(by show 2 ≤ sizeLine; decide), fun t ht => ?_⟩⟩⟩
  have sp : Same H' (upd H' p (.lst (qs.map fun q => V.ref q.1))) := same_new hp
  have su := same_more sp (o := .tup (qs.map fun q => V.ref q.1)) hu
  have st := same_more su (o := .tup [.int (1 + v), .ref u]) ht
  obtain ⟨n, hn⟩ : ∃ n : Nat, (1 : Int) + v = n := ⟨(1 + v).toNat, by omega⟩
  have shape : ∀ q ∈ qs, ∃ a b : Int, q.2 = [a, b] ∧ 0 ≤ a ∧ a < b ∧ b < (n : Int) := fun q hq2 => by
    have : q.2 ∈ nss := hpm.mem_iff.mp (List.mem_map.mpr ⟨q, hq2, rfl⟩)
    obtain ⟨a, b, e, h0, hab, hb⟩ := j3 _ this
    exact ⟨a, b, e, h0, hab, by omega⟩
  refine q _ t n (qs.map fun q => (q.2.getD 0 0, q.2.getD 1 0)) (fun b o hb ho => st _ _ (sB b o hb ho)) (hR'.same st) ?_ ?_
  · refine ⟨u, qs.map (·.1), by rw [upd_same, hn], ?_, by rw [List.length_map, List.length_map], fun i a p ha hp2 => ?_⟩
    · have h := (same_new (o := .tup [.int (1 + v), .ref u]) ht) u _ upd_same
      rw [h, List.map_map]
      rfl
    · rw [List.getElem?_map] at ha hp2
      cases e : qs[i]? with
      | none => rw [e] at ha; cases ha
      | some q =>
        rw [e] at ha hp2
        have ea : q.1 = a := Option.some.inj ha
        have ep : (q.2.getD 0 0, q.2.getD 1 0) = p := Option.some.inj hp2
        have hmem := List.mem_of_getElem? e
        obtain ⟨x, y, e2, _⟩ := shape q hmem
        have h := st _ _ (hq q hmem)
        rw [ea, e2] at h
        rw [← ep, e2]
        exact h
  · refine ⟨by omega, by omega, fun p hp2 => ?_, ?_, ?_⟩
    · obtain ⟨q, hq2, rfl⟩ := List.mem_map.mp hp2
      obtain ⟨x, y, e2, h⟩ := shape q hq2
      rw [e2]
      exact h
    · have ndq : (qs.map (·.2)).Nodup := hpm.nodup_iff.mpr j2
      have both := List.Pairwise.and hpw ndq
      rw [List.pairwise_map] at both ⊢
      refine List.Pairwise.imp_of_mem (fun {a b} ha hb hab => ?_) both
      obtain ⟨x, y, e2, _⟩ := shape a ha
      obtain ⟨x', y', e3, _⟩ := shape b hb
      rw [e2, e3] at hab ⊢
      exact (lexlt_or _ _ hab.1).elim id fun z => absurd z hab.2
    · rw [List.length_map]
      have := hpm.length_eq
      rw [List.length_map] at this
      omega
end
end ST

/-! LPart -/
/-! law's joined part, law's lots. -/
namespace ST
open Classical
open PySem PySem.Spec PyProof.Rows L2 SM
section
variable {P : Program} {w : World} {K : PySem.W.Frag} {mg : Str → Option Value} {base : Heap}
def spPartL : Sp := fun vs H Q _ => ∃ (a b : Addr) (n : Nat) (L : List (List Int)) (st : Int) (ks : List Int), vs = [.ref a, .ref b, .int st] ∧ Seqs lstO H a L ∧ Near n L ∧ n ≤ 12 ∧ 0 ≤ st ∧ st < (n : Int) ∧
  H b = some (tupO ks) ∧ ∀ H' p, Same H H' → H' p = some (tupO (comp n L (fun x => x ∈ ks) st)) → Q (.ref p) H'
theorem ok_l_part (T : Txt K mg) : FnOk P w K mg base CX0 1 T.d_l_part.f T.d_l_part.fd p_l_part spPartL := by
  refine T.d_l_part.F.ok sc_l_part (fun vs H Q E h => ?_) (fun cdv A outer s H vs Q E hr h => ?_)
  · obtain ⟨a, b, n, L, st, ks, rfl, _⟩ := h
    rfl
  obtain ⟨a, b, n, L, st, ks, rfl, hS, hN, hn, h0, h1, hb, q⟩ := h
  have hu64 := hr.units
  have nd := sc_l_part.nd
  refine ⟨_, pss_cons (ps_asg (pe_tup (pa_cons (pe_lst (pa_cons (pv 2) pa_nil)) (pa_cons (pe_lst (pa_cons (pv 2) pa_nil)) pa_nil))) (pg_tup rfl (pgs_cons (pg_name (i := 3) nd rfl (.inr rfl)) (pgs_cons (pg_name (i := 4) nd rfl (.inl rfl)) pgs_nil))))
    (pss_cons (ps_for PassesOwn.never rfl (pi_range1 (by rfl) T.z_range (pa_cons pe_int pa_nil)) (pg_name (i := 5) nd rfl (.inl rfl))
      (pss_cons (ps_if (pt_cmpR (op_eqD hu64) (pv 4) (pe_lst pa_nil) (nomark _)) (pss_one ps_break) pss_nil)
      (pss_cons (ps_set (i := 6) nd rfl (.inl rfl) (pe_bm0 PySem.F.plainAttrs_list PySem.F.slot_list_pop PySem.F.type_list_pop mt_pop (pv 4)))
      (pss_cons (ps_setLc (i := 7) (own := [("_law_point", 8)]) (g := gName 8) rfl nd rfl rfl (sw_true rfl rfl rfl (by decide +kernel)) (pi_list (pe_ix ix_list (pv 0) (pv 6) (fun _ _ => rfl))) (blkOk_by (own := [("_law_point", 8)]) (N := n_l_part) (sc := defScope s_l_part) (by decide +kernel))
          (fun _ _ _ _ _ => pg_name (i := 8) nd rfl (Or.inl rfl))
          (fun _ _ _ _ _ => pts_one (PW.pt (pw_and (pt_cmpR (opIn K) (pv 8) (pv 1) (by rfl)) (pw_and1 (pt_cmpR (opNotIn K) (pv 8) (pv 3) (by rfl))))))
          (fun _ _ _ _ _ => pv 8))
      (pss_one (ps_asg (pe_tup (pa_cons (pe_op op_cat (pv 3) (pv 7)) (pa_cons (pe_op op_cat (pv 4) (pv 7)) pa_nil))) (pg_tup rfl (pgs_cons (pg_name (i := 3) nd rfl (.inr rfl)) (pgs_cons (pg_name (i := 4) nd rfl (.inl rfl)) pgs_nil)))))))))
    (pss_one (ps_ret (pe_callTy call_tuple_of (by rfl) T.z_tuple bt_tuple (pa_cons (pe_callB (cr_sortedIT hu64) (by rfl) T.z_sorted bt_sorted (pa_cons (pv 3) pa_nil)) pa_nil))))), ?_⟩
  refine ⟨_, rfl, (by show 1 ≤ sizeLine; decide), fun fd hfd => ⟨_, rfl, (by show 1 ≤ sizeLine; decide), fun rm hrm => ⟨(by show 2 ≤ sizeLine; decide), fun t ht => ?_⟩⟩⟩
  have hf1 : (upd H fd (.lst [.int st])) fd = some (lstO [st]) := upd_same
  have sf : Same H (upd H fd (.lst [.int st])) := same_new hfd
  generalize upd H fd (.lst [.int st]) = H1 at hf1 sf hrm ht
  have nfr : fd ≠ rm := ne_of_none hf1 hrm
  have hrm0 : H rm = none := sf.free hrm
  have sr : Same H1 (upd H1 rm (.lst [.int st])) := same_new hrm
  have hr1 : (upd H1 rm (.lst [.int st])) rm = some (lstO [st]) := upd_same
  generalize upd H1 rm (.lst [.int st]) = H2 at sr hr1 ht
  have stt : Same H2 (upd H2 t (.tup [.ref fd, .ref rm])) := same_new ht
  refine ⟨t, _, rfl, SqT.of upd_same, rfl, _, _, rfl, _, _, rfl, rfl, 999, rfl, by decide, by decide, ?_⟩
  refine for_range (lo := 0) (n := 999) (fun i σ H' => ∃ (fd rm : Addr) (F R : List Int) (y5 y6 y7 : Option V), σ = [some (.ref a), some (.ref b), some (.int st), some (.ref fd), some (.ref rm), y5, y6, y7, none] ∧ Same H H' ∧ H' fd = some (lstO F) ∧ H' rm = some (lstO R) ∧ fd ≠ rm ∧ H rm = none ∧ Dfs n L (fun x => x ∈ ks) st F R ∧ F.length = R.length + i) ?_ ?_ ?_
  · exact ⟨fd, rm, [st], [st], none, none, none, rfl, (sf.trans sr).trans stt, stt _ _ (sr _ _ hf1), stt _ _ hr1, nfr, hrm0, Dfs.init h0 h1, rfl⟩
  · rintro i σ H' hi ⟨fd, rm, F, R, y5, y6, y7, rfl, sm, hF, hR, nfr, hrm0, hD, hFR⟩
    have hFl := hD.len
    refine ⟨_, rfl, Nat.zero_le _, fun e he => ⟨.list (R.map PyData.int), .list [], .lst (SqL.of (by rw [upd_ne (ne_of_none hR he)]; exact hR)) (dp_ints R), .lst (SqL.of upd_same) .nil, shaped_ints R, shaped_ints [], _, rfl, ?_⟩⟩
    have sm1 : Same H (upd H' e (.lst [])) := same_more sm he
    have hF1 : (upd H' e (.lst [])) fd = some (lstO F) := by rw [upd_ne (ne_of_none hF he)]; exact hF
    have hR1 : (upd H' e (.lst [])) rm = some (lstO R) := by rw [upd_ne (ne_of_none hR he)]; exact hR
    generalize upd H' e (.lst []) = H1 at sm1 hF1 hR1
    rw [eqv_nil]
    refine ite2 (fun c => ?_) (fun c => ?_)
    · have hnil : R = [] := by simpa using c
      subst hnil
      refine ⟨_, rfl, fd, F, rfl, .inl (SqL.of hF1), by omega, fun ys p hp hs hpn => ?_⟩
      refine ⟨p, _, rfl, .inl ⟨SqL.of upd_same, fun l hl => ?_⟩⟩
      refine q _ l (same_more (same_more sm1 hpn) hl) ?_
      rw [upd_same, hD.sorted hp hs]
      rfl
    · have hne : R ≠ [] := by simpa using c
      obtain ⟨R0, z, rfl⟩ := last_or hne
      have hz := hD.rng z (hD.sub z (by simp))
      refine ⟨_, rfl, .inl ⟨rfl, _, SqL.of hR1⟩, rm, _, _, rfl, rfl, hR1, pop_at R0 z, ?_⟩
      rw [pop_rest]
      have sm2 : Same H (upd H1 rm (.lst (R0.map V.int))) := same_upd sm1 hrm0
      have hF2 : (upd H1 rm (.lst (R0.map V.int))) fd = some (lstO F) := by rw [upd_ne nfr]; exact hF1
      have hR2 : (upd H1 rm (.lst (R0.map V.int))) rm = some (lstO R0) := upd_same
      generalize upd H1 rm (.lst (R0.map V.int)) = H2 at sm2 hF2 hR2
      obtain ⟨as, hal, hE⟩ := hS.same sm2
      obtain ⟨ah, hah, hlh⟩ := hE.get (near_get hN hz.1 hz.2)
      refine ⟨_, rfl, _, rfl, a, _, z, _, rfl, rfl, SqL.of hal, ?_, ah, rfl, ⟨_, SqL.of hlh⟩, fun D hDD => ?_⟩
      · have e : z = (z.toNat : Int) := by omega
        rw [e]
        exact atI_nat (map_ref_get hah)
      have ndn := hN.nb_nd z
      have hnb : (nb L z).length ≤ n := nodup_len ndn fun u hu => hN.nb_rng hu
      refine lcs_list (K := K) (a := ah) (xs := (nb L z).map V.int) (fun i => (((nb L z).take i).filter fun y => decide (y ∈ ks ∧ y ∉ F)).map V.int) hDD rfl (SqL.of hlh) (fun i hi => ?_) (fun i x H3 RR RR' hx s3 kR kR' => ?_) fun H3 s3 hl3 => ?_
      · rw [List.length_map]
        refine Nat.le_trans (List.length_filter_le _ _) ?_
        rw [List.length_take]
        omega
      · obtain ⟨y, hy, rfl⟩ := of_map_int hx
        refine ⟨rfl, ⟨_, rfl, _, rfl, b, _, rfl, .inr (SqT.of (s3 _ _ (sm2 _ _ hb))), rfl, flat_ints ks, _, rfl, ?_⟩⟩
        show if (inV (V.int y) (ks.map V.int)) = true then _ else _
        rw [inV_ints]
        have ey : (((nb L z).take (i + 1)).filter fun y => decide (y ∈ ks ∧ y ∉ F)).map V.int = (((nb L z).take i).filter fun y => decide (y ∈ ks ∧ y ∉ F)).map V.int ++ (([y] : List Int).filter fun y => decide (y ∈ ks ∧ y ∉ F)).map V.int := by
          rw [take_more hy, List.filter_append, List.map_append]
        by_cases c1 : y ∈ ks
        · rw [decide_eq_true c1]
          refine ⟨_, rfl, _, rfl, fd, _, rfl, .inl (SqL.of (s3 _ _ hF2)), rfl, flat_ints F, _, rfl, ?_⟩
          show if (!inV (V.int y) (F.map V.int)) = true then _ else _
          rw [inV_ints]
          by_cases c2 : y ∈ F
          · rw [decide_eq_true c2]
            refine iteF (kR' _ (Same.refl _) ?_)
            show (((nb L z).take (i + 1)).filter _).map V.int = _
            rw [ey, filt_neg (decide_eq_false fun w => w.2 c2)]
            exact List.append_nil _
          · rw [decide_eq_false c2]
            refine iteT ⟨_, rfl, kR _ _ (Same.refl _) ?_⟩
            show (((nb L z).take (i + 1)).filter _).map V.int = _
            rw [ey, filt_pos (decide_eq_true ⟨c1, c2⟩)]
            rfl
        · rw [decide_eq_false c1]
          refine iteF (kR' _ (Same.refl _) ?_)
          show (((nb L z).take (i + 1)).filter _).map V.int = _
          rw [ey, filt_neg (decide_eq_false fun w => c1 w.1)]
          exact List.append_nil _
      · rw [List.length_map, List.take_length] at hl3
        have D2 := hD.step hN
        rw [fresh_is] at D2
        generalize hfr : (nb L z).filter (fun y => decide (y ∈ ks ∧ y ∉ F)) = fr at hl3 D2
        have l2 := D2.len
        rw [List.length_append] at l2
        rw [List.length_append, List.length_singleton] at hFR
        have hF3 := s3 _ _ hF2
        have hR3 := s3 _ _ hR2
        refine ⟨_, rfl, _, rfl, fd, D, _, _, rfl, rfl, hF3, hl3, by rw [List.length_map, List.length_map]; exact small_le (by omega), fun p1 hp1 => ?_⟩
        have sp1 : Same H3 (upd H3 p1 (.lst (F.map V.int ++ fr.map V.int))) := same_new hp1
        have g1 : (upd H3 p1 (.lst (F.map V.int ++ fr.map V.int))) p1 = some (lstO (F ++ fr)) := by rw [upd_same, ← List.map_append]; rfl
        generalize upd H3 p1 (.lst (F.map V.int ++ fr.map V.int)) = H4 at sp1 g1
        refine ⟨_, rfl, _, rfl, rm, D, _, _, rfl, rfl, sp1 _ _ hR3, sp1 _ _ hl3, by rw [List.length_map, List.length_map]; exact small_le (by omega), fun p2 hp2 => ?_⟩
        have sp2 : Same H4 (upd H4 p2 (.lst (R0.map V.int ++ fr.map V.int))) := same_new hp2
        have g2 : (upd H4 p2 (.lst (R0.map V.int ++ fr.map V.int))) p2 = some (lstO (R0 ++ fr)) := by rw [upd_same, ← List.map_append]; rfl
        have hp20 : H p2 = none := (sm2.trans (s3.trans sp1)).free hp2
        generalize upd H4 p2 (.lst (R0.map V.int ++ fr.map V.int)) = H5 at sp2 g2
        have n12 : p1 ≠ p2 := ne_of_none g1 hp2
        refine ⟨(by show 2 ≤ sizeLine; decide), fun t2 ht2 => ⟨t2, _, rfl, SqT.of upd_same, rfl, _, _, rfl, _, _, rfl, rfl, ?_⟩⟩
        have st2 : Same H5 (upd H5 t2 (.tup [.ref p1, .ref p2])) := same_new ht2
        refine ⟨p1, p2, F ++ fr, R0 ++ fr, _, _, _, rfl, ((sm2.trans (s3.trans sp1)).trans sp2).trans st2, st2 _ _ (sp2 _ _ g1), st2 _ _ g2, n12, hp20, D2, ?_⟩
        rw [List.length_append, List.length_append]
        omega
  · rintro σ H' ⟨fd, rm, F, R, y5, y6, y7, rfl, sm, hF, hR, nfr, hrm0, hD, hFR⟩
    have hFl := hD.len
    omega
end
end ST

/-! LSets -/
/-! law's lots, parts, fine. -/
namespace ST
open Classical
open PySem PySem.Spec PyProof.Rows L2 SM
section
variable {P : Program} {w : World} {K : PySem.W.Frag} {mg : Str → Option Value} {base : Heap}
def spPut : Sp := fun vs H Q _ => ∃ (b : Addr) (l : List Int) (p : Int), vs = [.ref b, .int p] ∧ H b = some (tupO l) ∧ Asc l ∧ p ∉ l ∧ l.length ≤ 100 ∧ ∀ H' c, Same H H' → H' c = some (tupO (ins p l)) → Q (.ref c) H'
theorem ok_l_put (T : Txt K mg) : FnOk P w K mg base CX0 1 T.d_l_put.f T.d_l_put.fd p_l_put spPut := by
  refine T.d_l_put.F.ok sc_l_put (fun vs H Q E h => ?_) (fun cdv A outer s H vs Q E hr h => ?_)
  · obtain ⟨b, l, p, rfl, _⟩ := h
    rfl
  obtain ⟨b, l, p, rfl, hb, ha, hp, hl, q⟩ := h
  have hu64 := hr.units
  exact ⟨_, pss_one (ps_ret (pe_put (pv 0) (pv 1) hu64 T.z_tuple T.z_sorted)), b, l, p, rfl, rfl, hb, ha, hp, hl, fun H' c s' hc => q H' c s' hc⟩
def spSets : Sp := fun vs H Q _ => ∃ n : Nat, vs = [.int n] ∧ n ≤ 6 ∧ ∀ H' p, Same H H' → Seqs tupO H' p (sets n) → Q (.ref p) H'
theorem ok_l_sets (T : Txt K mg) : FnOk P w K mg base CX0 1 T.d_l_sets.f T.d_l_sets.fd p_l_sets spSets := by
  refine T.d_l_sets.F.ok sc_l_sets (fun vs H Q E h => ?_) (fun cdv A outer s H vs Q E hr h => ?_)
  · obtain ⟨n, rfl, _⟩ := h
    rfl
  obtain ⟨n, rfl, hn6, q⟩ := h
  have nd := sc_l_sets.nd
  refine ⟨_, pss_cons (ps_set (i := 1) nd rfl (.inl rfl) (pe_lst (pa_cons (pe_tup pa_nil) pa_nil)))
    (pss_cons (ps_for PassesOwn.never rfl (pi_range1 (by rfl) T.z_range (pa_cons (pv 0) pa_nil)) (pg_name (i := 2) nd rfl (.inr rfl))
      (pss_one (ps_set (i := 1) nd rfl (.inl rfl) (pe_op op_cat (pv 1) (pe_lc (own := [("_law_told", 3)]) rfl nd (pi_list (pv 1)) (blkOk_by (own := [("_law_told", 3)]) (N := n_l_sets) (sc := defScope s_l_sets) (by decide +kernel))
        (fun _ _ _ _ _ => pg_name (i := 3) nd rfl (Or.inl rfl)) (fun _ _ _ _ _ => pts_nil) (fun _ _ _ _ _ => pe_op opCatI (pv 3) (pe_tup (pa_cons (pv 2) pa_nil))))))))
    (pss_one (ps_ret (pv 1)))), ?_⟩
  refine ⟨Nat.zero_le _, fun e he => ⟨(by show 1 ≤ sizeLine; decide), fun p hp => ?_⟩⟩
  have se : Same H (upd H e (.tup [])) := same_new he
  have ge : (upd H e (.tup [])) e = some (tupO []) := upd_same
  generalize upd H e (.tup []) = H1 at se ge hp
  have sp : Same H1 (upd H1 p (.lst [.ref e])) := same_new hp
  refine ⟨_, rfl, n, rfl, by omega, by omega, ?_⟩
  have en : ((n : Int)).toNat = n := by omega
  rw [en]
  refine for_range (lo := 0) (n := n) (fun i σ H' => ∃ (fp : Addr) (y2 : Option V), σ = [some (.int n), some (.ref fp), y2, none] ∧ Same H H' ∧ Seqs tupO H' fp (sets i)) ?_ ?_ ?_
  · refine ⟨p, none, rfl, se.trans sp, [e], upd_same, rfl, fun i a l ha hl => ?_⟩
    cases i with
    | zero =>
      have ea : e = a := Option.some.inj ha
      have el : [] = l := Option.some.inj hl
      rw [← ea, ← el]
      exact sp _ _ ge
    | succ i => cases ha
  · rintro i σ H' hi ⟨fp, y2, rfl, sm, hS⟩
    have ei : (0 : Int) + (i : Int) = (i : Int) := by omega
    rw [ei]
    obtain ⟨as, hal, hE⟩ := id hS
    have hlen : as.length = 2 ^ i := by rw [hE.1, sets_len]
    have h64 : 2 ^ i ≤ 64 := pow2_le (by omega)
    refine ⟨_, rfl, _, rfl, fp, rfl, ⟨_, SqL.of hal⟩, fun D hD => ?_⟩
    refine lcn_list (K := K) (k := tupO) (a := fp) (xs := as.map V.ref) (fun j => ((sets i).take j).map fun l => l ++ [(i : Int)]) hD rfl (SqL.of hal) (fun j hj => ?_) (fun j x H3 R R' hx s3 hDo kT => ?_) fun H3 s3 hl3 => ?_
    · rw [List.length_map, List.length_take, sets_len]
      omega
    · obtain ⟨aj, haj, rfl⟩ := of_map_ref hx
      have hj : j < (sets i).length := by rw [← hE.1]; exact (List.getElem?_eq_some_iff.mp haj).1
      have hlj : (sets i)[j]? = some (sets i)[j] := List.getElem?_eq_getElem hj
      generalize (sets i)[j] = l at hlj
      have hlot := sets_lot (List.mem_of_getElem? hlj)
      have hll := hlot.len
      obtain ⟨oD, hoD⟩ := hDo
      refine ⟨rfl, ⟨_, rfl, _, rfl, (by show 1 ≤ sizeLine; decide), fun t ht => ?_⟩⟩
      have s4 : Same H3 (upd H3 t (.tup [.int i])) := same_new ht
      refine ⟨aj, t, l, [(i : Int)], rfl, rfl, s4 _ _ (s3 _ _ (hE.2 _ _ _ haj hlj)), upd_same, by show l.length + 1 ≤ _; omega, fun H5 c s5 hc => ?_⟩
      refine kT.1 c _ H5 (fun z => ?_) (s4.trans s5) hc ?_
      · have := s5 _ _ (s4 _ _ hoD)
        rw [← z, hc] at this
        cases this
      · show ((sets i).take (j + 1)).map _ = _
        rw [take_more hlj, List.map_append]
        rfl
    · obtain ⟨bs, hbl, hB⟩ := hl3
      rw [List.length_map] at hB
      have et : (sets i).take as.length = sets i := List.take_of_length_le (by rw [hE.1]; exact Nat.le_refl _)
      have hB : Each tupO H3 bs ((sets i).map fun l => l ++ [(i : Int)]) := by rw [← et]; exact hB
      have hlb : bs.length = 2 ^ i := by rw [hB.1, List.length_map, sets_len]
      refine ⟨fp, D, _, _, rfl, rfl, s3 _ _ hal, hbl, by rw [List.length_map, List.length_map]; exact small_le (by omega), fun u hu => ?_⟩
      have su : Same H3 (upd H3 u (.lst (as.map V.ref ++ bs.map V.ref))) := same_new hu
      refine ⟨u, _, rfl, sm.trans (s3.trans su), as ++ bs, by rw [upd_same, List.map_append], ?_⟩
      exact ((hE.same s3).append hB).same su
  · rintro σ H' ⟨fp, y2, rfl, sm, hS⟩
    exact ⟨_, rfl, q H' fp sm hS⟩
end
end ST

/-! LFine -/
/-! law's parts, law's fine. -/
namespace ST
open Classical
open PySem PySem.Spec PyProof.Rows L2 SM
theorem eqv_tups : ∀ xs : List (List Int), PyData.eqv (.list (xs.map fun l => PyData.tuple (l.map PyData.int))) (.list []) = decide (xs = [])
  | [] => by simp [PyData.eqv, PyData.eqvAll]
  | x :: r => by simp [PyData.eqv, PyData.eqvAll]
theorem lay_tups : ∀ xs : List (List Int), PyData.canLayAll0 (xs.map fun l => PyData.tuple (l.map PyData.int)) = true
  | [] => by simp [PyData.canLayAll0]
  | x :: r => by
    have h := lay_tups r
    have h2 := lay_ints x
    simp only [List.map_cons, PyData.canLayAll0, PyData.canLay0, h, h2]
    rfl
theorem depth_tups : ∀ xs : List (List Int), PyData.depthAll (xs.map fun l => PyData.tuple (l.map PyData.int)) ≤ 1
  | [] => by simp [PyData.depthAll]
  | x :: r => by
    have h := depth_tups r
    rw [List.map_cons, PyData.depthAll, depth_tup]
    exact Nat.max_le.mpr ⟨Nat.le_refl _, h⟩
theorem shaped_tups (xs : List (List Int)) : SeqAt.shaped (.list (xs.map fun l => PyData.tuple (l.map PyData.int))) = true := by
  have h1 : (PyData.list (xs.map fun l => PyData.tuple (l.map PyData.int))).canLay0 = true := by
    rw [PyData.canLay0]
    exact lay_tups xs
  have h2 : (PyData.list (xs.map fun l => PyData.tuple (l.map PyData.int))).depth ≤ 64 := by
    rw [PyData.depth]
    have := depth_tups xs
    omega
  unfold SeqAt.shaped
  rw [h1, decide_eq_true h2]
  rfl
theorem dp_tups {K : PySem.W.Frag} {H : Hp} : ∀ {as : List Addr} {ls : List (List Int)}, Each tupO H as ls → DpAll K H (as.map V.ref) (ls.map fun l => PyData.tuple (l.map PyData.int))
  | [], [], _ => .nil
  | [], _ :: _, h => by cases h.1
  | _ :: _, [], h => by cases h.1
  | a :: as, l :: ls, h => .cons (dp_tup (SqT.of (h.2 0 a l rfl rfl))) (dp_tups ⟨Nat.succ.inj h.1, fun i b m hb hm => h.2 (i + 1) b m hb hm⟩)
/-- what the parts found so far say -/
structure PartsI (n : Nat) (L : List (List Int)) (l : List Int) (i : Nat) (PL : List (List Int)) (dn : List Int) : Prop where
  src : ∀ P ∈ PL, ∃ r ∈ l, P = part n L l r
  cov : ∀ x ∈ l.take i, part n L l x ∈ PL
  mem : ∀ x, x ∈ dn ↔ ∃ P ∈ PL, x ∈ P
  len : PL.length ≤ i
  dlen : dn.length ≤ i * n
theorem partsI_nil (n : Nat) (L : List (List Int)) (l : List Int) : PartsI n L l 0 [] [] :=
  ⟨fun P h => (by cases h), fun x h => (by cases h), fun x => ⟨fun h => (by cases h), fun ⟨P, h, _⟩ => (by cases h)⟩, Nat.le_refl _, Nat.zero_le _⟩
theorem PartsI.skip {n : Nat} {L : List (List Int)} {l : List Int} {i : Nat} {PL : List (List Int)} {dn : List Int} {x : Int} (h : PartsI n L l i PL dn) (N : Near n L) (hl : IsLot n l) (hx : l[i]? = some x) (hd : x ∈ dn) : PartsI n L l (i + 1) PL dn := by
  refine ⟨h.src, fun y hy => ?_, h.mem, Nat.le_succ_of_le h.len, Nat.le_trans h.dlen (Nat.mul_le_mul_right _ (Nat.le_succ i))⟩
  rw [take_more hx] at hy
  rcases List.mem_append.mp hy with hy | hy
  · exact h.cov y hy
  · have e : y = x := by simpa using hy
    subst e
    obtain ⟨P, hP, hyP⟩ := (h.mem y).mp hd
    obtain ⟨r, hr, rfl⟩ := h.src P hP
    have e2 : part n L l y = part n L l r := comp_same N (fun z hz => (hl.rng z hz).1) hr hyP
    rw [e2]
    exact hP
theorem PartsI.put {n : Nat} {L : List (List Int)} {l : List Int} {i : Nat} {PL : List (List Int)} {dn : List Int} {x : Int} (h : PartsI n L l i PL dn) (hx : l[i]? = some x) : PartsI n L l (i + 1) (PL ++ [part n L l x]) (dn ++ part n L l x) := by
  refine ⟨fun P hP => ?_, fun y hy => ?_, fun y => ?_, ?_, ?_⟩
  · rcases List.mem_append.mp hP with hP | hP
    · exact h.src P hP
    · exact ⟨x, List.mem_of_getElem? hx, List.mem_singleton.mp hP⟩
  · rw [take_more hx] at hy
    rcases List.mem_append.mp hy with hy | hy
    · exact List.mem_append_left _ (h.cov y hy)
    · have e : y = x := by simpa using hy
      subst e
      exact List.mem_append_right _ (List.mem_singleton.mpr rfl)
  · rw [List.mem_append, h.mem]
    constructor
    · rintro (⟨P, hP, hy⟩ | hy)
      · exact ⟨P, List.mem_append_left _ hP, hy⟩
      · exact ⟨_, List.mem_append_right _ (List.mem_singleton.mpr rfl), hy⟩
    · rintro ⟨P, hP, hy⟩
      rcases List.mem_append.mp hP with hP | hP
      · exact .inl ⟨P, hP, hy⟩
      · rw [List.mem_singleton.mp hP] at hy
        exact .inr hy
  · rw [List.length_append]
    exact Nat.add_le_add_right h.len 1
  · rw [List.length_append, Nat.succ_mul]
    exact Nat.add_le_add h.dlen (isLot_comp (n := n) (L := L) (S := fun z => z ∈ l) (a := x)).len
section
variable {P : Program} {w : World} {K : PySem.W.Frag} {mg : Str → Option Value} {base : Heap}
def spParts : Sp := fun vs H Q _ => ∃ (a b : Addr) (n : Nat) (L : List (List Int)) (l : List Int), vs = [.ref a, .ref b] ∧ Seqs lstO H a L ∧ Near n L ∧ n ≤ 12 ∧ H b = some (tupO l) ∧ IsLot n l ∧
  ∀ H' p PL, Same H H' → Seqs tupO H' p PL → PL.length ≤ n → (∀ P ∈ PL, ∃ r ∈ l, P = part n L l r) → (∀ x ∈ l, part n L l x ∈ PL) → Q (.ref p) H'
theorem ok_l_parts (T : Txt K mg) : FnOk P w K mg base CX0 2 T.d_l_parts.f T.d_l_parts.fd p_l_parts spParts := by
  refine T.d_l_parts.F.ok sc_l_parts (fun vs H Q E h => ?_) (fun cdv A outer s H vs Q E hr h => ?_)
  · obtain ⟨a, b, n, L, l, rfl, _⟩ := h
    rfl
  obtain ⟨a, b, n, L, l, rfl, hS, hN, hn, hb, hl, q⟩ := h
  have nd := sc_l_parts.nd
  have hu64 := hr.units
  refine ⟨_, pss_cons (ps_par (i := 2) (j := 3) rfl nd rfl rfl (by decide) rfl rfl (pa_cons (pe_lst pa_nil) (pa_cons (pe_lst pa_nil) pa_nil)) (by rfl))
    (pss_cons (ps_for PassesOwn.never rfl (pi_list (pe_callB (cr_sortedIT hu64) (by rfl) T.z_sorted bt_sorted (pa_cons (pv 1) pa_nil))) (pg_name (i := 4) nd rfl (.inl rfl))
      (pss_one (ps_if (pt_cmpR op_notIn_seq (pv 4) (pv 3) (by rfl))
        (pss_cons (ps_set (i := 5) nd rfl (.inl rfl) (pe_call (ok_l_part T) hr (by rfl) T.d_l_part.g T.d_l_part.F.kp T.d_l_part.b .nil pass0 (pa_cons (pv 0) (pa_cons (pv 1) (pa_cons (pv 4) pa_nil)))))
        (pss_one (ps_par (i := 2) (j := 3) rfl nd rfl rfl (by decide) rfl rfl (pa_cons (pe_op op_cat (pv 2) (pe_lst (pa_cons (pv 5) pa_nil))) (pa_cons (pe_op op_cat (pv 3) (pe_callTy call_list_of (by rfl) T.z_list bt_list (pa_cons (pv 5) pa_nil))) pa_nil)) (by rfl)))) pss_nil)))
    (pss_one (ps_ret (pv 2)))), ?_⟩
  have hll := hl.len
  refine ⟨Nat.zero_le _, fun fp hfp => ⟨Nat.zero_le _, fun dp hdp => ⟨_, _, rfl, ?_⟩⟩⟩
  have sf : Same H (upd H fp (.lst [])) := same_new hfp
  have gf : (upd H fp (.lst [])) fp = some (.lst []) := upd_same
  generalize upd H fp (.lst []) = H1 at sf gf hdp
  have sd : Same H1 (upd H1 dp (.lst [])) := same_new hdp
  have gd : (upd H1 dp (.lst [])) dp = some (.lst []) := upd_same
  generalize upd H1 dp (.lst []) = H2 at sd gd
  have s2 := sf.trans sd
  refine ⟨_, rfl, b, l, rfl, .inr (SqT.of (s2 _ _ hb)), by omega, fun ms sp hpm hps hsp => ?_⟩
  have ems : ms = l := sorted_is hpm hps hl.asc.nodup hl.asc fun x => Iff.rfl
  subst ems
  have ss : Same H2 (upd H2 sp (.lst (ms.map V.int))) := same_new hsp
  have gs : (upd H2 sp (.lst (ms.map V.int))) sp = some (lstO ms) := upd_same
  generalize upd H2 sp (.lst (ms.map V.int)) = H3 at ss gs
  refine ⟨sp, rfl, ⟨_, SqL.of gs⟩, ?_⟩
  refine for_list (K := K) (a := sp) (xs := ms.map V.int) (fun i σ H' => ∃ (fp dp : Addr) (PL : List (List Int)) (dn : List Int) (y4 y5 : Option V), σ = [some (.ref a), some (.ref b), some (.ref fp), some (.ref dp), y4, y5] ∧ Same H3 H' ∧ Seqs tupO H' fp PL ∧ H' dp = some (lstO dn) ∧ PartsI n L ms i PL dn) ?_ ?_ ?_ ?_
  · exact ⟨fp, dp, [], [], none, none, rfl, Same.refl _, ⟨[], ss _ _ (sd _ _ gf), Each.nil⟩, ss _ _ gd, partsI_nil n L ms⟩
  · rintro i σ H' _ ⟨fp, dp, PL, dn, y4, y5, rfl, sm, _⟩
    exact SqL.of (sm _ _ gs)
  · rintro i x σ H' hx ⟨fp, dp, PL, dn, y4, y5, rfl, sm, hP, hd, hI⟩
    obtain ⟨z, hz, rfl⟩ := of_map_int hx
    have hi : i < ms.length := (List.getElem?_eq_some_iff.mp hz).1
    have hzr := hl.rng z (List.mem_of_getElem? hz)
    have s0 : Same H H' := s2.trans (ss.trans sm)
    refine ⟨_, rfl, _, rfl, dp, _, rfl, .inl (SqL.of hd), rfl, flat_ints dn, _, rfl, ?_⟩
    show if (!inV (V.int z) (dn.map V.int)) = true then _ else _
    rw [inV_ints]
    by_cases c : z ∈ dn
    · rw [decide_eq_true c]
      exact iteF ⟨fp, dp, PL, dn, _, _, rfl, sm, hP, hd, hI.skip hN hl hz c⟩
    · rw [decide_eq_false c]
      refine iteT ⟨_, rfl, _, rfl, _, rfl, a, b, n, L, z, ms, rfl, hS.same s0, hN, hn, hzr.1, hzr.2, s0 _ _ hb, fun H4 r s4 hr4 => ?_⟩
      obtain ⟨bs, hbl, hB⟩ := hP.same s4
      have hlb := hB.1
      have hpl := hI.len
      have hdl := hI.dlen
      have hpz := (isLot_comp (n := n) (L := L) (S := fun y => y ∈ ms) (a := z)).len
      have hin : i * n ≤ 12 * 12 := Nat.mul_le_mul (by omega) hn
      have hd4 := s4 _ _ hd
      refine ⟨_, rfl, _, rfl, (by show 1 ≤ sizeLine; decide), fun t ht => ?_⟩
      have st : Same H4 (upd H4 t (.lst [.ref r])) := same_new ht
      refine ⟨fp, t, _, _, rfl, rfl, st _ _ hbl, upd_same, by rw [List.length_map]; show bs.length + 1 ≤ _; exact small_le (by omega), fun f2 hf2 => ?_⟩
      have sf2 := same_more st (o := .lst (bs.map V.ref ++ [.ref r])) hf2
      have gf2 : (upd (upd H4 t (.lst [.ref r])) f2 (.lst (bs.map V.ref ++ [.ref r]))) f2 = some (.lst ((bs ++ [r]).map V.ref)) := by rw [upd_same, lst_snoc_ref]
      generalize upd (upd H4 t (.lst [.ref r])) f2 (.lst (bs.map V.ref ++ [.ref r])) = H5 at sf2 gf2
      refine ⟨_, rfl, _, rfl, r, _, rfl, .inr (SqT.of (sf2 _ _ hr4)), fun t2 ht2 => ?_⟩
      have st2 : Same H5 (upd H5 t2 (.lst ((comp n L (fun y => y ∈ ms) z).map V.int))) := same_new ht2
      refine ⟨dp, t2, _, _, rfl, rfl, st2 _ _ (sf2 _ _ hd4), upd_same, by rw [List.length_map, List.length_map]; exact small_le (by omega), fun d2 hd2 => ⟨_, _, rfl, ?_⟩⟩
      have sd2 := same_more st2 (o := .lst (dn.map V.int ++ (comp n L (fun y => y ∈ ms) z).map V.int)) hd2
      refine ⟨f2, d2, PL ++ [part n L ms z], dn ++ part n L ms z, _, _, rfl, ((sm.trans s4).trans sf2).trans sd2, ⟨bs ++ [r], sd2 _ _ gf2, ?_⟩, ?_, hI.put hz⟩
      · exact Each.snoc ((hB.same sf2).same sd2) (sd2 _ _ (sf2 _ _ hr4))
      · rw [upd_same, ← List.map_append]
        rfl
  · rintro σ H' ⟨fp, dp, PL, dn, y4, y5, rfl, sm, hP, hd, hI⟩
    have hpl := hI.len
    have hcov := hI.cov
    rw [List.length_map] at hpl hcov
    rw [List.take_length] at hcov
    exact ⟨_, rfl, q H' fp PL (s2.trans (ss.trans sm)) hP (by omega) hI.src hcov⟩
def spFineL : Sp := fun vs H Q _ => ∃ (a b : Addr) (n : Nat) (E : List Pr) (l : List Int) (m : Int), vs = [.ref a, .ref b, .int m] ∧ NetAt H a n E ∧ NetV n E ∧ H b = some (tupO l) ∧ IsLot n l ∧
  ∀ H' c, Same H H' → (c = true ↔ Fine n (nearL n E) m l) → Q (.bl c) H'
theorem ok_l_fine (T : Txt K mg) : FnOk P w K mg base CX0 3 T.d_l_fine.f T.d_l_fine.fd p_l_fine spFineL := by
  refine T.d_l_fine.F.ok sc_l_fine (fun vs H Q E h => ?_) (fun cdv A outer s H vs Q E hr h => ?_)
  · obtain ⟨a, b, n, E, l, m, rfl, _⟩ := h
    rfl
  obtain ⟨a, b, n, ES, l, m, rfl, hA, hV, hb, hl, q⟩ := h
  have nd := sc_l_fine.nd
  have hu64 := hr.units
  refine ⟨_, pss_one (ps_ret (pe_cmpR (op_eqD hu64) (pe_lc (own := [("_law_part_here", 3)]) rfl nd (pi_list (pe_call (ok_l_parts T) hr (by rfl) T.d_l_parts.g T.d_l_parts.F.kp T.d_l_parts.b .nil pass0 (pa_cons (pe_call (ok_l_near T) (hr.mono (by decide)) (by rfl) T.d_l_near.g T.d_l_near.F.kp T.d_l_near.b .nil pass0 (pa_cons (pv 0) pa_nil)) (pa_cons (pv 1) pa_nil)))) (blkOk_by (own := [("_law_part_here", 3)]) (N := n_l_fine) (sc := defScope s_l_fine) (by decide +kernel))
      (fun _ _ _ _ _ => pg_name (i := 3) nd rfl (Or.inl rfl))
      (fun _ _ _ _ _ => pts_one (pt_cmpR op_gt (pe_callB (crLen K) (by rfl) T.z_len bt_len (pa_cons (pv 3) pa_nil)) (pv 2) (by rfl)))
      (fun _ _ _ _ _ => pv 3)) (pe_lst pa_nil) (nomark _))), ?_⟩
  have hn6 := hV.n6
  refine ⟨_, rfl, a, n, ES, rfl, hA, hV, fun H1 np s1 hS => ?_⟩
  refine ⟨_, rfl, np, b, n, _, l, rfl, hS, nearL_near hV, by omega, s1 _ _ hb, hl, fun H2 pp PL s2 hP hpl hsrc hcov => ?_⟩
  obtain ⟨as, hal, hE⟩ := id hP
  refine ⟨pp, rfl, ⟨_, SqL.of hal⟩, fun D hD => ?_⟩
  refine lcn_list (K := K) (k := tupO) (a := pp) (xs := as.map V.ref) (fun j => (PL.take j).filter fun P => decide ((P.length : Int) > m)) hD rfl (SqL.of hal) (fun j hj => ?_) (fun j x H3 R R' hx s3 hDo kT => ?_) fun H3 s3 hl3 => ?_
  · refine Nat.le_trans (List.length_filter_le _ _) ?_
    rw [List.length_take]
    omega
  · obtain ⟨aj, haj, rfl⟩ := of_map_ref hx
    have hj : j < PL.length := by rw [← hE.1]; exact (List.getElem?_eq_some_iff.mp haj).1
    have hlj : PL[j]? = some PL[j] := List.getElem?_eq_getElem hj
    generalize PL[j] = P at hlj
    obtain ⟨oD, hoD⟩ := hDo
    have hP3 := s3 _ _ (hE.2 _ _ _ haj hlj)
    refine ⟨rfl, ⟨_, rfl, aj, _, rfl, .inr (SqT.of hP3), _, rfl, _, _, rfl, rfl, _, rfl, ?_⟩⟩
    rw [List.length_map]
    by_cases c : (P.length : Int) > m
    · rw [decide_eq_true c]
      refine iteT ⟨_, rfl, kT.1 aj P _ (fun z => ?_) (Same.refl _) hP3 ?_⟩
      · rw [z, hoD] at hP3
        cases hP3
      · show (PL.take (j + 1)).filter _ = _
        rw [take_more hlj, List.filter_append, filtl_pos (p := fun P : List Int => decide ((P.length : Int) > m)) (decide_eq_true c)]
    · rw [decide_eq_false c]
      refine iteF (kT.2 _ (Same.refl _) ?_)
      show (PL.take (j + 1)).filter _ = _
      rw [take_more hlj, List.filter_append, filtl_neg (p := fun P : List Int => decide ((P.length : Int) > m)) (decide_eq_false c), List.append_nil]
  · have et : PL.take (as.map V.ref).length = PL := List.take_of_length_le (by rw [List.length_map, hE.1]; exact Nat.le_refl _)
    rw [et] at hl3
    refine ⟨Nat.zero_le _, fun e he => ?_⟩
    have se : Same H3 (upd H3 e (.lst [])) := same_new he
    obtain ⟨bs, hbl, hB⟩ := hl3.same se
    refine ⟨.list ((PL.filter fun P => decide ((P.length : Int) > m)).map fun l => PyData.tuple (l.map PyData.int)), .list [], .lst (SqL.of hbl) (dp_tups hB), .lst (SqL.of upd_same) .nil, shaped_tups _, shaped_ints [], ?_⟩
    rw [eqv_tups]
    refine q _ _ (s1.trans (s2.trans (s3.trans se))) ?_
    rw [decide_eq_true_iff]
    exact fine_parts hsrc hcov
end
end ST

/-! LAlike -/
/-! law's comparing. -/
namespace ST
open Classical
open PySem PySem.Spec PyProof.Rows L2 SM
/-- x[i] of a list or of a tuple -/
def rIxA (K : PySem.W.Frag) : R2 := fun x y H Q => rIxL K x y H Q ∨ rIxT K x y H Q
theorem ixA (K : PySem.W.Frag) {X : Cx} (h : X.K = K := by rfl) : IxR X (rIxA K) := by
  intro value slice pins s σ H x y v u Q I rx ry q e
  rcases q with q | q
  · exact ixL K h value slice pins s σ H x y v u Q I rx ry q e
  · exact ixT K h value slice pins s σ H x y v u Q I rx ry q e
/-- the two are the same: ints, lists and tuples of such -/
def AlikeV : Nat → Hp → V → V → Prop
  | 0, _, _, _ => False
  | d + 1, H, x, y => (∃ i, x = .int i ∧ y = .int i) ∨ ∃ (a b : Addr) (xs ys : List V), x = .ref a ∧ y = .ref b ∧ ((H a = some (.lst xs) ∧ H b = some (.lst ys)) ∨ (H a = some (.tup xs) ∧ H b = some (.tup ys))) ∧ xs.length = ys.length ∧ xs.length ≤ 1000 ∧
      ∀ (i : Nat) (x y : V), xs[i]? = some x → ys[i]? = some y → AlikeV d H x y
theorem AlikeV.same : ∀ {d : Nat} {H H' : Hp} {x y : V}, AlikeV d H x y → Same H H' → AlikeV d H' x y
  | 0, _, _, _, _, h, _ => h.elim
  | d + 1, H, H', x, y, h, s => by
    rcases h with h | ⟨a, b, xs, ys, e1, e2, h, hl, hz, hs⟩
    · exact .inl h
    · refine .inr ⟨a, b, xs, ys, e1, e2, ?_, hl, hz, fun i u v hu hv => AlikeV.same (hs i u v hu hv) s⟩
      rcases h with ⟨h1, h2⟩ | ⟨h1, h2⟩
      · exact .inl ⟨s _ _ h1, s _ _ h2⟩
      · exact .inr ⟨s _ _ h1, s _ _ h2⟩
theorem kit_tl {K : PySem.W.Frag} {a : String} {r : Bool} (h : (kitB a "tuple", kitB a "list") = (some (a == "tuple"), some (a == "list"))) (hr : r = ((a == "tuple") || (a == "list"))) : PySem.W.kitAny K (.type a) [.type "tuple", .type "list"] = some r := by
  injection h with h1 h2
  refine kitAny_cons (kit_ty h1) (fun e => ?_) (fun e => by rw [hr, e]; rfl)
  refine kitAny_cons (kit_ty h2) (fun e2 => ?_) (fun e2 => by rw [hr, e, e2]; rfl)
  rw [hr, e, e2]
  rfl
theorem ix_any {K : PySem.W.Frag} {H : Hp} {Q : VK} {p : Addr} {xs : List V} {i : Nat} {v : V} (h : SqL K H p xs ∨ SqT K H p xs) (hv : xs[i]? = some v) (q : Q v H) : rIxA K (.ref p) (.int i) H Q :=
  h.elim (fun h => .inl ⟨p, xs, i, v, rfl, rfl, h, atI_nat hv, q⟩) fun h => .inr ⟨p, xs, i, v, rfl, rfl, h, atI_nat hv, q⟩
section
variable {P : Program} {w : World} {K : PySem.W.Frag} {mg : Str → Option Value} {base : Heap}
def spAlike (d : Nat) : Sp := fun vs H Q _ => ∃ x y, vs = [x, y] ∧ AlikeV d H x y ∧ ∀ H', Same H H' → Q (.bl true) H'
theorem alike_none (T : Txt K mg) : FnOk P w K mg base CX0 0 T.d_l_alike.f T.d_l_alike.fd p_l_alike (spAlike 0) :=
  ⟨fun vs H Q E h => by obtain ⟨x, y, _, h, _⟩ := h; exact h.elim, fun A outer s H args us vs Q E _ _ _ _ h => by obtain ⟨x, y, _, h, _⟩ := h; exact h.elim⟩
theorem ok_alike_step (T : Txt K mg) (d : Nat) (ih : FnOk P w K mg base CX0 d T.d_l_alike.f T.d_l_alike.fd p_l_alike (spAlike d)) : FnOk P w K mg base CX0 (d + 1) T.d_l_alike.f T.d_l_alike.fd p_l_alike (spAlike (d + 1)) := by
  refine T.d_l_alike.F.ok (k := d) sc_l_alike (fun vs H Q E h => ?_) (fun cdv A outer s H vs Q E hr h => ?_)
  · obtain ⟨x, y, rfl, _⟩ := h
    rfl
  obtain ⟨x, y, rfl, hA, q⟩ := h
  have nd := sc_l_alike.nd
  have hu64 := hr.units
  refine ⟨_, pss_cons (ps_if (pt_val (pe_callB call_isiT (by rfl) T.z_isinstance bt_isinstance (pa_cons (pv 1) (pa_cons (pe_tup (pa_cons (pe_bltn (v := .ty "tuple") (by rfl) T.z_tuple bt_tuple rfl) (pa_cons (pe_bltn (v := .ty "list") (by rfl) T.z_list bt_list rfl) pa_nil))) pa_nil))))
      (pss_cons (ps_if (PW.pt (pw_or (pt_not (pt_val (pe_callB call_isiT (by rfl) T.z_isinstance bt_isinstance (pa_cons (pv 0) (pa_cons (pe_tup (pa_cons (pe_bltn (v := .ty "tuple") (by rfl) T.z_tuple bt_tuple rfl) (pa_cons (pe_bltn (v := .ty "list") (by rfl) T.z_list bt_list rfl) pa_nil))) pa_nil)))))
          (pw_or1 (pt_cmpR op_ne (pe_callB call_isi (by rfl) T.z_isinstance bt_isinstance (pa_cons (pv 0) (pa_cons (pe_bltn (v := .ty "list") (by rfl) T.z_list bt_list rfl) pa_nil))) (pe_callB call_isi (by rfl) T.z_isinstance bt_isinstance (pa_cons (pv 1) (pa_cons (pe_bltn (v := .ty "list") (by rfl) T.z_list bt_list rfl) pa_nil))) (nomark _))))) pss_never pss_nil)
      (pss_cons (ps_if (pt_cmpR op_ne (pe_callB call_len_seq (by rfl) T.z_len bt_len (pa_cons (pv 0) pa_nil)) (pe_callB call_len_seq (by rfl) T.z_len bt_len (pa_cons (pv 1) pa_nil)) (nomark _)) pss_never pss_nil)
      (pss_one (ps_ret (pe_cmpR (op_eqD hu64) (pe_lc (own := [("_law_k", 2)]) rfl nd (pi_range1 (by rfl) T.z_range (pa_cons (pe_callB call_len_seq (by rfl) T.z_len bt_len (pa_cons (pv 1) pa_nil)) pa_nil)) (blkOk_by (own := [("_law_k", 2)]) (N := n_l_alike) (sc := defScope s_l_alike) (by decide +kernel))
          (fun _ _ _ _ _ => pg_name (i := 2) nd rfl (Or.inl rfl))
          (fun _ _ _ _ _ => pts_one (pt_not (pt_val (pe_call ih hr (by rfl) T.d_l_alike.g T.d_l_alike.F.kp T.d_l_alike.b .nil pass0 (pa_cons (pe_ix (ixA K) (pv 0) (pv 2) (fun _ _ => rfl)) (pa_cons (pe_ix (ixA K) (pv 1) (pv 2) (fun _ _ => rfl)) pa_nil))))))
          (fun _ _ _ _ _ => pv 2)) (pe_lst pa_nil) (nomark _)))))) pss_nil)
    (pss_cons (ps_if (PW.pt (pw_or (pt_cmp (pc_isN (pv 1))) (pw_or1 (pt_val (pe_callB call_isi (by rfl) T.z_isinstance bt_isinstance (pa_cons (pv 1) (pa_cons (pe_bltn (v := .ty "str") (by rfl) T.z_str bt_str rfl) pa_nil))))))) pss_never pss_nil)
    (pss_one (ps_ret (pe_and (pe_callB call_isi (by rfl) T.z_isinstance bt_isinstance (pa_cons (pv 0) (pa_cons (pe_bltn (v := .ty "int") (by rfl) T.z_int bt_int rfl) pa_nil)))
      (pe_and (pe_cmpR op_eq (pe_callB call_isi (by rfl) T.z_isinstance bt_isinstance (pa_cons (pv 0) (pa_cons (pe_bltn (v := .ty "bool") (by rfl) T.z_bool bt_bool rfl) pa_nil))) (pe_callB call_isi (by rfl) T.z_isinstance bt_isinstance (pa_cons (pv 1) (pa_cons (pe_bltn (v := .ty "bool") (by rfl) T.z_bool bt_bool rfl) pa_nil))) (nomark _))
        (pe_one (pe_cmpR op_eq (pv 0) (pv 1) (nomark _)))))))), ?_⟩
  rcases hA with ⟨i, rfl, rfl⟩ | ⟨a, b, xs, ys, rfl, rfl, hk, hl, hz, hs⟩
  · refine ⟨_, rfl, (by show 2 ≤ sizeLine; decide), fun tp htp => ⟨.int i, tp, _, .type "int", _, false, rfl, upd_same, .cons (.ty _) (.cons (.ty _) .nil), .base (.int i), kit_tl (by decide +kernel) rfl, false, rfl, iteF ?_⟩⟩
    have st : Same H (upd H tp (.tup [.ty "tuple", .ty "list"])) := same_new htp
    refine ⟨_, rfl, _, rfl, ?_⟩
    refine ite2 (fun z => absurd (of_decide_eq_true z) (by intro z; cases z)) fun _ => ?_
    refine ⟨_, rfl, .int i, .ty "str", _, _, false, rfl, .ty "str", .base (.int i), kit_ty (by decide +kernel), false, rfl, iteF ?_⟩
    refine ⟨_, rfl, .int i, .ty "int", _, _, true, rfl, .ty "int", .base (.int i), kit_ty (by decide +kernel), true, rfl, iteT ?_⟩
    refine ⟨_, rfl, .int i, .ty "bool", _, _, false, rfl, .ty "bool", .base (.int i), kit_ty (by decide +kernel), ?_⟩
    refine ⟨_, rfl, .int i, .ty "bool", _, _, false, rfl, .ty "bool", .base (.int i), kit_ty (by decide +kernel), rfl, true, rfl, iteT ?_⟩
    refine ⟨_, rfl, _, rfl, rfl, ?_⟩
    rw [decide_eq_true rfl]
    exact q _ st
  · have kind : ∃ (kn : String) (c : Bool), (∀ H', Same H H' → TyX K H' (.ref a) (.type kn) ∧ TyX K H' (.ref b) (.type kn) ∧ (SqL K H' a xs ∨ SqT K H' a xs) ∧ (SqL K H' b ys ∨ SqT K H' b ys)) ∧ PySem.W.kitAny K (.type kn) [.type "tuple", .type "list"] = some true ∧ PySem.W.kitOne K (.type kn) (.type "list") = some c := by
      rcases hk with ⟨h1, h2⟩ | ⟨h1, h2⟩
      · exact ⟨"list", true, fun H' s' => ⟨.base (.lst (s' _ _ h1)), .base (.lst (s' _ _ h2)), .inl (SqL.of (s' _ _ h1)), .inl (SqL.of (s' _ _ h2))⟩, kit_tl (by decide +kernel) rfl, kit_ty (by decide +kernel)⟩
      · exact ⟨"tuple", false, fun H' s' => ⟨.base (.tup (s' _ _ h1)), .base (.tup (s' _ _ h2)), .inr (SqT.of (s' _ _ h1)), .inr (SqT.of (s' _ _ h2))⟩, kit_tl (by decide +kernel) rfl, kit_ty (by decide +kernel)⟩
    obtain ⟨kn, c, hty, hka, hko⟩ := kind
    refine ⟨_, rfl, (by show 2 ≤ sizeLine; decide), fun tp htp => ?_⟩
    have st : Same H (upd H tp (.tup [.ty "tuple", .ty "list"])) := same_new htp
    have gt : (upd H tp (.tup [.ty "tuple", .ty "list"])) tp = some (.tup [.ty "tuple", .ty "list"]) := upd_same
    generalize upd H tp (.tup [.ty "tuple", .ty "list"]) = H1 at st gt
    obtain ⟨ta, tb, sa, sb⟩ := hty H1 st
    refine ⟨.ref b, tp, _, .type kn, _, true, rfl, gt, .cons (.ty _) (.cons (.ty _) .nil), tb, hka, true, rfl, iteT ?_⟩
    refine ⟨_, rfl, (by show 2 ≤ sizeLine; decide), fun tp2 htp2 => ?_⟩
    have st2 := same_more st (o := .tup [.ty "tuple", .ty "list"]) htp2
    have gt2 : (upd H1 tp2 (.tup [.ty "tuple", .ty "list"])) tp2 = some (.tup [.ty "tuple", .ty "list"]) := upd_same
    generalize upd H1 tp2 (.tup [.ty "tuple", .ty "list"]) = H2 at st2 gt2
    obtain ⟨ta, tb, sa, sb⟩ := hty H2 st2
    refine ⟨.ref a, tp2, _, .type kn, _, true, rfl, gt2, .cons (.ty _) (.cons (.ty _) .nil), ta, hka, true, rfl, iteF ?_⟩
    refine ⟨_, rfl, .ref a, .ty "list", _, _, c, rfl, .ty "list", ta, hko, ?_⟩
    refine ⟨_, rfl, .ref b, .ty "list", _, _, c, rfl, .ty "list", tb, hko, rfl, _, rfl, ?_⟩
    rw [decide_eq_true rfl]
    refine iteF ⟨_, rfl, a, xs, rfl, sa, _, rfl, b, ys, rfl, sb, rfl, _, rfl, ?_⟩
    rw [hl, decide_eq_true rfl]
    refine iteF ⟨_, rfl, b, ys, rfl, sb, _, rfl, by omega, by omega, fun D hD => ?_⟩
    have en : ((ys.length : Nat) : Int).toNat = ys.length := by omega
    rw [en]
    refine lcs_range (lo := 0) (n := ys.length) (fun _ => []) hD rfl (fun i hi => Nat.zero_le _) (fun i H3 R R' hi s3 kR kR' => ?_) fun H3 s3 hl3 => ?_
    · have ei : (0 : Int) + (i : Int) = (i : Int) := by omega
      rw [ei]
      obtain ⟨_, _, sa3, sb3⟩ := hty H3 (st2.trans s3)
      have hx : xs[i]? = some xs[i] := List.getElem?_eq_getElem (by omega)
      have hy : ys[i]? = some ys[i] := List.getElem?_eq_getElem hi
      generalize xs[i] = u at hx
      generalize ys[i] = v at hy
      refine ⟨rfl, ⟨_, rfl, _, rfl, ix_any sa3 hx ⟨_, rfl, _, rfl, ix_any sb3 hy ⟨u, v, rfl, (hs i u v hx hy).same (st2.trans s3), fun H4 s4 => ⟨true, rfl, iteF (kR' _ s4 rfl)⟩⟩⟩⟩⟩
    · refine ⟨Nat.zero_le _, fun e he => ⟨.list [], .list [], .lst (SqL.of ((same_new he) _ _ hl3)) .nil, .lst (SqL.of upd_same) .nil, shaped_ints [], shaped_ints [], ?_⟩⟩
      have ev : PyData.eqv (.list []) (.list []) = true := by simp [PyData.eqv, PyData.eqvAll]
      rw [ev]
      exact q _ (st2.trans (s3.trans (same_new he)))
theorem ok_l_alike (T : Txt K mg) : ∀ d : Nat, FnOk P w K mg base CX0 d T.d_l_alike.f T.d_l_alike.fd p_l_alike (spAlike d)
  | 0 => alike_none T
  | d + 1 => ok_alike_step T d (ok_l_alike T d)
/-- tuples of the same ints -/
theorem alike_tupO {H : Hp} {a b : Addr} {l : List Int} (ha : H a = some (tupO l)) (hb : H b = some (tupO l)) (hl : l.length ≤ 1000) : AlikeV 2 H (.ref a) (.ref b) :=
  .inr ⟨a, b, _, _, rfl, rfl, .inr ⟨ha, hb⟩, rfl, by rw [List.length_map]; exact hl, fun i x y hx hy => by
    obtain ⟨z, _, rfl⟩ := of_map_int hx
    rw [hx] at hy
    exact .inl ⟨z, rfl, (Option.some.inj hy).symm⟩⟩
theorem alike_lstO {H : Hp} {a b : Addr} {l : List Int} (ha : H a = some (lstO l)) (hb : H b = some (lstO l)) (hl : l.length ≤ 1000) : AlikeV 2 H (.ref a) (.ref b) :=
  .inr ⟨a, b, _, _, rfl, rfl, .inl ⟨ha, hb⟩, rfl, by rw [List.length_map]; exact hl, fun i x y hx hy => by
    obtain ⟨z, _, rfl⟩ := of_map_int hx
    rw [hx] at hy
    exact .inl ⟨z, rfl, (Option.some.inj hy).symm⟩⟩
end
end ST

/-! LLaw0 -/
/-! law: what its statements ask of the layer. -/
namespace ST
open Classical
open PySem PySem.Spec PyProof.Rows L2 SM
/-- xs.count(k), ints -/
def rCountI (K : PySem.W.Frag) : V → List V → Hp → VK → Prop := fun x xs H Q => ∃ (a : Addr) (ns : List Int) (k : Int), x = V.ref a ∧ xs = [.int k] ∧ SqL K H a (ns.map V.int) ∧ Q (.int (ns.count k : Nat)) H
theorem mt_countI {X : Cx} : MtR X "list.count" (rCountI X.K) := by
  intro pins s σ H x xs v us Q I rx rxs h
  obtain ⟨a, ns, k, rfl, rfl, hs, q⟩ := h
  cases rx
  cases rxs with
  | cons ry rt =>
    cases rt
    obtain ⟨t, rfl⟩ := ry
    obtain ⟨its, rv, hl, _⟩ := I.list hs
    exact PyProof.Rows.count_list_ints hl.isList rv.ints ⟨.int (ns.count k : Nat), H, I.tok _, ⟨_, rfl⟩, q⟩
theorem pe_cntE (K : PySem.W.Frag) {X : Cx} {o e : Expr} {to : TE} {t : TA} {apos cpos : Pos} (ho : PE X o to) (ha : PA X [e] t)
    (hbase : attributeBase o (Str.ofString "count") X.env (eval o X.env) = eval o X.env := by rfl)
    (hfew : ((backTo cpos (starEach [e] X.env)).all (fun x => !x.1) && (backToKw cpos (keywordEach [] X.env)).all (fun x => x.1.isSome)
      && decide ([e].length + ([] : List Keyword).length + (if ([] : List Keyword).isEmpty then 0 else 1) < 30)) = true := by rfl)
    (hline : (apos.endLine == cpos.line) = true := by rfl) (hs : starEach [e] X.env = (false, eval e X.env) :: starEach [] X.env := by rfl) (hplain : (backTo cpos (starEach [] X.env)).any (·.1) = false := by rfl)
    (hK : X.K = K := by rfl) : PE X (.Call (.Attribute o (Str.ofString "count") apos) [e] [] cpos) (tBM K "list" (rCountI K) to t) := by
  subst hK
  exact pe_bm PySem.F.plainAttrs_list PySem.F.slot_list_count PySem.F.type_list_count mt_countI ho ha hbase hfew hline hs hplain
theorem PS.weak {X : Cx} {st : Stmt} {t t' : TS} (h : PS X st t) (k : ∀ D σ H, t' D σ H → t D σ H) : PS X st t' := ⟨fun pins s σ H D I q => h.run pins s σ H D I (k D σ H q)⟩
section
variable {P : Program} {w : World} {K : PySem.W.Frag} {mg : Str → Option Value} {base : Heap}
/-- law's frame -/
abbrev LX (P : Program) (w : World) (base : Heap) (T : Txt K mg) (cdv : Value) (A : Around) (outer : List Env) (s : Shared) (H : Hp) (E : XK) : Cx := (cxOf CX0 P w K mg base n_law (Str.ofString "law") (defScope s_law) T.d_law.f cdv A outer s H E).nox
abbrev lawSt (i : Nat) : Stmt := (defBody s_law).getD i (.Pass ⟨0, 0, 0, 0⟩)
def lcScope : Stmt → Scope
  | .Assign _ (.ListComp _ _ sc _) _ => sc
  | _ => defScope s_law
end
end ST

/-! LLaw1 -/
/-! law, statement by statement: the draws. -/
namespace ST
open Classical
open PySem PySem.Spec PyProof.Rows L2 SM
/-- law's slots -/
abbrev LS (x0 x1 x2 x3 x4 x5 x6 x7 x8 x9 x10 x11 x12 x13 x14 x15 x16 x17 : Option V) : L2.St := [x0, x1, x2, x3, x4, x5, x6, x7, x8, x9, x10, x11, x12, x13, x14, x15, x16, x17, none, none, none]
theorem NetAt.but {H H' : Hp} {a r : Addr} {n : Nat} {E : List Pr} {o : HO} (h : NetAt H a n E) (s : But r H H') (hr : H r = some o) (ht : ∀ xs, o ≠ .tup xs) : NetAt H' a n E := by
  obtain ⟨pr, qs, h1, h2, h3, h4⟩ := h
  have ne : ∀ {b xs}, H b = some (.tup xs) → b ≠ r := fun hb z => by
    rw [z, hr] at hb
    exact ht _ (Option.some.inj hb)
  exact ⟨pr, qs, s _ _ (ne h1) h1, s _ _ (ne h2) h2, h3, fun i q p hq hp => s _ _ (ne (h4 i q p hq hp)) (h4 i q p hq hp)⟩
theorem tup_but {H H' : Hp} {a r : Addr} {l : List Int} {o : HO} (h : H a = some (tupO l)) (s : But r H H') (hr : H r = some o) (ht : ∀ xs, o ≠ .tup xs) : H' a = some (tupO l) :=
  s _ _ (fun z => by rw [z, hr] at h; exact ht _ (Option.some.inj h)) h
theorem ArgsOk.but {H H' : Hp} {a b r : Addr} {n : Nat} {E : List Pr} {l : List Int} {m : Int} {o : HO} (h : ArgsOk H a b n E l m) (s : But r H H') (hr : H r = some o) (ht : ∀ xs, o ≠ .tup xs) : ArgsOk H' a b n E l m :=
  ⟨h.net.but s hr ht, h.v, tup_but h.pt s hr ht, h.lot, h.m0, h.m1⟩
theorem ArgsOk.same {H H' : Hp} {a b : Addr} {n : Nat} {E : List Pr} {l : List Int} {m : Int} (h : ArgsOk H a b n E l m) (s : Same H H') : ArgsOk H' a b n E l m := ⟨h.net.same s, h.v, s _ _ h.pt, h.lot, h.m0, h.m1⟩
section
variable {P : Program} {w : World} {K : PySem.W.Frag} {mg : Str → Option Value} {base : Heap} {T : Txt K mg} {cdv : Value} {A : Around} {outer : List Env} {s0 : Shared} {H0 : Hp} {E0' : XK}
def rd1 (K : PySem.W.Frag) : TS := fun D σ H => ∃ sc ns, σ = LS (some (.ref sc)) none none none none none none none none none none none none none none none none none ∧ SqL K H sc (ns.map V.int) ∧
  ∀ H' r, RowSh H' r sc → Scr K H' r sc ns → D.nx (LS (some (.ref sc)) (some (.ref r)) none none none none none none none none none none none none none none none none) H'
theorem law_s1 : PS (LX P w base T cdv A outer s0 H0 E0') (lawSt 0) (rd1 K) := by
  have nd := sc_law.nd
  refine PS.weak (ps_set (i := 1) nd rfl (.inl rfl) (pe_lst (pa_cons (pv 0) (pa_cons pe_int (pa_cons pe_int (pa_cons pe_int pa_nil)))))) fun D σ H h => ?_
  obtain ⟨sc, ns, rfl, hS, q⟩ := h
  refine ⟨_, rfl, (by show 4 ≤ sizeLine; decide), fun r hr => q _ r ⟨0, 7848, 0, upd_same, Int.le_refl _⟩ fun H' s' => ?_⟩
  rcases hS with (h | ⟨o, h⟩) | h
  · exact .inl (.inl (s' _ _ (ne_of_none h hr) ((same_new hr) _ _ h)))
  · exact .inl (.inr ⟨o, s' _ _ (ne_of_none h hr) ((same_new hr) _ _ h)⟩)
  · exact .inr h
def rd2 (K : PySem.W.Frag) : TS := fun D σ H => ∃ sc ns r, σ = LS (some (.ref sc)) (some (.ref r)) none none none none none none none none none none none none none none none none ∧ RowSh H r sc ∧ Scr K H r sc ns ∧
  ∀ H' a n E, RowSh H' r sc → Scr K H' r sc ns → NetAt H' a n E → NetV n E → D.nx (LS (some (.ref sc)) (some (.ref r)) (some (.ref a)) none none none none none none none none none none none none none none none) H'
theorem law_s2 (hr : Room 14 (A.deeper (envOfC (Str.ofString "law") (defScope s_law) s0.heap.objs.size T.d_law.f cdv))) : PS (LX P w base T cdv A outer s0 H0 E0') (lawSt 1) (rd2 K) := by
  have nd := sc_law.nd
  refine PS.weak (ps_set (i := 2) nd rfl (.inr rfl) (pe_call (ok_l_net T) (hr.mono (by decide)) (by rfl) T.d_l_net.g T.d_l_net.F.kp T.d_l_net.b .nil pass0 (pa_cons (pv 1) (pa_cons pe_int pa_nil)))) fun D σ H h => ?_
  obtain ⟨sc, ns, r, rfl, hR, hS, q⟩ := h
  exact ⟨_, rfl, r, sc, ns, rfl, hR, hS, fun H' p n E s' hR' hN hV => q H' p n E hR' (hS.but s') hN hV⟩
def rd3 : TS := fun D σ H => ∃ (x0 x1 : Option V) (a : Addr) (n : Nat) (E : List Pr), σ = LS x0 x1 (some (.ref a)) none none none none none none none none none none none none none none none ∧ NetAt H a n E ∧
  D.nx (LS x0 x1 (some (.ref a)) (some (.int n)) none none none none none none none none none none none none none none) H
theorem law_s3 : PS (LX P w base T cdv A outer s0 H0 E0') (lawSt 2) rd3 := by
  have nd := sc_law.nd
  refine PS.weak (ps_set (i := 3) nd rfl (.inr rfl) (pe_ix ix_tup (pv 2) pe_int (fun _ _ => rfl))) fun D σ H h => ?_
  obtain ⟨x0, x1, a, n, E, rfl, ⟨pr, qs, h1, _⟩, q⟩ := h
  exact ⟨_, rfl, a, _, 0, _, rfl, rfl, SqT.of h1, atI_nat (j := 0) rfl, q⟩
def rd4 (K : PySem.W.Frag) : TS := fun D σ H => ∃ (sc : Addr) (ns : List Int) (r a : Addr) (n : Nat) (E : List Pr), σ = LS (some (.ref sc)) (some (.ref r)) (some (.ref a)) (some (.int n)) none none none none none none none none none none none none none none ∧ RowSh H r sc ∧ Scr K H r sc ns ∧ NetAt H a n E ∧ NetV n E ∧
  ∀ H' b l m, ArgsOk H' a b n E l m → D.nx (LS (some (.ref sc)) (some (.ref r)) (some (.ref a)) (some (.int n)) (some (.int m)) (some (.ref b)) none none none none none none none none none none none none) H'
theorem law_s4 (hr : Room 14 (A.deeper (envOfC (Str.ofString "law") (defScope s_law) s0.heap.objs.size T.d_law.f cdv))) : PS (LX P w base T cdv A outer s0 H0 E0') (lawSt 3) (rd4 K) := by
  have nd := sc_law.nd
  refine PS.weak (ps_asg (pe_tup (pa_cons (pe_op op_add pe_int (pe_call (ok_l_taken T) (hr.mono (by decide)) (by rfl) T.d_l_taken.g T.d_l_taken.F.kp T.d_l_taken.b .nil pass0 (pa_cons (pv 1) (pa_cons (pv 3) pa_nil))))
    (pa_cons (pe_call (ok_l_lot T) (hr.mono (by decide)) (by rfl) T.d_l_lot.g T.d_l_lot.F.kp T.d_l_lot.b .nil pass0 (pa_cons (pv 1) (pa_cons (pv 3) pa_nil))) pa_nil))) (pg_tup rfl (pgs_cons (pg_name (i := 4) nd rfl (.inr rfl)) (pgs_cons (pg_name (i := 5) nd rfl (.inr rfl)) pgs_nil)))) fun D σ H h => ?_
  obtain ⟨sc, ns, r, a, n, E, rfl, hR, hS, hN, hV, q⟩ := h
  have hn0 := hV.n0
  have hn6 := hV.n6
  have nt : ∀ {H : Hp}, RowSh H r sc → ∃ o, H r = some o ∧ ∀ xs, o ≠ .tup xs := fun h => by
    obtain ⟨k, z, rest, h1, _⟩ := h
    exact ⟨_, h1, fun xs z => by cases z⟩
  refine ⟨_, rfl, _, rfl, r, sc, ns, n, rfl, by omega, by omega, hR, hS, fun H1 v s1 hR1 v0 v1 => ⟨_, _, rfl, rfl, ?_⟩⟩
  refine ⟨_, rfl, _, rfl, r, sc, ns, n, rfl, hn6, hR1, hS.but s1, fun H2 p l s2 hR2 hl hp => ⟨(by show 2 ≤ sizeLine; decide), fun t ht => ?_⟩⟩
  refine ⟨t, _, rfl, SqT.of upd_same, rfl, _, _, rfl, _, _, rfl, rfl, ?_⟩
  have st : Same H2 (upd H2 t (.tup [.int (1 + v), .ref p])) := same_new ht
  obtain ⟨o, ho, hot⟩ := nt hR
  exact q _ p l (1 + v) ⟨(hN.but (s1.trans s2) ho hot).same st, hV, st _ _ hp, hl, by omega, by omega⟩
def rd5 : TS := fun D σ H => ∃ (x0 x1 : Option V) (a b : Addr) (n : Nat) (E : List Pr) (l : List Int) (m : Int), σ = LS x0 x1 (some (.ref a)) (some (.int n)) (some (.int m)) (some (.ref b)) none none none none none none none none none none none none ∧ ArgsOk H a b n E l m ∧
  ∀ H' f, ArgsOk H' a b n E l m → Seqs tupO H' f (fines n (nearL n E) m) → D.nx (LS x0 x1 (some (.ref a)) (some (.int n)) (some (.int m)) (some (.ref b)) none (some (.ref f)) none none none none none none none none none none) H'
theorem law_s5 (hr : Room 14 (A.deeper (envOfC (Str.ofString "law") (defScope s_law) s0.heap.objs.size T.d_law.f cdv))) : PS (LX P w base T cdv A outer s0 H0 E0') (lawSt 4) rd5 := by
  have nd := sc_law.nd
  refine PS.weak (ps_setLc (i := 7) (own := [("_law_told", 6)]) (g := gName 6) rfl nd rfl rfl (sw_true rfl rfl rfl (by decide +kernel)) (pi_list (pe_call (ok_l_sets T) (hr.mono (by decide)) (by rfl) T.d_l_sets.g T.d_l_sets.F.kp T.d_l_sets.b .nil pass0 (pa_cons (pv 3) pa_nil)))
    (blkOk_by (own := [("_law_told", 6)]) (N := n_law) (sc := defScope s_law) (by decide +kernel))
    (fun _ _ _ _ _ => pg_name (i := 6) nd rfl (Or.inl rfl))
    (fun _ _ _ _ _ => pts_one (pt_val (pe_call (ok_l_fine T) (hr.mono (by decide)) (by rfl) T.d_l_fine.g T.d_l_fine.F.kp T.d_l_fine.b .nil pass0 (pa_cons (pv 2) (pa_cons (pv 6) (pa_cons (pv 4) pa_nil))))))
    (fun _ _ _ _ _ => pv 6)) fun D σ H h => ?_
  obtain ⟨x0, x1, a, b, n, E, l, m, rfl, hA, q⟩ := h
  have hn6 := hA.v.n6
  have h64 := pow2_le hn6
  refine ⟨_, rfl, n, rfl, hn6, fun H1 p s1 hS => ?_⟩
  obtain ⟨as, hal, hE⟩ := id hS
  refine ⟨p, rfl, ⟨_, SqL.of hal⟩, fun DD hD => ?_⟩
  refine lcn_list (K := K) (k := tupO) (a := p) (xs := as.map V.ref) (fun j => ((sets n).take j).filter fun l => decide (Fine n (nearL n E) m l)) hD rfl (SqL.of hal) (fun j hj => ?_) (fun j x H3 R R' hx s3 hDo kT => ?_) fun H3 s3 hl3 => ?_
  · refine Nat.le_trans (List.length_filter_le _ _) ?_
    rw [List.length_take, sets_len]
    omega
  · obtain ⟨aj, haj, rfl⟩ := of_map_ref hx
    have hj : j < (sets n).length := by rw [← hE.1]; exact (List.getElem?_eq_some_iff.mp haj).1
    have hlj : (sets n)[j]? = some (sets n)[j] := List.getElem?_eq_getElem hj
    generalize (sets n)[j] = u at hlj
    have hlot := sets_lot (List.mem_of_getElem? hlj)
    obtain ⟨oD, hoD⟩ := hDo
    have hu := s3 _ _ (hE.2 _ _ _ haj hlj)
    refine ⟨rfl, ⟨_, rfl, _, rfl, _, rfl, a, aj, n, E, u, m, rfl, hA.net.same (s1.trans s3), hA.v, hu, hlot, fun H4 c s4 hc => ⟨c, rfl, ?_⟩⟩⟩
    cases c with
    | true =>
      refine iteT ⟨_, rfl, kT.1 aj u _ (fun z => ?_) s4 (s4 _ _ hu) ?_⟩
      · rw [z, hoD] at hu
        cases hu
      · show ((sets n).take (j + 1)).filter _ = _
        rw [take_more hlj, List.filter_append, filtl_pos (p := fun l => decide (Fine n (nearL n E) m l)) (decide_eq_true (hc.mp rfl))]
    | false =>
      refine iteF (kT.2 _ s4 ?_)
      show ((sets n).take (j + 1)).filter _ = _
      rw [take_more hlj, List.filter_append, filtl_neg (p := fun l => decide (Fine n (nearL n E) m l)) (decide_eq_false fun z => by have := hc.mpr z; cases this), List.append_nil]
  · have et : (sets n).take (as.map V.ref).length = sets n := List.take_of_length_le (by rw [List.length_map, hE.1]; exact Nat.le_refl _)
    rw [et] at hl3
    exact q H3 DD (hA.same (s1.trans s3)) hl3
def rd6 : TS := fun D σ H => ∃ x0 x1 x2 x3 x4 x5 x7, σ = LS x0 x1 x2 x3 x4 x5 none x7 none none none none none none none none none none ∧
  ∀ d, H d = none → D.nx (LS x0 x1 x2 x3 x4 x5 none x7 (some (.ref d)) none none none none none none none none none) (upd H d (.dT []))
theorem law_s6 : PS (LX P w base T cdv A outer s0 H0 E0') (lawSt 5) rd6 := by
  have nd := sc_law.nd
  refine PS.weak (ps_set (i := 8) nd rfl (.inr rfl) pe_dnewT) fun D σ H h => ?_
  obtain ⟨x0, x1, x2, x3, x4, x5, x7, rfl, q⟩ := h
  exact q
end
end ST

/-! LOrd -/
/-! law: the order of the lots, the table of worths. -/
namespace ST
open Classical
open PySem PySem.Spec PyProof.Rows L2 SM
open PySem.W (alike dataLt AllAlike)
section
variable {K : PySem.W.Frag} {g : TG} {tt : TT} {te : TE} {vs : List Nat} {σ : L2.St} {H0 : Hp} {D : Addr} {Qd : Hp → Prop}
/-- objects at the places -/
def EachO (H : Hp) (ts : List Addr) (os : List HO) : Prop := ts.length = os.length ∧ ∀ (i : Nat) (t : Addr) (o : HO), ts[i]? = some t → os[i]? = some o → H t = some o
/-- a comprehension without a condition, over a list that stands, whose items are new objects -/
theorem lco_list {a : Addr} {xs : List V} (os : List HO) (hD : H0 D = none) (ha : SqL K H0 a xs) (hlen : os.length = xs.length) (hz : xs.length ≤ 100000)
    (hs : ∀ (i : Nat) (x : V) (o : HO) (H : Hp) (R : V → Hp → Prop) (R' : Hp → Prop), xs[i]? = some x → os[i]? = some o → Same H0 H → (∃ q, H D = some (.lst q)) → (∀ (p : Addr) (H4 : Hp), p ≠ D → Same H H4 → H4 p = some o → R (.ref p) H4) →
      g x (wipe σ vs) H fun σ2 H2 => wipe σ2 vs = wipe σ vs ∧ tt σ2 H2 fun b H3 => if b = true then te σ2 H3 R else R' H3)
    (hd : ∀ H ts, Same H0 H → H D = some (.lst (ts.map V.ref)) → EachO H ts os → Qd H) :
    ∃ W : Nat → Nat → Hp → Prop, (∃ m, W 0 m (upd H0 D (.lst []))) ∧ ∀ i m H, W i m H →
      ((Itl K a).stop i H ∧ Qd H) ∨ ((Itl K a).go i H ∧ ∃ Nx : Hp → Prop, (∀ H', Nx H' → ∃ m', m' < m ∧ W (i + 1) m' H') ∧ ∀ x H', (Itl K a).yld i H x H' → g x (wipe σ vs) H' fun σ2 H2 => wipe σ2 vs = wipe σ vs ∧ tt σ2 H2 fun b H3 =>
        if b = true then te σ2 H3 fun y H4 => ∃ acc, H4 D = some (.lst acc) ∧ acc.length < sizeLine ∧ Nx (upd H4 D (.lst (acc ++ [y]))) else Nx H3) := by
  refine lc_list (K := K) (a := a) (xs := xs) (fun i H => Same H0 H ∧ ∃ ts : List Addr, H D = some (.lst (ts.map V.ref)) ∧ D ∉ ts ∧ EachO H ts (os.take i)) ⟨same_new hD, [], upd_same, by simp, rfl, fun i t o h => by cases i <;> cases h⟩ (fun i H _ p => p.1.seq ha) (fun i x H hx ⟨s, ts, hl, nD, e⟩ => ?_) fun H ⟨s, ts, hl, nD, e⟩ => ?_
  · have hi : i < xs.length := (List.getElem?_eq_some_iff.mp hx).1
    have ho : os[i]? = some os[i] := List.getElem?_eq_getElem (by omega)
    generalize os[i] = o at ho
    have htl : ts.length = i := by rw [e.1, List.length_take]; omega
    refine hs i x o H _ _ hx ho s ⟨_, hl⟩ fun p H4 hp s4 h4 => ⟨ts.map V.ref, s4 _ _ hl, small_lst (by rw [List.length_map]; omega), same_upd (s.trans s4) hD, ts ++ [p], by rw [upd_same, lst_snoc_ref], ?_, ?_, ?_⟩
    · intro m
      rcases List.mem_append.mp m with m | m
      · exact nD m
      · exact hp (List.mem_singleton.mp m).symm
    · rw [take_more ho, List.length_append, List.length_append, e.1]
      rfl
    · intro j t u ht hu
      rw [take_more ho] at hu
      have hos : (os.take i).length = i := by rw [List.length_take]; omega
      by_cases c : j < i
      · rw [List.getElem?_append_left (by omega)] at ht
        rw [List.getElem?_append_left (by omega)] at hu
        have := s4 _ _ (e.2 j t u ht hu)
        rw [upd_ne (show t ≠ D from fun z => nD (by rw [← z]; exact List.mem_of_getElem? ht))]
        exact this
      · rw [List.getElem?_append_right (by omega)] at ht
        rw [List.getElem?_append_right (by omega)] at hu
        have hj : j - i = 0 := by
          have := (List.getElem?_eq_some_iff.mp ht).1
          rw [List.length_singleton] at this
          omega
        rw [htl, hj] at ht
        rw [hos, hj] at hu
        have e1 : p = t := Option.some.inj ht
        have e2 : o = u := Option.some.inj hu
        rw [← e1, ← e2, upd_ne hp]
        exact h4
  · have et : os.take xs.length = os := List.take_of_length_le (by omega)
    rw [et] at e
    exact hd H ts s hl e
end
/-! ### (0 - len, lot), sorted -/
abbrev It := Addr × Addr × List Int
def neg (l : List Int) : Int := 0 - (l.length : Nat)
def itsD (ps : List It) : List (V × PyData) := ps.map fun p => (V.ref p.1, itD (neg p.2.2) p.2.2)
def Ahead (p q : It) : Prop := ¬ (neg q.2.2 < neg p.2.2 ∨ (neg q.2.2 = neg p.2.2 ∧ q.2.2 < p.2.2))
theorem its_items {K : PySem.W.Frag} {H : Hp} {ps : List It} (h : ∀ p ∈ ps, H p.1 = some (.tup [.int (neg p.2.2), .ref p.2.1]) ∧ H p.2.1 = some (tupO p.2.2)) (hl : ps.length ≤ 1000) : SortItems K H (itsD ps) where
  dp := fun b hb => by
    obtain ⟨p, hp, rfl⟩ := List.mem_map.mp hb
    exact dp_it (h p hp).1 (h p hp).2
  al := by
    intro d hd d' hd'
    obtain ⟨b, hb, rfl⟩ := List.mem_map.mp hd
    obtain ⟨b', hb', rfl⟩ := List.mem_map.mp hd'
    obtain ⟨p, hp, rfl⟩ := List.mem_map.mp hb
    obtain ⟨p', hp', rfl⟩ := List.mem_map.mp hb'
    exact alike_it _ _ _ _
  so := .inl fun d hd => by
    obtain ⟨b, hb, rfl⟩ := List.mem_map.mp hd
    obtain ⟨p, hp, rfl⟩ := List.mem_map.mp hb
    exact ⟨_, _, rfl⟩
  de := fun b hb => by
    obtain ⟨p, hp, rfl⟩ := List.mem_map.mp hb
    show (itD (neg p.2.2) p.2.2).depth ≤ 8
    rw [depth_it]
    decide
  le := by unfold itsD; rw [List.length_map]; exact hl
theorem its_sorted (ps : List It) : ∃ qs : List It, (itsD ps).mergeSort dLe = itsD qs ∧ qs.Perm ps ∧ qs.Pairwise Ahead := by
  have dl : ∀ p q : It, dLe (V.ref p.1, itD (neg p.2.2) p.2.2) (V.ref q.1, itD (neg q.2.2) q.2.2) = decide (Ahead p q) := fun p q => by
    show (!dataLt (itD (neg q.2.2) q.2.2) (itD (neg p.2.2) p.2.2)) = _
    rw [lt_it]
    unfold Ahead
    by_cases h : (neg q.2.2 < neg p.2.2 ∨ (neg q.2.2 = neg p.2.2 ∧ q.2.2 < p.2.2)) <;> simp [h]
  refine ⟨ps.mergeSort fun p q => decide (Ahead p q), ?_, List.mergeSort_perm _ _, ?_⟩
  · unfold itsD
    rw [List.map_mergeSort (r := fun p q : It => decide (Ahead p q)) (s := dLe)]
    intro a _ b _
    exact (dl a b).symm
  · have := List.pairwise_mergeSort (le := fun p q : It => decide (Ahead p q)) (fun a b c h1 h2 => ?_) (fun a b => ?_) ps
    · exact this.imp fun h => of_decide_eq_true h
    · have h1 := of_decide_eq_true h1
      have h2 := of_decide_eq_true h2
      refine decide_eq_true ?_
      unfold Ahead at h1 h2 ⊢
      rintro (z | ⟨z, z2⟩)
      · by_cases c1 : neg b.2.2 < neg a.2.2
        · exact h1 (.inl c1)
        · exact h2 (.inl (by omega))
      · have c1 : ¬ neg b.2.2 < neg a.2.2 := fun y => h1 (.inl y)
        have c2 : ¬ neg c.2.2 < neg b.2.2 := fun y => h2 (.inl y)
        have d1 : ¬ b.2.2 < a.2.2 := fun y => h1 (.inr ⟨by omega, y⟩)
        have d2 : ¬ c.2.2 < b.2.2 := fun y => h2 (.inr ⟨by omega, y⟩)
        exact (List.le_trans (show a.2.2 ≤ b.2.2 from d1) (show b.2.2 ≤ c.2.2 from d2)) z2
    · simp only [Bool.or_eq_true, decide_eq_true_eq]
      by_cases c1 : neg b.2.2 < neg a.2.2
      · refine .inr ?_
        rintro (z | ⟨z, _⟩) <;> omega
      · by_cases c2 : neg a.2.2 < neg b.2.2
        · refine .inl ?_
          rintro (z | ⟨z, _⟩) <;> omega
        · rcases lexle_total a.2.2 b.2.2 with h | h
          · refine .inl ?_
            rintro (z | ⟨_, z⟩)
            · exact c1 z
            · exact h z
          · refine .inr ?_
            rintro (z | ⟨_, z⟩)
            · exact c2 z
            · exact h z
theorem Ahead.len {p q : It} (h : Ahead p q) : q.2.2.length ≤ p.2.2.length := by
  unfold Ahead neg at h
  have : ¬ (0 - (q.2.2.length : Nat) : Int) < 0 - (p.2.2.length : Nat) := fun z => h (.inl z)
  omega
/-- longer lots come first -/
theorem ahead_take {qs : List It} (h : qs.Pairwise Ahead) {i : Nat} {q : It} (hq : qs[i]? = some q) {p : It} (hp : p ∈ qs) (hl : q.2.2.length < p.2.2.length) : p ∈ qs.take i := by
  obtain ⟨j, hj⟩ := List.getElem?_of_mem hp
  by_cases c : j < i
  · rw [List.mem_iff_getElem?]
    exact ⟨j, by rw [List.getElem?_take_of_lt c]; exact hj⟩
  · exfalso
    by_cases e : j = i
    · subst e
      rw [hq] at hj
      cases hj
      omega
    · have hj1 := (List.getElem?_eq_some_iff.mp hj)
      have hi1 := (List.getElem?_eq_some_iff.mp hq)
      have := List.pairwise_iff_getElem.mp h i j hi1.1 hj1.1 (by omega)
      rw [hi1.2, hj1.2] at this
      have := this.len
      omega
/-! ### the table of worths -/
structure WD (n : Nat) (L : List (List Int)) (m : Int) (done : List (List Int)) (kvs : List (List Key × V)) : Prop where
  val : ∀ l, valV kvs (keyI l) = if l ∈ done then some (.int (worth n L m l)) else none
  len : kvs.length ≤ done.length
theorem wd_nil (n : Nat) (L : List (List Int)) (m : Int) : WD n L m [] [] := ⟨fun l => rfl, Nat.le_refl _⟩
theorem putK_len {κ : Type} [DecidableEq κ] (kvs : List (κ × V)) (k : κ) (v : V) : (putK kvs k v).length ≤ kvs.length + 1 := by
  cases e : valV kvs k with
  | none => rw [putK_new v e, List.length_append]; exact Nat.le_refl _
  | some u =>
    have := congrArg List.length (putK_fst (v := v) e)
    rw [List.length_map, List.length_map] at this
    omega
theorem WD.put {n : Nat} {L : List (List Int)} {m : Int} {done : List (List Int)} {kvs : List (List Key × V)} (h : WD n L m done kvs) (l : List Int) : WD n L m (done ++ [l]) (putK kvs (keyI l) (.int (worth n L m l))) := by
  refine ⟨fun u => ?_, ?_⟩
  · rw [valV_put]
    by_cases c : keyI u = keyI l
    · have e := keyI_inj c
      subst e
      rw [if_pos rfl, if_pos (by simp)]
    · have c2 : u ≠ l := fun z => c (by rw [z])
      rw [if_neg c, h.val]
      by_cases c3 : u ∈ done
      · rw [if_pos c3, if_pos (List.mem_append_left _ c3)]
      · rw [if_neg c3, if_neg fun z => (List.mem_append.mp z).elim c3 fun z => c2 (List.mem_singleton.mp z)]
  · rw [List.length_append]
    exact Nat.le_trans (putK_len _ _ _) (Nat.add_le_add_right h.len 1)
theorem mex_congr {a b : List Nat} (h : ∀ x, x ∈ a ↔ x ∈ b) : mex a = mex b := mex_unique (fun z => mex_not ((h _).mpr z)) fun j hj => (h _).mp (mex_below hj)
/-- the least of the numbers up to the length that are none of a list's -/
theorem least_mex {ws : List Nat} {ns : List Int} (h : ∀ x : Int, x ∈ ns ↔ (0 ≤ x ∧ x < ((ws.length + 1 : Nat) : Int) ∧ x ∉ ws.map fun k : Nat => (k : Int))) : ns ≠ [] ∧ ∀ v, v ∈ ns → (∀ y ∈ ns, v ≤ y) → v = (mex ws : Nat) := by
  have hm : ((mex ws : Nat) : Int) ∈ ns := (h _).mpr ⟨by omega, by have := mex_le ws; omega, fun z => by
    obtain ⟨k, hk, e⟩ := List.mem_map.mp z
    have : k = mex ws := by omega
    exact mex_not (this ▸ hk)⟩
  refine ⟨fun z => (by rw [z] at hm; cases hm), fun v hv hmin => ?_⟩
  have h1 := hmin _ hm
  obtain ⟨h0, _, h2⟩ := (h v).mp hv
  by_cases c : v = (mex ws : Nat)
  · exact c
  · exfalso
    have : v.toNat < mex ws := by omega
    exact h2 (List.mem_map.mpr ⟨v.toNat, mex_below this, by omega⟩)
end ST

/-! LLaw2 -/
/-! law, statement by statement: the worths. -/
namespace ST
open Classical
open PySem PySem.Spec PyProof.Rows L2 SM
/-- the pairs (number, lot) at their places -/
theorem its_of {H : Hp} {φ : List Int → Int} : ∀ {ts as : List Addr} {fs : List (List Int)}, EachO H ts ((as.zip fs).map fun p => HO.tup [.int (φ p.2), .ref p.1]) → Each tupO H as fs →
    ∃ ps : List It, ps.map (·.1) = ts ∧ ps.map (·.2.2) = fs ∧ ∀ p ∈ ps, H p.1 = some (.tup [.int (φ p.2.2), .ref p.2.1]) ∧ H p.2.1 = some (tupO p.2.2)
  | [], [], [], _, _ => ⟨[], rfl, rfl, fun p h => by cases h⟩
  | _, [], _ :: _, _, h => by cases h.1
  | _, _ :: _, [], _, h => by cases h.1
  | _ :: _, [], [], h, _ => by cases h.1
  | [], _ :: _, _ :: _, h, _ => by cases h.1
  | t :: ts, a :: as, l :: fs, h, e => by
    obtain ⟨ps, h1, h2, h3⟩ := its_of (φ := φ) (H := H) (ts := ts) (as := as) (fs := fs) ⟨Nat.succ.inj h.1, fun i t o ht ho => h.2 (i + 1) t o ht ho⟩ ⟨Nat.succ.inj e.1, fun i b m hb hm => e.2 (i + 1) b m hb hm⟩
    refine ⟨(t, a, l) :: ps, by rw [List.map_cons, h1], by rw [List.map_cons, h2], fun p hp => ?_⟩
    rcases List.mem_cons.mp hp with rfl | hp
    · exact ⟨h.2 0 t _ rfl rfl, e.2 0 a l rfl rfl⟩
    · exact h3 p hp
theorem zip_get {as : List Addr} {fs : List (List Int)} {i : Nat} {a : Addr} {l : List Int} (h1 : as[i]? = some a) (h2 : fs[i]? = some l) : (as.zip fs)[i]? = some (a, l) := by
  rw [List.getElem?_zip_eq_some]
  exact ⟨h1, h2⟩
theorem hbk {H : Hp} {b : Addr} {l : List Int} (h : H b = some (tupO l)) : H b = some (.tup ((keyI l).map kV)) := by rw [keyI_V]; exact h
/-- the lots with one stone more -/
def cands (n : Nat) (l : List Int) : List (List Int) := ((pts n).filter fun p => decide (p ∉ l)).map fun p => ins p l
theorem mem_cands {n : Nat} {l u : List Int} : u ∈ cands n l ↔ ∃ p : Int, (0 ≤ p ∧ p < (n : Int)) ∧ p ∉ l ∧ u = ins p l := by
  unfold cands
  rw [List.mem_map]
  constructor
  · rintro ⟨p, hp, rfl⟩
    obtain ⟨h1, h2⟩ := List.mem_filter.mp hp
    exact ⟨p, mem_pts.mp h1, of_decide_eq_true h2, rfl⟩
  · rintro ⟨p, h1, h2, rfl⟩
    exact ⟨p, List.mem_filter.mpr ⟨mem_pts.mpr h1, decide_eq_true h2⟩, rfl⟩
theorem cands_len (n : Nat) (l : List Int) : (cands n l).length ≤ n := by
  unfold cands
  rw [List.length_map]
  refine Nat.le_trans (List.length_filter_le _ _) ?_
  rw [len_pts]
  exact Nat.le_refl _
theorem mex_worth {n : Nat} {L : List (List Int)} {m : Int} {l : List Int} {done : List (List Int)} (hl : IsLot n l) (h1 : ∀ u ∈ done, Fine n L m u) (h2 : ∀ u, IsLot n u → Fine n L m u → l.length < u.length → u ∈ done) :
    mex (((cands n l).filter fun u => decide (u ∈ done)).map fun u => worth n L m u) = worth n L m l := by
  rw [worth_eq hl]
  refine mex_congr fun x => ?_
  rw [List.mem_map, List.mem_map]
  constructor
  · rintro ⟨u, hu, rfl⟩
    obtain ⟨hc, hd⟩ := List.mem_filter.mp hu
    obtain ⟨p, hp, hn, rfl⟩ := mem_cands.mp hc
    exact ⟨p, mem_free.mpr ⟨hp, hn, h1 _ (of_decide_eq_true hd)⟩, rfl⟩
  · rintro ⟨p, hp, rfl⟩
    obtain ⟨hr, hn, hf⟩ := mem_free.mp hp
    refine ⟨ins p l, List.mem_filter.mpr ⟨mem_cands.mpr ⟨p, hr, hn, rfl⟩, decide_eq_true (h2 _ (hl.ins hn hr.1 hr.2) hf ?_)⟩, rfl⟩
    rw [len_ins]
    omega
section
variable {P : Program} {w : World} {K : PySem.W.Frag} {mg : Str → Option Value} {base : Heap} {T : Txt K mg} {cdv : Value} {A : Around} {outer : List Env} {s0 : Shared} {H0 : Hp} {E0' : XK}
def rd7 : TS := fun D σ H => ∃ (x0 x1 : Option V) (a b : Addr) (n : Nat) (E : List Pr) (l : List Int) (m : Int) (f d : Addr), σ = LS x0 x1 (some (.ref a)) (some (.int n)) (some (.int m)) (some (.ref b)) none (some (.ref f)) (some (.ref d)) none none none none none none none none none ∧
  ArgsOk H a b n E l m ∧ Seqs tupO H f (fines n (nearL n E) m) ∧ H d = some (.dT []) ∧
  ∀ H' kvs done x6 x9 x10 x11, ArgsOk H' a b n E l m → Seqs tupO H' f (fines n (nearL n E) m) → H' d = some (.dT kvs) → WD n (nearL n E) m done kvs → (∀ u, u ∈ done ↔ u ∈ fines n (nearL n E) m) →
    D.nx (LS x0 x1 (some (.ref a)) (some (.int n)) (some (.int m)) (some (.ref b)) x6 (some (.ref f)) (some (.ref d)) x9 x10 x11 none none none none none none) H'
theorem law_s7 (hr : Room 14 (A.deeper (envOfC (Str.ofString "law") (defScope s_law) s0.heap.objs.size T.d_law.f cdv))) : PS (LX P w base T cdv A outer s0 H0 E0') (lawSt 6) rd7 := by
  have nd := sc_law.nd
  have hu64 := hr.units
  have hu := hu_of hr
  refine PS.weak (ps_for PassesOwn.never rfl (pi_list (pe_callB (cr_sortedDt hu64) (by rfl) T.z_sorted bt_sorted (pa_cons (pe_lc (own := [("_law_told", 6)]) rfl nd (pi_list (pv 7)) (blkOk_by (own := [("_law_told", 6)]) (N := n_law) (sc := defScope s_law) (by decide +kernel))
      (fun _ _ _ _ _ => pg_name (i := 6) nd rfl (Or.inl rfl)) (fun _ _ _ _ _ => pts_nil)
      (fun _ _ _ _ _ => pe_tup (pa_cons (pe_op op_sub pe_int (pe_callB (crLen K) (by rfl) T.z_len bt_len (pa_cons (pv 6) pa_nil))) (pa_cons (pv 6) pa_nil)))) pa_nil))) (pg_tup rfl (pgs_cons (pg_name (i := 9) nd rfl (.inl rfl)) (pgs_cons (pg_name (i := 6) nd rfl (.inr rfl)) pgs_nil)))
    (pss_cons (ps_setLc (i := 10) (own := [("_law_point", 18)]) (g := gName 18) rfl nd rfl rfl (sw_true rfl rfl rfl (by decide +kernel)) (pi_range1 (by rfl) T.z_range (pa_cons (pv 3) pa_nil)) (blkOk_by (own := [("_law_point", 18)]) (N := n_law) (sc := defScope s_law) (by decide +kernel))
      (fun _ _ _ _ _ => pg_name (i := 18) nd rfl (Or.inl rfl))
      (fun _ _ _ _ _ => pts_one (pt_cmpR (opNotIn K) (pv 18) (pv 6) (by rfl)))
      (fun _ _ _ _ _ => pe_call (ok_l_put T) (hr.mono (by decide)) (by rfl) T.d_l_put.g T.d_l_put.F.kp T.d_l_put.b .nil pass0 (pa_cons (pv 6) (pa_cons (pv 18) pa_nil))))
    (pss_cons (ps_set (i := 11) nd rfl (.inr rfl) (pe_lc (own := [("_law_more", 19)]) rfl nd (pi_list (pv 10)) (blkOk_by (own := [("_law_more", 19)]) (N := n_law) (sc := defScope s_law) (by decide +kernel))
      (fun _ _ _ _ _ => pg_name (i := 19) nd rfl (Or.inl rfl))
      (fun _ _ _ _ _ => pts_one (pt_cmp (pc_din hu (pv 19) (pv 8))))
      (fun _ _ _ _ _ => pe_dget hu (pv 8) (pv 19) (fun _ _ => rfl))))
    (pss_one (ps_dput hu (pv 8) (pv 6) (pe_callB (cr_min rfl) (by rfl) T.z_min bt_min (pa_cons (pe_lc (own := [("_law_number", 20)]) rfl nd (pi_range1 (by rfl) T.z_range (pa_cons (pe_op op_add (pe_callB call_len_seq (by rfl) T.z_len bt_len (pa_cons (pv 11) pa_nil)) pe_int) pa_nil)) (blkOk_by (own := [("_law_number", 20)]) (N := n_law) (sc := defScope s_law) (by decide +kernel))
      (fun _ _ _ _ _ => pg_name (i := 20) nd rfl (Or.inl rfl))
      (fun _ _ _ _ _ => pts_one (pt_cmpR (opNotIn K) (pv 20) (pv 11) (by rfl)))
      (fun _ _ _ _ _ => pv 20)) pa_nil)) rfl))))) fun D σ H h => ?_
  obtain ⟨x0, x1, a, b, n, E, l, m, f, d, rfl, hA, hF, hd, q⟩ := h
  have hV := hA.v
  have hn6 := hV.n6
  have h64 := pow2_le hn6
  have hn0 := hV.n0
  obtain ⟨as, hal, hE⟩ := id hF
  have hfl : (fines n (nearL n E) m).length ≤ 64 := by
    unfold fines
    refine Nat.le_trans (List.length_filter_le _ _) ?_
    rw [sets_len]
    exact h64
  generalize hfs : fines n (nearL n E) m = fs at hF hE hfl q
  have hmem : ∀ {u}, u ∈ fs ↔ IsLot n u ∧ Fine n (nearL n E) m u := fun {u} => by rw [← hfs]; exact mem_fines
  refine ⟨_, rfl, f, rfl, ⟨_, SqL.of hal⟩, fun D1 hD1 => ?_⟩
  refine lco_list (K := K) (a := f) (xs := as.map V.ref) ((as.zip fs).map fun p => HO.tup [.int (neg p.2), .ref p.1]) hD1 (SqL.of hal) (by rw [List.length_map, List.length_map, List.length_zip, hE.1]; exact Nat.min_self _) (by rw [List.length_map, hE.1]; omega) (fun i x o H1 R R' hx ho s1 hDo kR => ?_) fun H1 ts s1 hl1 hts => ?_
  · obtain ⟨ai, hai, rfl⟩ := of_map_ref hx
    have hi : i < fs.length := by rw [← hE.1]; exact (List.getElem?_eq_some_iff.mp hai).1
    have hli : fs[i]? = some fs[i] := List.getElem?_eq_getElem hi
    generalize fs[i] = u at hli
    rw [List.getElem?_map, zip_get hai hli] at ho
    have ho := Option.some.inj ho
    obtain ⟨oD, hoD⟩ := hDo
    refine ⟨rfl, ⟨_, rfl, ai, _, rfl, .inr (SqT.of (s1 _ _ (hE.2 _ _ _ hai hli))), _, _, rfl, rfl, _, rfl, (by show 2 ≤ sizeLine; decide), fun t ht => kR t _ (fun z => ?_) (same_new ht) ?_⟩⟩
    · rw [z, hoD] at ht
      cases ht
    · rw [upd_same, ← ho, List.length_map]
      rfl
  obtain ⟨ps, hp1, hp2, hp3⟩ := its_of hts (⟨hE.1, fun i a l ha hl => s1 _ _ (hE.2 i a l ha hl)⟩)
  have hpl : ps.length = fs.length := by rw [← hp2, List.length_map]
  refine ⟨D1, itsD ps, rfl, .inl (SqL.of ?_), its_items hp3 (by omega), fun sp hsp => ?_⟩
  · rw [hl1, ← hp1]
    unfold itsD
    rw [List.map_map, List.map_map]
    rfl
  obtain ⟨qs, eqs, hqp, hqa⟩ := its_sorted ps
  rw [eqs]
  have eq2 : (itsD qs).map (·.1) = qs.map fun q => V.ref q.1 := by unfold itsD; rw [List.map_map]; rfl
  rw [eq2]
  have ss : Same H1 (upd H1 sp (.lst (qs.map fun q => V.ref q.1))) := same_new hsp
  have gs : (upd H1 sp (.lst (qs.map fun q => V.ref q.1))) sp = some (.lst (qs.map fun q => V.ref q.1)) := upd_same
  generalize upd H1 sp (.lst (qs.map fun q => V.ref q.1)) = H2 at ss gs
  have s2 := s1.trans ss
  have hd2 := s2 _ _ hd
  have hA2 := hA.same s2
  have hF2 := hF.same s2
  have ndt : ∀ xs, HO.dT [] ≠ .tup xs := fun xs z => by cases z
  have nsp : sp ≠ d := ne_of gs hd2 (by intro z; cases z)
  have nfd : f ≠ d := ne_of hal hd (by intro z; cases z)
  have qfacts : ∀ q ∈ qs, H2 q.1 = some (.tup [.int (neg q.2.2), .ref q.2.1]) ∧ H2 q.2.1 = some (tupO q.2.2) ∧ q.2.2 ∈ fs := fun q hq => by
    have hq2 := hqp.mem_iff.mp hq
    obtain ⟨z1, z2⟩ := hp3 q hq2
    refine ⟨ss _ _ z1, ss _ _ z2, ?_⟩
    rw [← hp2]
    exact List.mem_map.mpr ⟨q, hq2, rfl⟩
  have qlen : qs.length ≤ 64 := by rw [hqp.length_eq]; omega
  refine ⟨sp, rfl, ⟨_, SqL.of gs⟩, ?_⟩
  refine for_list (K := K) (a := sp) (xs := qs.map fun q => V.ref q.1) (fun i σ H' => ∃ (kvs : List (List Key × V)) (x6 x9 x10 x11 : Option V), σ = LS x0 x1 (some (.ref a)) (some (.int n)) (some (.int m)) (some (.ref b)) x6 (some (.ref f)) (some (.ref d)) x9 x10 x11 none none none none none none ∧
    But d H2 H' ∧ H' d = some (.dT kvs) ∧ WD n (nearL n E) m ((qs.take i).map (·.2.2)) kvs) ?_ ?_ ?_ ?_
  · exact ⟨[], none, none, none, none, rfl, But.refl d H2, hd2, wd_nil _ _ _⟩
  · rintro i σ H' _ ⟨kvs, x6, x9, x10, x11, rfl, sB, _⟩
    exact SqL.of (sB _ _ nsp gs)
  · rintro i x σ H' hx ⟨kvs, x6, x9, x10, x11, rfl, sB, hd', hW⟩
    rw [List.getElem?_map] at hx
    have hi : i < qs.length := by
      by_cases c : i < qs.length
      · exact c
      · rw [List.getElem?_eq_none (by omega)] at hx
        cases hx
    have hqi : qs[i]? = some qs[i] := List.getElem?_eq_getElem hi
    generalize qs[i] = qi at hqi
    rw [hqi] at hx
    have hx : V.ref qi.1 = x := Option.some.inj hx
    subst hx
    obtain ⟨t, aq, lq⟩ := qi
    obtain ⟨g1, g2, g3⟩ := qfacts _ (List.mem_of_getElem? hqi)
    obtain ⟨hlq, hfq⟩ := hmem.mp g3
    have hlql : lq.length ≤ n := hlq.len
    have nt : ∀ {c xs}, H2 c = some (.tup xs) → c ≠ d := fun h => ne_of h hd2 (by intro z; cases z)
    have g1' := sB _ _ (nt g1) g1
    have g2' := sB _ _ (nt g2) g2
    refine ⟨t, _, rfl, SqT.of g1', rfl, _, _, rfl, _, _, rfl, rfl, ?_⟩
    have hdl : ((qs.take i).map (·.2.2)).length ≤ 64 := by rw [List.length_map, List.length_take]; omega
    have hdn : ∀ u ∈ (qs.take i).map (·.2.2), Fine n (nearL n E) m u := fun u hu => by
      obtain ⟨q', hq', rfl⟩ := List.mem_map.mp hu
      exact (hmem.mp (qfacts q' (List.mem_of_mem_take hq')).2.2).2
    have hdn2 : ∀ u, IsLot n u → Fine n (nearL n E) m u → lq.length < u.length → u ∈ (qs.take i).map (·.2.2) := fun u h1 h2 h3 => by
      have : u ∈ ps.map (·.2.2) := by rw [hp2]; exact hmem.mpr ⟨h1, h2⟩
      obtain ⟨p', hp', e⟩ := List.mem_map.mp this
      subst e
      exact List.mem_map.mpr ⟨p', ahead_take hqa hqi (hqp.mem_iff.mpr hp') h3, rfl⟩
    have hmex := mex_worth (done := (qs.take i).map (·.2.2)) hlq hdn hdn2
    generalize hdone : (qs.take i).map (·.2.2) = done at hW hdl hmex
    -- the lots with one stone more
    refine ⟨_, rfl, n, rfl, by omega, by omega, fun D2 hD2 => ?_⟩
    have en : ((n : Int)).toNat = n := by omega
    rw [en]
    refine lcn_range (lo := 0) (n := n) (k := tupO) (fun i => (((pts n).take i).filter fun p => decide (p ∉ lq)).map fun p => ins p lq) hD2 rfl (fun i hi => ?_) (fun i H3 R R' hi s3 hDo kT => ?_) fun H3 s3 hl3 => ?_
    · rw [List.length_map]
      refine Nat.le_trans (List.length_filter_le _ _) ?_
      rw [List.length_take]
      omega
    · have ei : (0 : Int) + (i : Int) = (i : Int) := by omega
      rw [ei]
      have g3' := s3 _ _ g2'
      obtain ⟨oD, hoD⟩ := hDo
      refine ⟨rfl, ⟨_, rfl, _, rfl, aq, _, rfl, .inr (SqT.of g3'), rfl, flat_ints lq, _, rfl, ?_⟩⟩
      show if (!inV (V.int (i : Int)) (lq.map V.int)) = true then _ else _
      rw [inV_ints]
      by_cases c : (i : Int) ∈ lq
      · rw [decide_eq_true c]
        refine iteF (kT.2 _ (Same.refl _) ?_)
        show (((pts n).take (i + 1)).filter _).map _ = _
        rw [take_more (pts_get hi), List.filter_append, filt_neg (decide_eq_false (not_not_intro c)), List.append_nil]
      · rw [decide_eq_false c]
        refine iteT ⟨_, rfl, _, rfl, aq, lq, i, rfl, g3', hlq.asc, c, by omega, fun H4 cc s4 hc => kT.1 cc _ H4 (fun z => ?_) s4 hc ?_⟩
        · have := s4 _ _ hoD
          rw [← z, hc] at this
          cases this
        · show (((pts n).take (i + 1)).filter _).map _ = _
          rw [take_more (pts_get hi), List.filter_append, filt_pos (decide_eq_true c), List.map_append]
          rfl
    have ec : (((pts n).take n).filter fun p => decide (p ∉ lq)).map (fun p => ins p lq) = cands n lq := by rw [pts_take (Nat.le_refl n)]; rfl
    rw [ec] at hl3
    have hcl := cands_len n lq
    obtain ⟨cs, hcs, hC⟩ := id hl3
    -- the worths of those that are fine
    refine ⟨_, rfl, D2, rfl, ⟨_, SqL.of hcs⟩, fun D3 hD3 => ?_⟩
    refine lcs_list (K := K) (a := D2) (xs := cs.map V.ref) (fun j => ((((cands n lq).take j).filter fun u => decide (u ∈ done)).map fun u => worth n (nearL n E) m u).map fun k : Nat => V.int (k : Int)) hD3 rfl (SqL.of hcs) (fun j hj => ?_) (fun j x H4 R R' hx s4 kR kR' => ?_) fun H4 s4 hl4 => ?_
    · rw [List.length_map, List.length_map]
      refine Nat.le_trans (List.length_filter_le _ _) ?_
      rw [List.length_take]
      omega
    · obtain ⟨cj, hcj, rfl⟩ := of_map_ref hx
      have hj : j < (cands n lq).length := by rw [← hC.1]; exact (List.getElem?_eq_some_iff.mp hcj).1
      have hlj : (cands n lq)[j]? = some (cands n lq)[j] := List.getElem?_eq_getElem hj
      generalize (cands n lq)[j] = u at hlj
      have hu4 := s4 _ _ (hC.2 _ _ _ hcj hlj)
      have hd4 := s4 _ _ (s3 _ _ hd')
      have gt : DGet H4 d (.ref cj) (valV kvs (keyI u)) := DGet.t (k := keyI u) hd4 (hbk hu4)
      rw [hW.val] at gt
      refine ⟨rfl, ⟨_, rfl, _, rfl, d, _, rfl, gt, _, rfl, ?_⟩⟩
      by_cases c : u ∈ done
      · rw [if_pos c] at gt ⊢
        refine iteT ⟨_, rfl, _, rfl, d, _, rfl, gt, kR _ _ (Same.refl _) ?_⟩
        show (((((cands n lq).take (j + 1)).filter _).map _).map _) = _
        rw [take_more hlj, List.filter_append, filtl_pos (p := fun u => decide (u ∈ done)) (decide_eq_true c), List.map_append, List.map_append]
        rfl
      · rw [if_neg c]
        refine iteF (kR' _ (Same.refl _) ?_)
        show (((((cands n lq).take (j + 1)).filter _).map _).map _) = _
        rw [take_more hlj, List.filter_append, filtl_neg (p := fun u => decide (u ∈ done)) (decide_eq_false c), List.append_nil]
    have et : (cands n lq).take (cs.map V.ref).length = cands n lq := List.take_of_length_le (by rw [List.length_map, hC.1]; exact Nat.le_refl _)
    rw [et] at hl4
    generalize hws : ((cands n lq).filter fun u => decide (u ∈ done)).map (fun u => worth n (nearL n E) m u) = ws at hl4 hmex
    have hwl : ws.length ≤ n := by
      rw [← hws, List.length_map]
      exact Nat.le_trans (List.length_filter_le _ _) hcl
    have hl4 : H4 D3 = some (lstO (ws.map fun k : Nat => (k : Int))) := by
      rw [hl4]
      unfold lstO
      rw [List.map_map]
      rfl
    -- the least number that is none of them
    refine ⟨_, rfl, D3, _, rfl, .inl (SqL.of hl4), _, 1, rfl, rfl, _, rfl, ?_, ?_, fun D4 hD4 => ?_⟩
    · rw [List.length_map, List.length_map]
      omega
    · rw [List.length_map, List.length_map]
      omega
    have en2 : ((((ws.map fun k : Nat => (k : Int)).map V.int).length : Nat) + 1 : Int).toNat = ws.length + 1 := by rw [List.length_map, List.length_map]; omega
    rw [en2]
    refine lcs_range (lo := 0) (n := ws.length + 1) (fun i => (((pts (ws.length + 1)).take i).filter fun z => decide (z ∉ ws.map fun k : Nat => (k : Int))).map V.int) hD4 rfl (fun i hi => ?_) (fun i H5 R R' hi s5 kR kR' => ?_) fun H5 s5 hl5 => ?_
    · rw [List.length_map]
      refine Nat.le_trans (List.length_filter_le _ _) ?_
      rw [List.length_take]
      omega
    · have ei : (0 : Int) + (i : Int) = (i : Int) := by omega
      rw [ei]
      refine ⟨rfl, ⟨_, rfl, _, rfl, D3, _, rfl, .inl (SqL.of (s5 _ _ hl4)), rfl, flat_ints _, _, rfl, ?_⟩⟩
      show if (!inV (V.int (i : Int)) ((ws.map fun k : Nat => (k : Int)).map V.int)) = true then _ else _
      rw [inV_ints]
      by_cases c : (i : Int) ∈ ws.map fun k : Nat => (k : Int)
      · rw [decide_eq_true c]
        refine iteF (kR' _ (Same.refl _) ?_)
        show (((pts (ws.length + 1)).take (i + 1)).filter _).map _ = _
        rw [take_more (pts_get hi), List.filter_append, filt_neg (decide_eq_false (not_not_intro c)), List.append_nil]
      · rw [decide_eq_false c]
        refine iteT ⟨_, rfl, kR _ _ (Same.refl _) ?_⟩
        show (((pts (ws.length + 1)).take (i + 1)).filter _).map _ = _
        rw [take_more (pts_get hi), List.filter_append, filt_pos (decide_eq_true c), List.map_append]
        rfl
    rw [pts_take (Nat.le_refl _)] at hl5
    obtain ⟨hne, hleast⟩ := least_mex (ws := ws) (ns := (pts (ws.length + 1)).filter fun z => decide (z ∉ ws.map fun k : Nat => (k : Int))) fun z => by
      rw [List.mem_filter, mem_pts, decide_eq_true_iff]
      exact ⟨fun h => ⟨h.1.1, h.1.2, h.2⟩, fun h => ⟨⟨h.1, h.2.1⟩, h.2.2⟩⟩
    refine ⟨D4, _, rfl, SqL.of hl5, List.length_pos_iff.mpr hne, fun v hv hmin => ?_⟩
    have ev := hleast v hv hmin
    rw [hmex] at ev
    subst ev
    have s35 := s3.trans (s4.trans s5)
    have hd5 := s35 _ _ hd'
    have hkl := hW.len
    refine ⟨_, rfl, _, rfl, d, _, rfl, DPut.t (k := keyI lq) hd5 (hbk (s35 _ _ g2')) (small_lst (by omega)), ?_⟩
    refine ⟨_, _, _, _, _, rfl, (sB.trans (Same.but s35)).trans but_upd, upd_same, ?_⟩
    rw [take_more hqi, List.map_append, hdone]
    exact hW.put lq
  · rintro σ H' ⟨kvs, x6, x9, x10, x11, rfl, sB, hd', hW⟩
    rw [List.length_map, List.take_length] at hW
    refine q H' kvs _ x6 x9 x10 x11 (hA2.but sB hd2 ndt) ?_ hd' hW fun u => ?_
    · exact sB.seqs hF2 nfd fun l z => by rw [hd2] at z; cases z
    · rw [← hp2, List.mem_map, List.mem_map]
      constructor
      · rintro ⟨q', hq', rfl⟩
        exact ⟨q', hqp.mem_iff.mp hq', rfl⟩
      · rintro ⟨q', hq', rfl⟩
        exact ⟨q', hqp.mem_iff.mpr hq', rfl⟩
end
end ST

/-! LLaw3 -/
/-! law, statement by statement: the three works. -/
namespace ST
open Classical
open PySem PySem.Spec PyProof.Rows L2 SM
/-- the winning points -/
noncomputable def wins (n : Nat) (L : List (List Int)) (m : Int) (l : List Int) : List Int := (free n L m l).filter fun x => decide (worth n L m (ins x l) = 0)
/-- what the list holds behind i works -/
def FI (n : Nat) (L : List (List Int)) (m : Int) (l : List Int) (i : Nat) (H : Hp) (fd : Addr) (vs : List V) : Prop :=
  (Fine n L m l → match i with
    | 0 => vs = []
    | 1 => ∃ p1, vs = [.ref p1] ∧ p1 ≠ fd ∧ H p1 = some (lstO (free n L m l))
    | 2 => ∃ p1, vs = [.ref p1, .int (worth n L m l)] ∧ p1 ≠ fd ∧ H p1 = some (lstO (free n L m l))
    | _ => ∃ p1 p2, vs = [.ref p1, .int (worth n L m l), .ref p2] ∧ p1 ≠ fd ∧ p2 ≠ fd ∧ H p1 = some (lstO (free n L m l)) ∧ H p2 = some (lstO (wins n L m l))) ∧
  (¬ Fine n L m l → vs = List.replicate i (.str (Str.ofString "none")))
section
variable {P : Program} {w : World} {K : PySem.W.Frag} {mg : Str → Option Value} {base : Heap} {T : Txt K mg} {cdv : Value} {A : Around} {outer : List Env} {s0 : Shared} {H0 : Hp} {E0' : XK}
def rd8a : TS := fun D σ H => ∃ x0 x1 x2 x3 x4 x5 x6 x7 x8 x9 x10 x11, σ = LS x0 x1 x2 x3 x4 x5 x6 x7 x8 x9 x10 x11 none none none none none none ∧
  ∀ p, H p = none → D.nx (LS x0 x1 x2 x3 x4 x5 x6 x7 x8 x9 x10 x11 (some (.ref p)) none none none none none) (upd H p (.lst []))
theorem law_s8a : PS (LX P w base T cdv A outer s0 H0 E0') (lawSt 7) rd8a := by
  have nd := sc_law.nd
  refine PS.weak (ps_set (i := 12) nd rfl (.inl rfl) (pe_lst pa_nil)) fun D σ H h => ?_
  obtain ⟨x0, x1, x2, x3, x4, x5, x6, x7, x8, x9, x10, x11, rfl, q⟩ := h
  exact ⟨Nat.zero_le _, q⟩
def Works (T : Txt K mg) (f : Addr) (sp : Sp) : Prop := (f = T.d_free_points.f ∧ sp = spFree T.nr.C) ∨ (f = T.d_worth.f ∧ sp = spWorth T.nr.C) ∨ (f = T.d_winning_points.f ∧ sp = spWin T.nr.C)
theorem works_held (T : Txt K mg) : ∀ f sp, Works T f sp → HeldX (L2.CX P w) P w K mg base 10 f sp := fun f sp h => by
  rcases h with ⟨rfl, rfl⟩ | ⟨rfl, rfl⟩ | ⟨rfl, rfl⟩
  · exact ⟨_, _, (ok_free_points T).mono (by decide), T.d_free_points.F.kp, T.d_free_points.b⟩
  · exact ⟨_, _, ok_worth T, T.d_worth.F.kp, T.d_worth.b⟩
  · exact ⟨_, _, ok_winning_points T, T.d_winning_points.F.kp, T.d_winning_points.b⟩
def rd8 : TS := fun D σ H => ∃ (x0 x1 : Option V) (a b : Addr) (n : Nat) (E : List Pr) (l : List Int) (m : Int) (x6 x7 x8 x9 x10 x11 : Option V) (fd : Addr), σ = LS x0 x1 (some (.ref a)) (some (.int n)) (some (.int m)) (some (.ref b)) x6 x7 x8 x9 x10 x11 (some (.ref fd)) none none none none none ∧
  ArgsOk H a b n E l m ∧ H fd = some (.lst []) ∧
  ∀ H' vs x13, But fd H H' → H' fd = some (.lst vs) → FI n (nearL n E) m l 3 H' fd vs → D.nx (LS x0 x1 (some (.ref a)) (some (.int n)) (some (.int m)) (some (.ref b)) x6 x7 x8 x9 x10 x11 (some (.ref fd)) x13 none none none none) H'
theorem law_s8 (hr : Room 14 (A.deeper (envOfC (Str.ofString "law") (defScope s_law) s0.heap.objs.size T.d_law.f cdv))) : PS (LX P w base T cdv A outer s0 H0 E0') (lawSt 8) rd8 := by
  have nd := sc_law.nd
  refine PS.weak (ps_for PassesOwn.never rfl (pi_list (pe_lst (pa_cons (pe_glob (v := .ref T.d_free_points.f) (by rfl) T.d_free_points.g rfl) (pa_cons (pe_glob (v := .ref T.d_worth.f) (by rfl) T.d_worth.g rfl) (pa_cons (pe_glob (v := .ref T.d_winning_points.f) (by rfl) T.d_winning_points.g rfl) pa_nil))))) (pg_name (i := 13) nd rfl (.inl rfl))
    (pss_one (ps_try_only (tb := fun W => tDrop (tBM K "list" rAppend (tVar 12) (tCons (tCallLS 13 (Works T) (WE W) (tCons (tVar 2) (tCons (tVar 5) (tCons (tVar 4) tNil)))) tNil))) (ts := fun _ _ _ => tDrop (tBM K "list" rAppend (tVar 12) (tCons (tC (.str "none")) tNil))) (Wout := fun _ _ _ _ => False) rfl rfl ⟨rfl, by decide, .inl T.nr.g⟩ takes0
      (fun W pn xe tk _ => pss_one (ps_expr (pe_bm PySem.F.plainAttrs_list PySem.F.slot_list_append PySem.F.type_list_append mt_append (pv 12) (pa_cons (pe_callLS (i := 13) (works_held T) (hr.mono (by decide)) rfl (.inl rfl) (fun σ => passAt tk σ) (pa_cons (pv 2) (pa_cons (pv 5) (pa_cons (pv 4) pa_nil)))) pa_nil))))
      (fun a oe cls d pn _ _ => pss_one (ps_expr (pe_bm PySem.F.plainAttrs_list PySem.F.slot_list_append PySem.F.type_list_append mt_append (pv 12) (pa_cons pe_str pa_nil))))))) fun D σ H h => ?_
  obtain ⟨x0, x1, a, b, n, E, l, m, x6, x7, x8, x9, x10, x11, fd, rfl, hA, hfd, q⟩ := h
  refine ⟨(by show 3 ≤ sizeLine; decide), fun wl hwl => ?_⟩
  have sw : Same H (upd H wl (.lst [.ref T.d_free_points.f, .ref T.d_worth.f, .ref T.d_winning_points.f])) := same_new hwl
  have gw : (upd H wl (.lst [.ref T.d_free_points.f, .ref T.d_worth.f, .ref T.d_winning_points.f])) wl = some (.lst [.ref T.d_free_points.f, .ref T.d_worth.f, .ref T.d_winning_points.f]) := upd_same
  generalize upd H wl (.lst [.ref T.d_free_points.f, .ref T.d_worth.f, .ref T.d_winning_points.f]) = H1 at sw gw
  have hfd1 := sw _ _ hfd
  have hA1 := hA.same sw
  have nwf : wl ≠ fd := fun z => by rw [z, hfd] at hwl; cases hwl
  have nlt : ∀ xs, HO.lst [] ≠ .tup xs := fun xs z => by cases z
  refine ⟨wl, rfl, ⟨_, SqL.of gw⟩, ?_⟩
  refine for_list (K := K) (g := gName 13) (D := D) (tb := fun D σ H => tDrop (tBM K "list" rAppend (tVar 12) (tCons (tCallLS 13 (Works T) (WE (wOnly K (.ref T.nr.C) (fun _ _ _ => tDrop (tBM K "list" rAppend (tVar 12) (tCons (tC (.str (Str.ofString "none"))) tNil))) (fun _ _ _ _ => False) D)) (tCons (tVar 2) (tCons (tVar 5) (tCons (tVar 4) tNil)))) tNil)) D σ H) (a := wl) (xs := [.ref T.d_free_points.f, .ref T.d_worth.f, .ref T.d_winning_points.f]) (fun i σ H' => ∃ (vs : List V) (x13 : Option V), σ = LS x0 x1 (some (.ref a)) (some (.int n)) (some (.int m)) (some (.ref b)) x6 x7 x8 x9 x10 x11 (some (.ref fd)) x13 none none none none ∧
    But fd H1 H' ∧ H' fd = some (.lst vs) ∧ vs.length ≤ 3 ∧ vs.length = i ∧ FI n (nearL n E) m l i H' fd vs) ?_ ?_ ?_ ?_
  · exact ⟨[], none, rfl, But.refl fd H1, hfd1, by decide, rfl, fun _ => rfl, fun _ => rfl⟩
  · rintro i σ H' _ ⟨vs, x13, rfl, sB, _⟩
    exact SqL.of (sB _ _ nwf gw)
  · rintro i x σ H' hx ⟨vs, x13, rfl, sB, hv, hvl, hvi, hFI⟩
    have hi : i < 3 := (List.getElem?_eq_some_iff.mp hx).1
    have hA' := hA1.but sB hfd1 nlt
    have tail : ∀ H2, Same H' H2 → ∀ v, FI n (nearL n E) m l (i + 1) (upd H2 fd (.lst (vs ++ [v]))) fd (vs ++ [v]) → ∃ (vs' : List V) (x13' : Option V), LS x0 x1 (some (.ref a)) (some (.int n)) (some (.int m)) (some (.ref b)) x6 x7 x8 x9 x10 x11 (some (.ref fd)) (some x) none none none none = LS x0 x1 (some (.ref a)) (some (.int n)) (some (.int m)) (some (.ref b)) x6 x7 x8 x9 x10 x11 (some (.ref fd)) x13' none none none none ∧
        But fd H1 (upd H2 fd (.lst (vs ++ [v]))) ∧ (upd H2 fd (.lst (vs ++ [v]))) fd = some (.lst vs') ∧ vs'.length ≤ 3 ∧ vs'.length = i + 1 ∧ FI n (nearL n E) m l (i + 1) (upd H2 fd (.lst (vs ++ [v]))) fd vs' := fun H2 s2 v hF =>
      ⟨vs ++ [v], some x, rfl, (sB.trans (Same.but s2)).trans but_upd, upd_same, by rw [List.length_append, List.length_singleton]; omega, by rw [List.length_append, List.length_singleton]; omega, hF⟩
    -- what is done where the lot is not fine
    have none_case : ¬ Fine n (nearL n E) m l → ∀ H2, Same H' H2 → FI n (nearL n E) m l (i + 1) (upd H2 fd (.lst (vs ++ [V.str (Str.ofString "none")]))) fd (vs ++ [V.str (Str.ofString "none")]) := fun nf H2 s2 =>
      ⟨fun z => absurd z nf, fun _ => by rw [hFI.2 nf, List.replicate_succ']⟩
    have hsz : vs.length < sizeLine := small_lst (by omega)
    match i, hi, hx, hvi, hFI, tail, none_case with
    | 0, _, hx, hvi, hFI, tail, none_case =>
      have hx : V.ref T.d_free_points.f = x := Option.some.inj hx
      subst hx
      refine ⟨_, rfl, .inl ⟨rfl, _, SqL.of hv⟩, T.d_free_points.f, _, rfl, .inl ⟨rfl, rfl⟩, _, rfl, _, rfl, _, rfl, a, b, n, E, l, m, rfl, hA', fun hf H2 p s2 hpn hp => ?_, fun nf H2 s2 => ?_⟩
      · have npf : p ≠ fd := fun z => by rw [z, hv] at hpn; cases hpn
        refine ⟨fd, vs, _, rfl, rfl, s2 _ _ hv, hsz, tail H2 s2 _ ⟨fun _ => ⟨p, ?_, npf, by rw [upd_ne npf]; exact hp⟩, fun z => absurd hf z⟩⟩
        rw [hFI.1 hf]
        rfl
      · exact ⟨true, T.nr.e, fun _ a' ha' => ⟨_, rfl, .inl ⟨rfl, _, SqL.of (s2 _ _ hv)⟩, fd, vs, _, rfl, rfl, s2 _ _ hv, hsz, tail H2 s2 _ (none_case nf H2 s2)⟩, fun z => nomatch z⟩
    | 1, _, hx, hvi, hFI, tail, none_case =>
      have hx : V.ref T.d_worth.f = x := Option.some.inj hx
      subst hx
      refine ⟨_, rfl, .inl ⟨rfl, _, SqL.of hv⟩, T.d_worth.f, _, rfl, .inr (.inl ⟨rfl, rfl⟩), _, rfl, _, rfl, _, rfl, a, b, n, E, l, m, rfl, hA', fun hf H2 s2 => ?_, fun nf H2 s2 => ?_⟩
      · obtain ⟨p1, e1, n1, g1⟩ := hFI.1 hf
        refine ⟨fd, vs, _, rfl, rfl, s2 _ _ hv, hsz, tail H2 s2 _ ⟨fun _ => ⟨p1, ?_, n1, by rw [upd_ne n1]; exact s2 _ _ g1⟩, fun z => absurd hf z⟩⟩
        rw [e1]
        rfl
      · exact ⟨true, T.nr.e, fun _ a' ha' => ⟨_, rfl, .inl ⟨rfl, _, SqL.of (s2 _ _ hv)⟩, fd, vs, _, rfl, rfl, s2 _ _ hv, hsz, tail H2 s2 _ (none_case nf H2 s2)⟩, fun z => nomatch z⟩
    | 2, _, hx, hvi, hFI, tail, none_case =>
      have hx : V.ref T.d_winning_points.f = x := Option.some.inj hx
      subst hx
      refine ⟨_, rfl, .inl ⟨rfl, _, SqL.of hv⟩, T.d_winning_points.f, _, rfl, .inr (.inr ⟨rfl, rfl⟩), _, rfl, _, rfl, _, rfl, a, b, n, E, l, m, rfl, hA', fun hf H2 p s2 hpn hp => ?_, fun nf H2 s2 => ?_⟩
      · obtain ⟨p1, e1, n1, g1⟩ := hFI.1 hf
        have npf : p ≠ fd := fun z => by rw [z, hv] at hpn; cases hpn
        refine ⟨fd, vs, _, rfl, rfl, s2 _ _ hv, hsz, tail H2 s2 _ ⟨fun _ => ⟨p1, p, ?_, n1, npf, by rw [upd_ne n1]; exact s2 _ _ g1, by rw [upd_ne npf]; exact hp⟩, fun z => absurd hf z⟩⟩
        rw [e1]
        rfl
      · exact ⟨true, T.nr.e, fun _ a' ha' => ⟨_, rfl, .inl ⟨rfl, _, SqL.of (s2 _ _ hv)⟩, fd, vs, _, rfl, rfl, s2 _ _ hv, hsz, tail H2 s2 _ (none_case nf H2 s2)⟩, fun z => nomatch z⟩
  · rintro σ H' ⟨vs, x13, rfl, sB, hv, hvl, hvi, hFI⟩
    exact q H' vs x13 (fun c o hc ho => sB c o hc (sw _ _ ho)) hv hFI
def rd9 : TS := fun D σ H => ∃ (x0 x1 : Option V) (a b : Addr) (n : Nat) (E : List Pr) (l : List Int) (m : Int) (x6 x7 : Option V) (d : Addr) (x9 x10 x11 : Option V) (fd : Addr) (x13 : Option V) (kvs : List (List Key × V)) (done : List (List Int)) (vs : List V), σ = LS x0 x1 (some (.ref a)) (some (.int n)) (some (.int m)) (some (.ref b)) x6 x7 (some (.ref d)) x9 x10 x11 (some (.ref fd)) x13 none none none none ∧
  ArgsOk H a b n E l m ∧ H d = some (.dT kvs) ∧ WD n (nearL n E) m done kvs ∧ (∀ u, u ∈ done ↔ u ∈ fines n (nearL n E) m) ∧ H fd = some (.lst vs) ∧ FI n (nearL n E) m l 3 H fd vs ∧ (∀ H', D.rt (.bl true) H') ∧ (Fine n (nearL n E) m l → D.nx σ H)
theorem law_s9 (hr : Room 14 (A.deeper (envOfC (Str.ofString "law") (defScope s_law) s0.heap.objs.size T.d_law.f cdv))) : PS (LX P w base T cdv A outer s0 H0 E0') (lawSt 9) rd9 := by
  have nd := sc_law.nd
  have hu64 := hr.units
  have hu := hu_of hr
  refine PS.weak (ps_if (pt_cmp (pc_dnotin hu (pv 5) (pv 8))) (pss_one (ps_ret (pe_cmpR (op_eqD hu64) (pv 12) (pe_op op_rep (pe_lst (pa_cons pe_str pa_nil)) pe_int) (nomark _)))) pss_nil) fun D σ H h => ?_
  obtain ⟨x0, x1, a, b, n, E, l, m, x6, x7, d, x9, x10, x11, fd, x13, kvs, done, vs, rfl, hA, hd, hW, hdone, hv, hFI, qr, qn⟩ := h
  have gt : DGet H d (.ref b) (valV kvs (keyI l)) := DGet.t (k := keyI l) hd (hbk hA.pt)
  rw [hW.val] at gt
  refine ⟨_, rfl, _, rfl, d, _, rfl, gt, _, rfl, ?_⟩
  by_cases c : l ∈ done
  · rw [if_pos c]
    exact iteF (qn (mem_fines.mp ((hdone l).mp c)).2)
  · rw [if_neg c]
    have nf : ¬ Fine n (nearL n E) m l := fun z => c ((hdone l).mpr (mem_fines.mpr ⟨hA.lot, z⟩))
    have ev := hFI.2 nf
    subst ev
    refine iteT ⟨_, rfl, (by show 1 ≤ sizeLine; decide), fun z hz => ?_⟩
    have s1 : Same H (upd H z (.lst [.str (Str.ofString "none")])) := same_new hz
    refine ⟨z, 3, _, rfl, rfl, upd_same, by decide, by decide, by show 1 * 3 ≤ sizeLine; decide, fun p hp => ?_⟩
    have s2 := same_more s1 (o := .lst (List.replicate (3 : Int).toNat [V.str (Str.ofString "none")]).flatten) hp
    refine ⟨.list [.str (Str.ofString "none"), .str (Str.ofString "none"), .str (Str.ofString "none")], .list [.str (Str.ofString "none"), .str (Str.ofString "none"), .str (Str.ofString "none")], .lst (SqL.of (s2 _ _ hv)) (.cons (.str _) (.cons (.str _) (.cons (.str _) .nil))), .lst (SqL.of upd_same) (.cons (.str _) (.cons (.str _) (.cons (.str _) .nil))), by decide +kernel, by decide +kernel, ?_⟩
    have e : PyData.eqv (.list [.str (Str.ofString "none"), .str (Str.ofString "none"), .str (Str.ofString "none")]) (.list [.str (Str.ofString "none"), .str (Str.ofString "none"), .str (Str.ofString "none")]) = true := by decide +kernel
    rw [e]
    exact qr _
end
end ST

/-! LLaw4 -/
/-! law, statement by statement: the free points, the top. -/
namespace ST
open Classical
open PySem PySem.Spec PyProof.Rows L2 SM
/-- which points may be put, by the table -/
theorem free_done {n : Nat} {E : List Pr} {m : Int} {l : List Int} {done : List (List Int)} {i : Int} (hl : IsLot n l) (hd : ∀ u, u ∈ done ↔ u ∈ fines n (nearL n E) m) (h0 : 0 ≤ i) (h1 : i < (n : Int)) :
    i ∈ free n (nearL n E) m l ↔ i ∉ l ∧ ins i l ∈ done := by
  rw [mem_free, hd, mem_fines]
  exact ⟨fun ⟨_, h2, h3⟩ => ⟨h2, hl.ins h2 h0 h1, h3⟩, fun ⟨h2, _, h3⟩ => ⟨⟨h0, h1⟩, h2, h3⟩⟩
theorem free_filter {n : Nat} {L : List (List Int)} {m : Int} {l : List Int} : ((pts n).take n).filter (fun z => decide (z ∈ free n L m l)) = free n L m l := by
  rw [pts_take (Nat.le_refl n)]
  refine asc_ext ((asc_pts n).filter _) ((asc_pts n).filter _) fun x => ?_
  rw [List.mem_filter, decide_eq_true_iff]
  exact ⟨fun z => z.2, fun z => ⟨mem_pts.mpr (mem_free.mp z).1, z⟩⟩
theorem free_len (n : Nat) (L : List (List Int)) (m : Int) (l : List Int) : (free n L m l).length ≤ n := by
  unfold free
  refine Nat.le_trans (List.length_filter_le _ _) ?_
  rw [len_pts]
  exact Nat.le_refl _
def lens (fs : List (List Int)) : List Int := fs.map fun u => ((u.length : Nat) : Int)
section
variable {P : Program} {w : World} {K : PySem.W.Frag} {mg : Str → Option Value} {base : Heap} {T : Txt K mg} {cdv : Value} {A : Around} {outer : List Env} {s0 : Shared} {H0 : Hp} {E0' : XK}
/-- the table of worths at d -/
structure Tab (H : Hp) (d : Addr) (n : Nat) (E : List Pr) (m : Int) (kvs : List (List Key × V)) (done : List (List Int)) : Prop where
  pl : H d = some (.dT kvs)
  wd : WD n (nearL n E) m done kvs
  all : ∀ u, u ∈ done ↔ u ∈ fines n (nearL n E) m
theorem Tab.same {H H' : Hp} {d : Addr} {n : Nat} {E : List Pr} {m : Int} {kvs : List (List Key × V)} {done : List (List Int)} (h : Tab H d n E m kvs done) (s : Same H H') : Tab H' d n E m kvs done := ⟨s _ _ h.pl, h.wd, h.all⟩
theorem Tab.get {H : Hp} {d b : Addr} {n : Nat} {E : List Pr} {m : Int} {kvs : List (List Key × V)} {done : List (List Int)} {u : List Int} (h : Tab H d n E m kvs done) (hb : H b = some (tupO u)) : DGet H d (.ref b) (if u ∈ done then some (.int (worth n (nearL n E) m u)) else none) := by
  have := DGet.t (k := keyI u) h.pl (hbk hb)
  rw [h.wd.val] at this
  exact this
def rd10 : TS := fun D σ H => ∃ (x0 x1 : Option V) (a b : Addr) (n : Nat) (E : List Pr) (l : List Int) (m : Int) (x6 x7 : Option V) (d : Addr) (x9 x10 x11 x12 x13 : Option V) (kvs : List (List Key × V)) (done : List (List Int)), σ = LS x0 x1 (some (.ref a)) (some (.int n)) (some (.int m)) (some (.ref b)) x6 x7 (some (.ref d)) x9 x10 x11 x12 x13 none none none none ∧
  ArgsOk H a b n E l m ∧ Tab H d n E m kvs done ∧
  ∀ H' p, Same H H' → H' p = some (lstO (free n (nearL n E) m l)) → D.nx (LS x0 x1 (some (.ref a)) (some (.int n)) (some (.int m)) (some (.ref b)) x6 x7 (some (.ref d)) x9 x10 x11 x12 x13 (some (.ref p)) none none none) H'
theorem law_s10 (hr : Room 14 (A.deeper (envOfC (Str.ofString "law") (defScope s_law) s0.heap.objs.size T.d_law.f cdv))) : PS (LX P w base T cdv A outer s0 H0 E0') (lawSt 10) rd10 := by
  have nd := sc_law.nd
  have hu := hu_of hr
  refine PS.weak (ps_setLc (i := 14) (own := [("_law_point", 18)]) (g := gName 18) rfl nd rfl rfl (sw_true rfl rfl rfl (by decide +kernel)) (pi_range1 (by rfl) T.z_range (pa_cons (pv 3) pa_nil)) (blkOk_by (own := [("_law_point", 18)]) (N := n_law) (sc := defScope s_law) (by decide +kernel))
      (fun _ _ _ _ _ => pg_name (i := 18) nd rfl (Or.inl rfl))
      (fun _ _ _ _ _ => pts_one (PW.pt (pw_and (pt_cmpR (opNotIn K) (pv 18) (pv 5) (by rfl)) (pw_and1 (pt_cmp (pc_din hu (pe_call (ok_l_put T) (hr.mono (by decide)) (by rfl) T.d_l_put.g T.d_l_put.F.kp T.d_l_put.b .nil pass0 (pa_cons (pv 5) (pa_cons (pv 18) pa_nil))) (pv 8)))))))
      (fun _ _ _ _ _ => pv 18)) fun D σ H h => ?_
  obtain ⟨x0, x1, a, b, n, E, l, m, x6, x7, d, x9, x10, x11, x12, x13, kvs, done, rfl, hA, hT, q⟩ := h
  have hn6 := hA.v.n6
  have hl := hA.lot
  have hll := hl.len
  refine ⟨_, rfl, n, rfl, by omega, by omega, fun D1 hD1 => ?_⟩
  have en : ((n : Int)).toNat = n := by omega
  rw [en]
  refine lcs_range (lo := 0) (n := n) (fun i => (((pts n).take i).filter fun z => decide (z ∈ free n (nearL n E) m l)).map V.int) hD1 (by rw [List.take_zero]; rfl) (fun i hi => ?_) (fun i H2 R R' hi s2 kR kR' => ?_) fun H2 s2 hl2 => ?_
  · rw [List.length_map]
    refine Nat.le_trans (List.length_filter_le _ _) ?_
    rw [List.length_take]
    omega
  · have ei : (0 : Int) + (i : Int) = (i : Int) := by omega
    rw [ei]
    have hb2 := s2 _ _ hA.pt
    have hfd := free_done (i := (i : Int)) hl hT.all (by omega) (by omega)
    refine ⟨rfl, ⟨_, rfl, _, rfl, b, _, rfl, .inr (SqT.of hb2), rfl, flat_ints l, _, rfl, ?_⟩⟩
    show if (!inV (V.int (i : Int)) (l.map V.int)) = true then _ else _
    rw [inV_ints]
    have no : (i : Int) ∉ free n (nearL n E) m l → (((pts n).take (i + 1)).filter fun z => decide (z ∈ free n (nearL n E) m l)).map V.int = (((pts n).take i).filter fun z => decide (z ∈ free n (nearL n E) m l)).map V.int := fun h => by
      rw [take_more (pts_get hi), List.filter_append, filt_neg (decide_eq_false h), List.append_nil]
    by_cases c : (i : Int) ∈ l
    · rw [decide_eq_true c]
      exact iteF (kR' _ (Same.refl _) (no fun z => (hfd.mp z).1 c))
    · rw [decide_eq_false c]
      refine iteT ⟨_, rfl, _, rfl, b, l, i, rfl, hb2, hl.asc, c, by omega, fun H4 u s4 hu4 => ?_⟩
      refine ⟨_, rfl, d, _, rfl, (hT.same (s2.trans s4)).get hu4, _, rfl, ?_⟩
      by_cases c2 : ins (i : Int) l ∈ done
      · rw [if_pos c2]
        refine iteT ⟨_, rfl, kR _ _ s4 ?_⟩
        show (((pts n).take (i + 1)).filter _).map V.int = _
        rw [take_more (pts_get hi), List.filter_append, filt_pos (decide_eq_true (hfd.mpr ⟨c, c2⟩)), List.map_append]
        rfl
      · rw [if_neg c2]
        exact iteF (kR' _ s4 (no fun z => c2 (hfd.mp z).2))
  · refine q H2 D1 s2 ?_
    rw [hl2, free_filter]
    rfl
def rd11 : TS := fun D σ H => ∃ (x0 x1 : Option V) (a b : Addr) (n : Nat) (E : List Pr) (l : List Int) (m : Int) (x6 x7 : Option V) (d : Addr) (x9 x10 x11 : Option V) (fd : Addr) (x13 : Option V) (fr : Addr) (kvs : List (List Key × V)) (done : List (List Int)) (vs : List V), σ = LS x0 x1 (some (.ref a)) (some (.int n)) (some (.int m)) (some (.ref b)) x6 x7 (some (.ref d)) x9 x10 x11 (some (.ref fd)) x13 (some (.ref fr)) none none none ∧
  ArgsOk H a b n E l m ∧ Tab H d n E m kvs done ∧ H fd = some (.lst vs) ∧ FI n (nearL n E) m l 3 H fd vs ∧ Fine n (nearL n E) m l ∧ H fr = some (lstO (free n (nearL n E) m l)) ∧ ∀ H', Same H H' → D.nx σ H'
theorem law_s11 (hr : Room 14 (A.deeper (envOfC (Str.ofString "law") (defScope s_law) s0.heap.objs.size T.d_law.f cdv))) : PS (LX P w base T cdv A outer s0 H0 E0') (lawSt 11) rd11 := by
  have nd := sc_law.nd
  have hu := hu_of hr
  refine PS.weak (ps_if (pt_not (pt_val (pe_call (ok_l_alike T 3) (hr.mono (by decide)) (by rfl) T.d_l_alike.g T.d_l_alike.F.kp T.d_l_alike.b .nil pass0 (pa_cons (pv 12) (pa_cons (pe_lst (pa_cons (pv 14) (pa_cons (pe_dget hu (pv 8) (pv 5) (fun _ _ => rfl))
      (pa_cons (pe_lc (own := [("_law_point", 18)]) rfl nd (pi_list (pv 14)) (blkOk_by (own := [("_law_point", 18)]) (N := n_law) (sc := defScope s_law) (by decide +kernel))
        (fun _ _ _ _ _ => pg_name (i := 18) nd rfl (Or.inl rfl))
        (fun _ _ _ _ _ => pts_one (pt_cmpR op_eq (pe_dget hu (pv 8) (pe_call (ok_l_put T) (hr.mono (by decide)) (by rfl) T.d_l_put.g T.d_l_put.F.kp T.d_l_put.b .nil pass0 (pa_cons (pv 5) (pa_cons (pv 18) pa_nil))) (fun _ _ => rfl)) pe_int (by rfl)))
        (fun _ _ _ _ _ => pv 18)) pa_nil)))) pa_nil))))) pss_never pss_nil) fun D σ H h => ?_
  obtain ⟨x0, x1, a, b, n, E, l, m, x6, x7, d, x9, x10, x11, fd, x13, fr, kvs, done, vs, rfl, hA, hT, hv, hFI, hf, hfr, q⟩ := h
  have hn6 := hA.v.n6
  have hl := hA.lot
  have hll := hl.len
  have hlen := free_len n (nearL n E) m l
  have hld : l ∈ done := (hT.all l).mpr (mem_fines.mpr ⟨hl, hf⟩)
  have g0 := hT.get hA.pt
  rw [if_pos hld] at g0
  refine ⟨_, rfl, _, rfl, _, rfl, _, rfl, d, _, rfl, g0, _, rfl, fr, rfl, ⟨_, SqL.of hfr⟩, fun D1 hD1 => ?_⟩
  refine lcs_list (K := K) (a := fr) (xs := (free n (nearL n E) m l).map V.int) (fun i => (((free n (nearL n E) m l).take i).filter fun x => decide (worth n (nearL n E) m (ins x l) = 0)).map V.int) hD1 rfl (SqL.of hfr) (fun i hi => ?_) (fun i x H3 R R' hx s3 kR kR' => ?_) fun H3 s3 hl3 => ?_
  · rw [List.length_map]
    refine Nat.le_trans (List.length_filter_le _ _) ?_
    rw [List.length_take]
    omega
  · obtain ⟨y, hy, rfl⟩ := of_map_int hx
    have hyf := List.mem_of_getElem? hy
    obtain ⟨hyr, hyn, hyF⟩ := mem_free.mp hyf
    have hb3 := s3 _ _ hA.pt
    have hyd : ins y l ∈ done := (hT.all _).mpr (mem_fines.mpr ⟨hl.ins hyn hyr.1 hyr.2, hyF⟩)
    refine ⟨rfl, ⟨_, rfl, _, rfl, _, rfl, b, l, y, rfl, hb3, hl.asc, hyn, by omega, fun H4 u s4 hu4 => ?_⟩⟩
    have g4 := (hT.same (s3.trans s4)).get hu4
    rw [if_pos hyd] at g4
    refine ⟨d, _, rfl, g4, rfl, _, rfl, ?_⟩
    by_cases c : worth n (nearL n E) m (ins y l) = 0
    · rw [c]
      refine iteT ⟨_, rfl, kR _ _ s4 ?_⟩
      show (((free n (nearL n E) m l).take (i + 1)).filter _).map V.int = _
      rw [take_more hy, List.filter_append, filt_pos (decide_eq_true c), List.map_append]
      rfl
    · have e : decide (V.int ((worth n (nearL n E) m (ins y l) : Nat) : Int) = .int 0) = false := decide_eq_false (fun z => by injection z with z; omega)
      rw [e]
      refine iteF (kR' _ s4 ?_)
      show (((free n (nearL n E) m l).take (i + 1)).filter _).map V.int = _
      rw [take_more hy, List.filter_append, filt_neg (decide_eq_false c), List.append_nil]
  · rw [List.length_map, List.take_length] at hl3
    have hl3 : H3 D1 = some (lstO (wins n (nearL n E) m l)) := hl3
    refine ⟨(by show 3 ≤ sizeLine; decide), fun dl hdl => ?_⟩
    have sd : Same H3 (upd H3 dl (.lst [.ref fr, .int (worth n (nearL n E) m l : Nat), .ref D1])) := same_new hdl
    have gd : (upd H3 dl (.lst [.ref fr, .int (worth n (nearL n E) m l : Nat), .ref D1])) dl = some (.lst [.ref fr, .int (worth n (nearL n E) m l : Nat), .ref D1]) := upd_same
    generalize upd H3 dl (.lst [.ref fr, .int (worth n (nearL n E) m l : Nat), .ref D1]) = H4 at sd gd
    have s4 := s3.trans sd
    obtain ⟨p1, p2, ev, n1, n2, g1, g2⟩ := hFI.1 hf
    have hwl : (wins n (nearL n E) m l).length ≤ n := Nat.le_trans (List.length_filter_le _ _) hlen
    refine ⟨.ref fd, .ref dl, rfl, .inr ⟨fd, dl, _, _, rfl, rfl, .inl ⟨s4 _ _ hv, gd⟩, by rw [ev]; rfl, by rw [ev]; show 3 ≤ 1000; decide, fun i x y hx hy => ?_⟩, fun H5 s5 => ⟨true, rfl, iteF (q H5 (s4.trans s5))⟩⟩
    rw [ev] at hx
    match i, hx, hy with
    | 0, hx, hy =>
      have hx : V.ref p1 = x := Option.some.inj hx
      have hy : V.ref fr = y := Option.some.inj hy
      rw [← hx, ← hy]
      exact alike_lstO (s4 _ _ g1) (s4 _ _ hfr) (by omega)
    | 1, hx, hy =>
      have hx : V.int (worth n (nearL n E) m l : Nat) = x := Option.some.inj hx
      have hy : V.int (worth n (nearL n E) m l : Nat) = y := Option.some.inj hy
      exact .inl ⟨_, hx.symm, hy.symm⟩
    | 2, hx, hy =>
      have hx : V.ref p2 = x := Option.some.inj hx
      have hy : V.ref D1 = y := Option.some.inj hy
      rw [← hx, ← hy]
      exact alike_lstO (s4 _ _ g2) (sd _ _ hl3) (by omega)
    | _ + 3, hx, _ => cases hx
def rd12 : TS := fun D σ H => ∃ (x0 x1 x2 x3 x4 x5 x6 : Option V) (f : Addr) (x8 x9 x10 x11 x12 x13 x14 : Option V) (fs : List (List Int)), σ = LS x0 x1 x2 x3 x4 x5 x6 (some (.ref f)) x8 x9 x10 x11 x12 x13 x14 none none none ∧
  Seqs tupO H f fs ∧ fs ≠ [] ∧ fs.length ≤ 64 ∧
  ∀ H' top, Same H H' → top ∈ lens fs → (∀ y ∈ lens fs, y ≤ top) → D.nx (LS x0 x1 x2 x3 x4 x5 x6 (some (.ref f)) x8 x9 x10 x11 x12 x13 x14 (some (.int top)) none none) H'
theorem law_s12 (hr : Room 14 (A.deeper (envOfC (Str.ofString "law") (defScope s_law) s0.heap.objs.size T.d_law.f cdv))) : PS (LX P w base T cdv A outer s0 H0 E0') (lawSt 12) rd12 := by
  have nd := sc_law.nd
  refine PS.weak (ps_set (i := 15) nd rfl (.inr rfl) (pe_callB (cr_max rfl) (by rfl) T.z_max bt_max (pa_cons (pe_lc (own := [("_law_told", 6)]) rfl nd (pi_list (pv 7)) (blkOk_by (own := [("_law_told", 6)]) (N := n_law) (sc := defScope s_law) (by decide +kernel))
      (fun _ _ _ _ _ => pg_name (i := 6) nd rfl (Or.inl rfl)) (fun _ _ _ _ _ => pts_nil)
      (fun _ _ _ _ _ => pe_callB (crLen K) (by rfl) T.z_len bt_len (pa_cons (pv 6) pa_nil))) pa_nil))) fun D σ H h => ?_
  obtain ⟨x0, x1, x2, x3, x4, x5, x6, f, x8, x9, x10, x11, x12, x13, x14, fs, rfl, hF, hne, hfl, q⟩ := h
  obtain ⟨as, hal, hE⟩ := id hF
  refine ⟨_, rfl, f, rfl, ⟨_, SqL.of hal⟩, fun D1 hD1 => ?_⟩
  refine lcs_list (K := K) (a := f) (xs := as.map V.ref) (fun j => (lens (fs.take j)).map V.int) hD1 rfl (SqL.of hal) (fun j hj => ?_) (fun j x H3 R R' hx s3 kR kR' => ?_) fun H3 s3 hl3 => ?_
  · unfold lens
    rw [List.length_map, List.length_map, List.length_take]
    omega
  · obtain ⟨aj, haj, rfl⟩ := of_map_ref hx
    have hj : j < fs.length := by rw [← hE.1]; exact (List.getElem?_eq_some_iff.mp haj).1
    have hlj : fs[j]? = some fs[j] := List.getElem?_eq_getElem hj
    generalize fs[j] = u at hlj
    refine ⟨rfl, ⟨_, rfl, aj, _, rfl, .inr (SqT.of (s3 _ _ (hE.2 _ _ _ haj hlj))), kR _ _ (Same.refl _) ?_⟩⟩
    show (lens (fs.take (j + 1))).map V.int = _
    unfold lens
    rw [take_more hlj, List.map_append, List.map_append, List.length_map]
    rfl
  · have et : fs.take (as.map V.ref).length = fs := List.take_of_length_le (by rw [List.length_map, hE.1]; exact Nat.le_refl _)
    rw [et] at hl3
    refine ⟨D1, lens fs, rfl, SqL.of hl3, ?_, fun top ht hmax => q H3 top s3 ht hmax⟩
    unfold lens
    rw [List.length_map]
    exact List.length_pos_iff.mpr hne
end
end ST

/-! LLaw5 -/
/-! law, statement by statement: most stones, the sizes. -/
namespace ST
open Classical
open PySem PySem.Spec PyProof.Rows L2 SM
open PySem.W (alike dataLt AllAlike)
/-- min of lots -/
theorem min_tups {K : PySem.W.Frag} {H : Hp} {Q : VK} {D : Addr} {zs : List (Addr × List Int)} (hne : zs ≠ []) (h : H D = some (.lst (zs.map fun z => V.ref z.1))) (hz : ∀ z ∈ zs, H z.1 = some (tupO z.2)) (q : ∀ z ∈ zs, (∀ y ∈ zs, ¬ y.2 < z.2) → Q (.ref z.1) H) : rMinDt K [.ref D] H Q := by
  cases zs with
  | nil => exact absurd rfl hne
  | cons c cs =>
    have tl : ∀ x y : List Int, dataLt (.tuple (x.map PyData.int)) (.tuple (y.map PyData.int)) = false → ¬ x < y := fun x y z w => by
      rw [lt_tup, decide_eq_true w] at z
      cases z
    have tn : ∀ x y : List Int, ¬ x < y → dataLt (.tuple (x.map PyData.int)) (.tuple (y.map PyData.int)) = false := fun x y z => by rw [lt_tup, decide_eq_false z]
    refine ⟨D, (V.ref c.1, PyData.tuple (c.2.map PyData.int)), cs.map fun z => (V.ref z.1, PyData.tuple (z.2.map PyData.int)), rfl, SqL.of ?_, fun b hb => ?_, fun d hd d' hd' => ?_, fun b hb => ?_, fun b hb => ?_, fun b hb e => ?_⟩
    · rw [h, List.map_cons, List.map_cons, List.map_map]
      rfl
    · rw [← List.map_cons (f := fun z : Addr × List Int => (V.ref z.1, PyData.tuple (z.2.map PyData.int)))] at hb
      obtain ⟨z, hzm, rfl⟩ := List.mem_map.mp hb
      exact dp_tup (SqT.of (hz z hzm))
    · rw [← List.map_cons (f := fun z : Addr × List Int => (V.ref z.1, PyData.tuple (z.2.map PyData.int)))] at hd hd'
      obtain ⟨b, hb, rfl⟩ := List.mem_map.mp hd
      obtain ⟨b', hb', rfl⟩ := List.mem_map.mp hd'
      obtain ⟨z, _, rfl⟩ := List.mem_map.mp hb
      obtain ⟨z', _, rfl⟩ := List.mem_map.mp hb'
      exact alike_tup _ _
    · rw [← List.map_cons (f := fun z : Addr × List Int => (V.ref z.1, PyData.tuple (z.2.map PyData.int)))] at hb
      obtain ⟨z, hzm, rfl⟩ := List.mem_map.mp hb
      exact dp_tup_not _
    · rw [← List.map_cons (f := fun z : Addr × List Int => (V.ref z.1, PyData.tuple (z.2.map PyData.int)))] at hb
      obtain ⟨z, hzm, rfl⟩ := List.mem_map.mp hb
      show (PyData.tuple (z.2.map PyData.int)).depth ≤ 8
      rw [depth_tup]
      decide
    · rw [← List.map_cons (f := fun z : Addr × List Int => (V.ref z.1, PyData.tuple (z.2.map PyData.int)))] at hb
      obtain ⟨z, hzm, rfl⟩ := List.mem_map.mp hb
      refine q z hzm fun y hy => ?_
      have hle := minD_le (P := fun d => ∃ ns : List Int, d = .tuple (ns.map PyData.int)) (fun a b c ⟨x, ex⟩ ⟨y, ey⟩ ⟨w, ew⟩ h1 h2 => by
          subst ex ey ew
          exact tn _ _ (List.le_trans (show x ≤ y from tl _ _ h1) (show y ≤ w from tl _ _ h2))) (fun a b ⟨x, ex⟩ ⟨y, ey⟩ h1 => by
          subst ex ey
          rw [lt_tup, decide_eq_true_iff] at h1
          exact tn _ _ fun z => lex_irr _ (lex_trans h1 z)) (fun a ⟨x, ex⟩ => by subst ex; exact tn _ _ (lex_irr _)) ((cs.map fun z => (V.ref z.1, PyData.tuple (z.2.map PyData.int))).map (·.2)) (PyData.tuple (c.2.map PyData.int)) ⟨c.2, rfl⟩ (fun y hy => by
          obtain ⟨b, hb, rfl⟩ := List.mem_map.mp hy
          obtain ⟨z, _, rfl⟩ := List.mem_map.mp hb
          exact ⟨_, rfl⟩) (PyData.tuple (y.2.map PyData.int)) (by
          rcases List.mem_cons.mp hy with rfl | hy
          · exact List.mem_cons_self
          · exact List.mem_cons_of_mem _ (List.mem_map.mpr ⟨_, List.mem_map.mpr ⟨y, hy, rfl⟩, rfl⟩))
      rw [← show PyData.tuple (z.2.map PyData.int) = _ from e] at hle
      exact tl _ _ hle
theorem count_lens (fs : List (List Int)) (k : Nat) : (lens fs).count (k : Int) = cnt fs k := by
  unfold lens cnt
  induction fs with
  | nil => rfl
  | cons u r ih =>
    rw [List.map_cons, List.map_cons, List.count_cons, List.count_cons, ih]
    congr 1
    by_cases c : u.length = k
    · simp [c]
    · have c2 : ¬ ((u.length : Nat) : Int) = (k : Int) := by omega
      simp [c, c2]
theorem cnt_pos {fs : List (List Int)} {k : Nat} : cnt fs k ≠ 0 ↔ (k : Int) ∈ lens fs := by
  unfold cnt lens
  rw [Ne, List.count_eq_zero, Classical.not_not, List.mem_map, List.mem_map]
  constructor
  · rintro ⟨u, hu, e⟩
    exact ⟨u, hu, by omega⟩
  · rintro ⟨u, hu, e⟩
    exact ⟨u, hu, by omega⟩
section
variable {P : Program} {w : World} {K : PySem.W.Frag} {mg : Str → Option Value} {base : Heap} {T : Txt K mg} {cdv : Value} {A : Around} {outer : List Env} {s0 : Shared} {H0 : Hp} {E0' : XK}
/-- what stands for the last three comparings -/
structure Last (H : Hp) (a b : Addr) (n : Nat) (E : List Pr) (l : List Int) (m : Int) (f : Addr) (top : Int) : Prop where
  args : ArgsOk H a b n E l m
  fin : Seqs tupO H f (fines n (nearL n E) m)
  mem : top ∈ lens (fines n (nearL n E) m)
  max : ∀ y ∈ lens (fines n (nearL n E) m), y ≤ top
theorem Last.same {H H' : Hp} {a b : Addr} {n : Nat} {E : List Pr} {l : List Int} {m : Int} {f : Addr} {top : Int} (h : Last H a b n E l m f top) (s : Same H H') : Last H' a b n E l m f top := ⟨h.args.same s, h.fin.same s, h.mem, h.max⟩
theorem fines_len {n : Nat} {L : List (List Int)} {m : Int} (h : n ≤ 6) : (fines n L m).length ≤ 64 := by
  unfold fines
  refine Nat.le_trans (List.length_filter_le _ _) ?_
  rw [sets_len]
  exact pow2_le h
def rd13 : TS := fun D σ H => ∃ (x0 x1 : Option V) (a b : Addr) (n : Nat) (E : List Pr) (l : List Int) (m : Int) (x6 : Option V) (f : Addr) (x8 x9 x10 x11 x12 x13 x14 : Option V) (top : Int), σ = LS x0 x1 (some (.ref a)) (some (.int n)) (some (.int m)) (some (.ref b)) x6 (some (.ref f)) x8 x9 x10 x11 x12 x13 x14 (some (.int top)) none none ∧
  Last H a b n E l m f top ∧ ∀ H', Same H H' → D.nx σ H'
theorem law_s13 (hr : Room 14 (A.deeper (envOfC (Str.ofString "law") (defScope s_law) s0.heap.objs.size T.d_law.f cdv))) : PS (LX P w base T cdv A outer s0 H0 E0') (lawSt 13) rd13 := by
  have nd := sc_law.nd
  have hu64 := hr.units
  refine PS.weak (ps_if (pt_not (pt_val (pe_call (ok_l_alike T 2) (hr.mono (by decide)) (by rfl) T.d_l_alike.g T.d_l_alike.F.kp T.d_l_alike.b .nil pass0
      (pa_cons (pe_call (ok_most_stones T) (hr.mono (by decide)) (by rfl) T.d_most_stones.g T.d_most_stones.F.kp T.d_most_stones.b .nil pass0 (pa_cons (pv 2) (pa_cons (pv 4) pa_nil)))
      (pa_cons (pe_callB (cr_minDt rfl hu64) (by rfl) T.z_min bt_min (pa_cons (pe_lc (own := [("_law_told", 6)]) rfl nd (pi_list (pv 7)) (blkOk_by (own := [("_law_told", 6)]) (N := n_law) (sc := defScope s_law) (by decide +kernel))
        (fun _ _ _ _ _ => pg_name (i := 6) nd rfl (Or.inl rfl))
        (fun _ _ _ _ _ => pts_one (pt_cmpR op_eq (pe_callB (crLen K) (by rfl) T.z_len bt_len (pa_cons (pv 6) pa_nil)) (pv 15) (by rfl)))
        (fun _ _ _ _ _ => pv 6)) pa_nil)) pa_nil))))) pss_never pss_nil) fun D σ H h => ?_
  obtain ⟨x0, x1, a, b, n, E, l, m, x6, f, x8, x9, x10, x11, x12, x13, x14, top, rfl, hL, q⟩ := h
  have hA := hL.args
  have hn6 := hA.v.n6
  have hfl := fines_len (L := nearL n E) (m := m) hn6
  refine ⟨_, rfl, _, rfl, a, n, E, m, rfl, hA.net, hA.v, hA.m0, hA.m1, fun H1 p b1 s1 hB hp => ?_⟩
  obtain ⟨as, hal, hE⟩ := hL.fin.same s1
  have hmax := hL.max
  have hmm := hL.mem
  have hmem : ∀ {u}, u ∈ fines n (nearL n E) m ↔ IsLot n u ∧ Fine n (nearL n E) m u := fun {u} => mem_fines
  generalize fines n (nearL n E) m = fs at hE hmax hmm hmem hfl
  refine ⟨_, rfl, f, rfl, ⟨_, SqL.of hal⟩, fun D1 hD1 => ?_⟩
  refine lcs_list (K := K) (a := f) (xs := as.map V.ref) (fun j => (((as.zip fs).take j).filter fun z => decide (((z.2.length : Nat) : Int) = top)).map fun z => V.ref z.1) hD1 rfl (SqL.of hal) (fun j hj => ?_) (fun j x H3 R R' hx s3 kR kR' => ?_) fun H3 s3 hl3 => ?_
  · rw [List.length_map]
    refine Nat.le_trans (List.length_filter_le _ _) ?_
    rw [List.length_take, List.length_zip, hE.1]
    omega
  · obtain ⟨aj, haj, rfl⟩ := of_map_ref hx
    have hj : j < fs.length := by rw [← hE.1]; exact (List.getElem?_eq_some_iff.mp haj).1
    have hlj : fs[j]? = some fs[j] := List.getElem?_eq_getElem hj
    generalize fs[j] = u at hlj
    have hz := zip_get haj hlj
    refine ⟨rfl, ⟨_, rfl, aj, _, rfl, .inr (SqT.of (s3 _ _ (hE.2 _ _ _ haj hlj))), _, rfl, rfl, _, rfl, ?_⟩⟩
    rw [List.length_map]
    by_cases c : ((u.length : Nat) : Int) = top
    · rw [c, decide_eq_true rfl]
      refine iteT ⟨_, rfl, kR _ _ (Same.refl _) ?_⟩
      show (((as.zip fs).take (j + 1)).filter _).map _ = _
      rw [take_more hz, List.filter_append, filtl_pos (p := fun z : Addr × List Int => decide (((z.2.length : Nat) : Int) = top)) (decide_eq_true c), List.map_append]
      rfl
    · have e : decide (V.int ((u.length : Nat) : Int) = .int top) = false := decide_eq_false (fun z => by injection z with z; exact c z)
      rw [e]
      refine iteF (kR' _ (Same.refl _) ?_)
      show (((as.zip fs).take (j + 1)).filter _).map _ = _
      rw [take_more hz, List.filter_append, filtl_neg (p := fun z : Addr × List Int => decide (((z.2.length : Nat) : Int) = top)) (decide_eq_false c), List.append_nil]
  · have et : (as.zip fs).take (as.map V.ref).length = as.zip fs := List.take_of_length_le (by rw [List.length_map, List.length_zip, hE.1]; omega)
    rw [et] at hl3
    have zf : ∀ z ∈ (as.zip fs).filter (fun z => decide (((z.2.length : Nat) : Int) = top)), H1 z.1 = some (tupO z.2) ∧ z.2 ∈ fs ∧ ((z.2.length : Nat) : Int) = top := fun z hz => by
      obtain ⟨h1, h2⟩ := List.mem_filter.mp hz
      obtain ⟨i, hi⟩ := List.getElem?_of_mem h1
      rw [List.getElem?_zip_eq_some] at hi
      exact ⟨hE.2 i _ _ hi.1 hi.2, List.mem_of_getElem? hi.2, of_decide_eq_true h2⟩
    have zin : ∀ u ∈ fs, ((u.length : Nat) : Int) = top → ∃ c, (c, u) ∈ (as.zip fs).filter (fun z => decide (((z.2.length : Nat) : Int) = top)) := fun u hu e => by
      obtain ⟨i, hi⟩ := List.getElem?_of_mem hu
      have hia : i < as.length := by rw [hE.1]; exact (List.getElem?_eq_some_iff.mp hi).1
      refine ⟨as[i], List.mem_filter.mpr ⟨?_, decide_eq_true e⟩⟩
      exact List.mem_of_getElem? (zip_get (List.getElem?_eq_getElem hia) hi)
    obtain ⟨u0, hu0, eu0⟩ := List.mem_map.mp hmm
    obtain ⟨c0, hc0⟩ := zin u0 hu0 eu0
    dsimp only [tNil, tCons]
    show rMinDt _ _ _ _
    refine min_tups (fun z => by rw [z] at hc0; cases hc0) hl3 (fun z hz => s3 _ _ (zf z hz).1) fun z hz hzmin => ?_
    obtain ⟨g1, g2, g3⟩ := zf z hz
    obtain ⟨zl, zF⟩ := hmem.mp g2
    have nb : ¬ Bet b1 z.2 := by
      rintro (h | ⟨h, h2⟩)
      · have := hmax _ (List.mem_map.mpr ⟨b1, hmem.mpr ⟨hB.lot, hB.good⟩, rfl⟩)
        omega
      · obtain ⟨c, hc⟩ := zin b1 (hmem.mpr ⟨hB.lot, hB.good⟩) (by omega)
        exact hzmin _ hc h2
    have eb : b1 = z.2 := (Bet.or nb).elim (fun h => absurd h (hB.top _ zl zF)) id
    have hzl := zl.len
    have g1' := s3 _ _ g1
    rw [← eb] at g1'
    exact ⟨.ref p, .ref z.1, rfl, alike_tupO (s3 _ _ hp) g1' (by rw [eb]; omega), fun H4 s4 => ⟨true, rfl, iteF (q H4 (s1.trans (s3.trans s4)))⟩⟩
def rd14 : TS := fun D σ H => ∃ (x0 x1 x2 x3 x4 x5 x6 : Option V) (f : Addr) (x8 x9 x10 x11 x12 x13 x14 x15 : Option V) (fs : List (List Int)), σ = LS x0 x1 x2 x3 x4 x5 x6 (some (.ref f)) x8 x9 x10 x11 x12 x13 x14 x15 none none ∧
  Seqs tupO H f fs ∧ fs.length ≤ 64 ∧
  ∀ H' p, Same H H' → H' p = some (lstO (lens fs)) → D.nx (LS x0 x1 x2 x3 x4 x5 x6 (some (.ref f)) x8 x9 x10 x11 x12 x13 x14 x15 (some (.ref p)) none) H'
theorem law_s14 (hr : Room 14 (A.deeper (envOfC (Str.ofString "law") (defScope s_law) s0.heap.objs.size T.d_law.f cdv))) : PS (LX P w base T cdv A outer s0 H0 E0') (lawSt 14) rd14 := by
  have nd := sc_law.nd
  refine PS.weak (ps_set (i := 16) nd rfl (.inr rfl) (pe_lc (own := [("_law_told", 6)]) rfl nd (pi_list (pv 7)) (blkOk_by (own := [("_law_told", 6)]) (N := n_law) (sc := defScope s_law) (by decide +kernel))
      (fun _ _ _ _ _ => pg_name (i := 6) nd rfl (Or.inl rfl)) (fun _ _ _ _ _ => pts_nil)
      (fun _ _ _ _ _ => pe_callB (crLen K) (by rfl) T.z_len bt_len (pa_cons (pv 6) pa_nil)))) fun D σ H h => ?_
  obtain ⟨x0, x1, x2, x3, x4, x5, x6, f, x8, x9, x10, x11, x12, x13, x14, x15, fs, rfl, hF, hfl, q⟩ := h
  obtain ⟨as, hal, hE⟩ := id hF
  refine ⟨_, rfl, f, rfl, ⟨_, SqL.of hal⟩, fun D1 hD1 => ?_⟩
  refine lcs_list (K := K) (a := f) (xs := as.map V.ref) (fun j => (lens (fs.take j)).map V.int) hD1 rfl (SqL.of hal) (fun j hj => ?_) (fun j x H3 R R' hx s3 kR kR' => ?_) fun H3 s3 hl3 => ?_
  · unfold lens
    rw [List.length_map, List.length_map, List.length_take]
    omega
  · obtain ⟨aj, haj, rfl⟩ := of_map_ref hx
    have hj : j < fs.length := by rw [← hE.1]; exact (List.getElem?_eq_some_iff.mp haj).1
    have hlj : fs[j]? = some fs[j] := List.getElem?_eq_getElem hj
    generalize fs[j] = u at hlj
    refine ⟨rfl, ⟨_, rfl, aj, _, rfl, .inr (SqT.of (s3 _ _ (hE.2 _ _ _ haj hlj))), kR _ _ (Same.refl _) ?_⟩⟩
    show (lens (fs.take (j + 1))).map V.int = _
    unfold lens
    rw [take_more hlj, List.map_append, List.map_append, List.length_map]
    rfl
  · have et : fs.take (as.map V.ref).length = fs := List.take_of_length_le (by rw [List.length_map, hE.1]; exact Nat.le_refl _)
    rw [et] at hl3
    exact q H3 D1 s3 hl3
def rd15 : TS := fun D σ H => ∃ (x0 x1 : Option V) (a b : Addr) (n : Nat) (E : List Pr) (l : List Int) (m : Int) (x6 : Option V) (f : Addr) (x8 x9 x10 x11 x12 x13 x14 : Option V) (top : Int) (sz : Addr), σ = LS x0 x1 (some (.ref a)) (some (.int n)) (some (.int m)) (some (.ref b)) x6 (some (.ref f)) x8 x9 x10 x11 x12 x13 x14 (some (.int top)) (some (.ref sz)) none ∧
  Last H a b n E l m f top ∧ H sz = some (lstO (lens (fines n (nearL n E) m))) ∧ ∀ H', Same H H' → D.nx σ H'
theorem law_s15 (hr : Room 14 (A.deeper (envOfC (Str.ofString "law") (defScope s_law) s0.heap.objs.size T.d_law.f cdv))) : PS (LX P w base T cdv A outer s0 H0 E0') (lawSt 15) rd15 := by
  have nd := sc_law.nd
  refine PS.weak (ps_if (pt_not (pt_val (pe_call (ok_l_alike T 2) (hr.mono (by decide)) (by rfl) T.d_l_alike.g T.d_l_alike.F.kp T.d_l_alike.b .nil pass0
      (pa_cons (pe_call (ok_count_stones T) (hr.mono (by decide)) (by rfl) T.d_count_stones.g T.d_count_stones.F.kp T.d_count_stones.b .nil pass0 (pa_cons (pv 2) (pa_cons (pv 4) pa_nil)))
      (pa_cons (pe_callTy call_tuple_of (by rfl) T.z_tuple bt_tuple (pa_cons (pe_lc (own := [("_law_size", 9)]) rfl nd (pi_range1 (by rfl) T.z_range (pa_cons (pe_op op_add (pv 15) pe_int) pa_nil)) (blkOk_by (own := [("_law_size", 9)]) (N := n_law) (sc := defScope s_law) (by decide +kernel))
        (fun _ _ _ _ _ => pg_name (i := 9) nd rfl (Or.inl rfl)) (fun _ _ _ _ _ => pts_nil)
        (fun _ _ _ _ _ => pe_cntE K (pv 16) (pa_cons (pv 9) pa_nil))) pa_nil)) pa_nil))))) pss_never pss_nil) fun D σ H h => ?_
  obtain ⟨x0, x1, a, b, n, E, l, m, x6, f, x8, x9, x10, x11, x12, x13, x14, top, sz, rfl, hL, hz, q⟩ := h
  have hA := hL.args
  have hn6 := hA.v.n6
  refine ⟨_, rfl, _, rfl, a, n, E, m, rfl, hA.net, hA.v, hA.m0, hA.m1, fun H1 p t s1 ht hc1 hc2 hp => ?_⟩
  have et : top = (t : Int) := by
    obtain ⟨u, hu, eu⟩ := List.mem_map.mp hL.mem
    have h1 := hL.max _ (cnt_pos.mp hc1)
    by_cases c : t < u.length
    · have := hc2 _ c
      exact absurd this (cnt_pos.mpr (List.mem_map.mpr ⟨u, hu, rfl⟩))
    · omega
  subst et
  generalize fines n (nearL n E) m = fs at hz hp
  refine ⟨_, rfl, _, 1, rfl, rfl, _, rfl, by omega, by omega, fun D1 hD1 => ?_⟩
  have en : ((t : Int) + 1).toNat = t + 1 := by omega
  rw [en]
  refine lcs_range (lo := 0) (n := t + 1) (fun i => (cntI fs i).map V.int) hD1 rfl (fun i hi => ?_) (fun i H2 R R' hi s2 kR kR' => ?_) fun H2 s2 hl2 => ?_
  · rw [List.length_map, cntI_len]
    omega
  · have ei : (0 : Int) + (i : Int) = (i : Int) := by omega
    rw [ei]
    have hz2 := s2 _ _ (s1 _ _ hz)
    refine ⟨rfl, ⟨_, rfl, .inl ⟨rfl, _, SqL.of hz2⟩, _, rfl, sz, _, i, rfl, rfl, SqL.of hz2, kR _ _ (Same.refl _) ?_⟩⟩
    show (cntI fs (i + 1)).map V.int = _
    rw [cntI_succ, List.map_append, count_lens]
    rfl
  · refine ⟨D1, _, rfl, .inl ⟨SqL.of hl2, fun u hu => ?_⟩⟩
    have s3 := same_new (H := H2) (o := .tup ((cntI fs (t + 1)).map V.int)) hu
    exact ⟨.ref p, .ref u, rfl, alike_tupO (s3 _ _ (s2 _ _ hp)) upd_same (by rw [cntI_len]; omega), fun H4 s4 => ⟨true, rfl, iteF (q H4 (s1.trans (s2.trans (s3.trans s4))))⟩⟩
end
end ST

/-! LLaw6 -/
/-! law, statement by statement: the full lots. -/
namespace ST
open Classical
open PySem PySem.Spec PyProof.Rows L2 SM
open PySem.W (alike dataLt AllAlike)
noncomputable def fulls (n : Nat) (L : List (List Int)) (m : Int) : List (List Int) := (fines n L m).filter fun u => decide (free n L m u = [])
theorem mem_fulls {n : Nat} {L : List (List Int)} {m : Int} {u : List Int} : u ∈ fulls n L m ↔ IsLot n u ∧ Full n L m u := by
  unfold fulls Full
  rw [List.mem_filter, mem_fines, decide_eq_true_iff]
  exact ⟨fun h => ⟨h.1.1, h.1.2, h.2⟩, fun h => ⟨⟨h.1, h.2.1⟩, h.2.2⟩⟩
/-- min of (len, lot) -/
theorem min_its {K : PySem.W.Frag} {H : Hp} {Q : VK} {D : Addr} {φ : List Int → Int} {zs : List It} (hne : zs ≠ []) (h : H D = some (.lst (zs.map fun z => V.ref z.1))) (hz : ∀ z ∈ zs, H z.1 = some (.tup [.int (φ z.2.2), .ref z.2.1]) ∧ H z.2.1 = some (tupO z.2.2))
    (q : ∀ z ∈ zs, (∀ y ∈ zs, ¬ (φ y.2.2 < φ z.2.2 ∨ (φ y.2.2 = φ z.2.2 ∧ y.2.2 < z.2.2))) → Q (.ref z.1) H) : rMinDt K [.ref D] H Q := by
  cases zs with
  | nil => exact absurd rfl hne
  | cons c cs =>
    have ec : ∀ (c : It) (cs : List It), (V.ref c.1, itD (φ c.2.2) c.2.2) :: cs.map (fun z : It => (V.ref z.1, itD (φ z.2.2) z.2.2)) = (c :: cs).map (fun z : It => (V.ref z.1, itD (φ z.2.2) z.2.2)) := fun _ _ => rfl
    refine ⟨D, (V.ref c.1, itD (φ c.2.2) c.2.2), cs.map fun z => (V.ref z.1, itD (φ z.2.2) z.2.2), rfl, SqL.of ?_, fun b hb => ?_, fun d hd d' hd' => ?_, fun b hb => ?_, fun b hb => ?_, fun b hb e => ?_⟩
    · rw [h, List.map_cons, List.map_cons, List.map_map]
      rfl
    · rw [ec] at hb
      obtain ⟨z, hzm, rfl⟩ := List.mem_map.mp hb
      exact dp_it (hz z hzm).1 (hz z hzm).2
    · rw [ec] at hd hd'
      obtain ⟨b, hb, rfl⟩ := List.mem_map.mp hd
      obtain ⟨b', hb', rfl⟩ := List.mem_map.mp hd'
      obtain ⟨z, _, rfl⟩ := List.mem_map.mp hb
      obtain ⟨z', _, rfl⟩ := List.mem_map.mp hb'
      exact alike_it _ _ _ _
    · rw [ec] at hb
      obtain ⟨z, hzm, rfl⟩ := List.mem_map.mp hb
      exact it_not _ _
    · rw [ec] at hb
      obtain ⟨z, hzm, rfl⟩ := List.mem_map.mp hb
      show (itD (φ z.2.2) z.2.2).depth ≤ 8
      rw [depth_it]
      decide
    · rw [ec] at hb
      obtain ⟨z, hzm, rfl⟩ := List.mem_map.mp hb
      refine q z hzm fun y hy => ?_
      have tl : ∀ (x y : Int) (s t : List Int), dataLt (itD x s) (itD y t) = false → ¬ (x < y ∨ (x = y ∧ s < t)) := fun x y s t h w => by
        rw [lt_it, decide_eq_true w] at h
        cases h
      have tn : ∀ (x y : Int) (s t : List Int), ¬ (x < y ∨ (x = y ∧ s < t)) → dataLt (itD x s) (itD y t) = false := fun x y s t h => by rw [lt_it, decide_eq_false h]
      have hle := minD_le (P := fun d => ∃ (x : Int) (s : List Int), d = itD x s) (fun a b c ⟨x1, s1, e1⟩ ⟨x2, s2, e2⟩ ⟨x3, s3, e3⟩ h1 h2 => by
          subst e1 e2 e3
          have h1 := tl _ _ _ _ h1
          have h2 := tl _ _ _ _ h2
          refine tn _ _ _ _ ?_
          rintro (z | ⟨z, z2⟩)
          · by_cases c1 : x2 < x1
            · exact h1 (.inl c1)
            · exact h2 (.inl (by omega))
          · have c1 : ¬ x2 < x1 := fun y => h1 (.inl y)
            have c2 : ¬ x3 < x2 := fun y => h2 (.inl y)
            have d1 : ¬ s2 < s1 := fun y => h1 (.inr ⟨by omega, y⟩)
            have d2 : ¬ s3 < s2 := fun y => h2 (.inr ⟨by omega, y⟩)
            exact (List.le_trans (show s1 ≤ s2 from d1) (show s2 ≤ s3 from d2)) z2) (fun a b ⟨x1, s1, e1⟩ ⟨x2, s2, e2⟩ h1 => by
          subst e1 e2
          rw [lt_it, decide_eq_true_iff] at h1
          refine tn _ _ _ _ ?_
          rintro (z | ⟨z, z2⟩)
          · rcases h1 with h1 | ⟨h1, _⟩ <;> omega
          · rcases h1 with h1 | ⟨_, h1⟩
            · omega
            · exact lex_irr _ (lex_trans h1 z2)) (fun a ⟨x1, s1, e1⟩ => by
          subst e1
          refine tn _ _ _ _ ?_
          rintro (z | ⟨_, z2⟩)
          · omega
          · exact lex_irr _ z2) ((cs.map fun z : It => (V.ref z.1, itD (φ z.2.2) z.2.2)).map (·.2)) (itD (φ c.2.2) c.2.2) ⟨_, _, rfl⟩ (fun y hy => by
          obtain ⟨b, hb, rfl⟩ := List.mem_map.mp hy
          obtain ⟨z, _, rfl⟩ := List.mem_map.mp hb
          exact ⟨_, _, rfl⟩) (itD (φ y.2.2) y.2.2) (by
          rcases List.mem_cons.mp hy with rfl | hy
          · exact List.mem_cons_self
          · exact List.mem_cons_of_mem _ (List.mem_map.mpr ⟨_, List.mem_map.mpr ⟨y, hy, rfl⟩, rfl⟩))
      rw [← show itD (φ z.2.2) z.2.2 = _ from e] at hle
      exact tl _ _ _ _ hle
section
variable {P : Program} {w : World} {K : PySem.W.Frag} {mg : Str → Option Value} {base : Heap} {T : Txt K mg} {cdv : Value} {A : Around} {outer : List Env} {s0 : Shared} {H0 : Hp} {E0' : XK}
def rd16 : TS := fun D σ H => ∃ (x0 x1 : Option V) (a b : Addr) (n : Nat) (E : List Pr) (l : List Int) (m : Int) (x6 : Option V) (f d : Addr) (x9 x10 x11 x12 x13 x14 x15 x16 : Option V) (kvs : List (List Key × V)) (done : List (List Int)), σ = LS x0 x1 (some (.ref a)) (some (.int n)) (some (.int m)) (some (.ref b)) x6 (some (.ref f)) (some (.ref d)) x9 x10 x11 x12 x13 x14 x15 x16 none ∧
  ArgsOk H a b n E l m ∧ Tab H d n E m kvs done ∧ Seqs tupO H f (fines n (nearL n E) m) ∧
  ∀ H' p, Same H H' → Seqs tupO H' p (fulls n (nearL n E) m) → D.nx (LS x0 x1 (some (.ref a)) (some (.int n)) (some (.int m)) (some (.ref b)) x6 (some (.ref f)) (some (.ref d)) x9 x10 x11 x12 x13 x14 x15 x16 (some (.ref p))) H'
theorem law_s16 (hr : Room 14 (A.deeper (envOfC (Str.ofString "law") (defScope s_law) s0.heap.objs.size T.d_law.f cdv))) : PS (LX P w base T cdv A outer s0 H0 E0') (lawSt 16) rd16 := by
  have nd := sc_law.nd
  have hu := hu_of hr
  have hu64 := hr.units
  refine PS.weak (ps_setLc (i := 17) (own := [("_law_told", 6)]) (g := gName 6) rfl nd rfl rfl (sw_true rfl rfl rfl (by decide +kernel)) (pi_list (pv 7)) (blkOk_by (own := [("_law_told", 6)]) (N := n_law) (sc := defScope s_law) (by decide +kernel))
      (fun _ _ _ _ _ => pg_name (i := 6) nd rfl (Or.inr rfl))
      (fun _ _ _ _ _ => pts_one (pt_cmpR (opEqD K hu64) (pe_lc (own := [("_law_point", 18)]) rfl nd (pi_range1 (by rfl) T.z_range (pa_cons (pv 3) pa_nil)) (blkOk_by (own := [("_law_point", 18)]) (N := n_law) (sc := relS (lcScope (lawSt 16)) (defScope s_law)) (by decide +kernel))
        (fun _ _ _ _ _ => pg_name (i := 18) nd rfl (Or.inl rfl))
        (fun _ _ _ _ _ => pts_one (PW.pt (pw_and (pt_cmpR (opNotIn K) (pv 18) (pv 6) (by rfl)) (pw_and1 (pt_cmp (pc_din hu (pe_call (ok_l_put T) (hr.mono (by decide)) (by rfl) T.d_l_put.g T.d_l_put.F.kp T.d_l_put.b .nil pass0 (pa_cons (pv 6) (pa_cons (pv 18) pa_nil))) (pv 8)))))))
        (fun _ _ _ _ _ => pv 18)) (pe_lst pa_nil) (by rfl)))
      (fun _ _ _ _ _ => pv 6)) fun D σ H h => ?_
  obtain ⟨x0, x1, a, b, n, E, l, m, x6, f, d, x9, x10, x11, x12, x13, x14, x15, x16, kvs, done, rfl, hA, hT, hF, q⟩ := h
  have hn6 := hA.v.n6
  obtain ⟨as, hal, hE⟩ := id hF
  have hfl := fines_len (L := nearL n E) (m := m) hn6
  have en : ((n : Int)).toNat = n := by omega
  refine ⟨_, rfl, f, rfl, ⟨_, SqL.of hal⟩, fun D1 hD1 => ?_⟩
  refine lcn_list (K := K) (k := tupO) (a := f) (xs := as.map V.ref) (fun j => ((fines n (nearL n E) m).take j).filter fun u => decide (free n (nearL n E) m u = [])) hD1 rfl (SqL.of hal) (fun j hj => ?_) (fun j x H3 R R' hx s3 hDo kT => ?_) fun H3 s3 hl3 => ?_
  · refine Nat.le_trans (List.length_filter_le _ _) ?_
    rw [List.length_take]
    omega
  · obtain ⟨aj, haj, rfl⟩ := of_map_ref hx
    have hj : j < (fines n (nearL n E) m).length := by rw [← hE.1]; exact (List.getElem?_eq_some_iff.mp haj).1
    have hlj : (fines n (nearL n E) m)[j]? = some (fines n (nearL n E) m)[j] := List.getElem?_eq_getElem hj
    generalize (fines n (nearL n E) m)[j] = u at hlj
    have hlu := (mem_fines.mp (List.mem_of_getElem? hlj)).1
    have hlul := hlu.len
    obtain ⟨oD, hoD⟩ := hDo
    have hu3 := s3 _ _ (hE.2 _ _ _ haj hlj)
    refine ⟨rfl, ⟨_, rfl, n, rfl, by omega, by omega, fun D2 hD2 => ?_⟩⟩
    rw [en]
    refine lcs_range (lo := 0) (n := n) (fun i => (((pts n).take i).filter fun z => decide (z ∈ free n (nearL n E) m u)).map V.int) hD2 (by rw [List.take_zero]; rfl) (fun i hi => ?_) (fun i H4 S S' hi s4 kR kR' => ?_) fun H4 s4 hl4 => ?_
    · rw [List.length_map]
      refine Nat.le_trans (List.length_filter_le _ _) ?_
      rw [List.length_take]
      omega
    · have ei : (0 : Int) + (i : Int) = (i : Int) := by omega
      rw [ei]
      have hb2 := s4 _ _ hu3
      have hfd := free_done (i := (i : Int)) hlu hT.all (by omega) (by omega)
      refine ⟨rfl, ⟨_, rfl, _, rfl, aj, _, rfl, .inr (SqT.of hb2), rfl, flat_ints u, _, rfl, ?_⟩⟩
      show if (!inV (V.int (i : Int)) (u.map V.int)) = true then _ else _
      rw [inV_ints]
      have no : (i : Int) ∉ free n (nearL n E) m u → (((pts n).take (i + 1)).filter fun z => decide (z ∈ free n (nearL n E) m u)).map V.int = (((pts n).take i).filter fun z => decide (z ∈ free n (nearL n E) m u)).map V.int := fun h => by
        rw [take_more (pts_get hi), List.filter_append, filt_neg (decide_eq_false h), List.append_nil]
      by_cases c : (i : Int) ∈ u
      · rw [decide_eq_true c]
        exact iteF (kR' _ (Same.refl _) (no fun z => (hfd.mp z).1 c))
      · rw [decide_eq_false c]
        refine iteT ⟨_, rfl, _, rfl, aj, u, i, rfl, hb2, hlu.asc, c, by omega, fun H5 v s5 hv5 => ?_⟩
        refine ⟨_, rfl, d, _, rfl, (hT.same (s3.trans (s4.trans s5))).get hv5, _, rfl, ?_⟩
        by_cases c2 : ins (i : Int) u ∈ done
        · rw [if_pos c2]
          refine iteT ⟨_, rfl, kR _ _ s5 ?_⟩
          show (((pts n).take (i + 1)).filter _).map V.int = _
          rw [take_more (pts_get hi), List.filter_append, filt_pos (decide_eq_true (hfd.mpr ⟨c, c2⟩)), List.map_append]
          rfl
        · rw [if_neg c2]
          exact iteF (kR' _ s5 (no fun z => c2 (hfd.mp z).2))
    · rw [free_filter] at hl4
      refine ⟨Nat.zero_le _, fun e he => ?_⟩
      have se : Same H4 (upd H4 e (.lst [])) := same_new he
      refine ⟨.list ((free n (nearL n E) m u).map PyData.int), .list [], .lst (SqL.of (se _ _ hl4)) (dp_ints _), .lst (SqL.of upd_same) .nil, shaped_ints _, shaped_ints [], _, rfl, ?_⟩
      rw [eqv_nil]
      have s5 := s4.trans se
      by_cases c : free n (nearL n E) m u = []
      · rw [decide_eq_true c]
        refine iteT ⟨_, rfl, kT.1 aj u _ (fun z => ?_) s5 (s5 _ _ hu3) ?_⟩
        · rw [z, hoD] at hu3
          cases hu3
        · show ((fines n (nearL n E) m).take (j + 1)).filter _ = _
          rw [take_more hlj, List.filter_append, filtl_pos (p := fun u => decide (free n (nearL n E) m u = [])) (decide_eq_true c)]
      · rw [decide_eq_false c]
        refine iteF (kT.2 _ s5 ?_)
        show ((fines n (nearL n E) m).take (j + 1)).filter _ = _
        rw [take_more hlj, List.filter_append, filtl_neg (p := fun u => decide (free n (nearL n E) m u = [])) (decide_eq_false c), List.append_nil]
  · have et : (fines n (nearL n E) m).take (as.map V.ref).length = fines n (nearL n E) m := List.take_of_length_le (by rw [List.length_map, hE.1]; exact Nat.le_refl _)
    rw [et] at hl3
    exact q H3 D1 s3 hl3
def rd17 : TS := fun D σ H => ∃ (x0 x1 : Option V) (a b : Addr) (n : Nat) (E : List Pr) (l : List Int) (m : Int) (x6 x7 x8 x9 x10 x11 x12 x13 x14 x15 x16 : Option V) (fl : Addr), σ = LS x0 x1 (some (.ref a)) (some (.int n)) (some (.int m)) (some (.ref b)) x6 x7 x8 x9 x10 x11 x12 x13 x14 x15 x16 (some (.ref fl)) ∧
  ArgsOk H a b n E l m ∧ Seqs tupO H fl (fulls n (nearL n E) m) ∧ ∀ H', D.rt (.bl true) H'
theorem law_s17 (hr : Room 14 (A.deeper (envOfC (Str.ofString "law") (defScope s_law) s0.heap.objs.size T.d_law.f cdv))) : PS (LX P w base T cdv A outer s0 H0 E0') (lawSt 17) rd17 := by
  have nd := sc_law.nd
  have hu64 := hr.units
  refine PS.weak (ps_ret (pe_call (ok_l_alike T 2) (hr.mono (by decide)) (by rfl) T.d_l_alike.g T.d_l_alike.F.kp T.d_l_alike.b .nil pass0
      (pa_cons (pe_call (ok_fewest_full T) (hr.mono (by decide)) (by rfl) T.d_fewest_full.g T.d_fewest_full.F.kp T.d_fewest_full.b .nil pass0 (pa_cons (pv 2) (pa_cons (pv 4) pa_nil)))
      (pa_cons (pe_ix ix_tup (pe_callB (cr_minDt rfl hu64) (by rfl) T.z_min bt_min (pa_cons (pe_lc (own := [("_law_told", 6)]) rfl nd (pi_list (pv 17)) (blkOk_by (own := [("_law_told", 6)]) (N := n_law) (sc := defScope s_law) (by decide +kernel))
        (fun _ _ _ _ _ => pg_name (i := 6) nd rfl (Or.inl rfl)) (fun _ _ _ _ _ => pts_nil)
        (fun _ _ _ _ _ => pe_tup (pa_cons (pe_callB (crLen K) (by rfl) T.z_len bt_len (pa_cons (pv 6) pa_nil)) (pa_cons (pv 6) pa_nil)))) pa_nil)) pe_int (fun _ _ => rfl)) pa_nil)))) fun D σ H h => ?_
  obtain ⟨x0, x1, a, b, n, E, l, m, x6, x7, x8, x9, x10, x11, x12, x13, x14, x15, x16, fl, rfl, hA, hF, q⟩ := h
  have hn6 := hA.v.n6
  refine ⟨_, rfl, _, rfl, a, n, E, m, rfl, hA.net, hA.v, hA.m0, hA.m1, fun H1 p b1 s1 hB hp => ?_⟩
  obtain ⟨as, hal, hE⟩ := hF.same s1
  have hfl : (fulls n (nearL n E) m).length ≤ 64 := Nat.le_trans (List.length_filter_le _ _) (fines_len hn6)
  have hmem : ∀ {u}, u ∈ fulls n (nearL n E) m ↔ IsLot n u ∧ Full n (nearL n E) m u := fun {u} => mem_fulls
  generalize fulls n (nearL n E) m = fs at hE hfl hmem
  refine ⟨_, rfl, fl, rfl, ⟨_, SqL.of hal⟩, fun D1 hD1 => ?_⟩
  refine lco_list (K := K) (a := fl) (xs := as.map V.ref) ((as.zip fs).map fun p => HO.tup [.int ((p.2.length : Nat) : Int), .ref p.1]) hD1 (SqL.of hal) (by rw [List.length_map, List.length_map, List.length_zip, hE.1]; exact Nat.min_self _) (by rw [List.length_map, hE.1]; omega) (fun i x o H2 R R' hx ho s2 hDo kR => ?_) fun H2 ts s2 hl2 hts => ?_
  · obtain ⟨ai, hai, rfl⟩ := of_map_ref hx
    have hi : i < fs.length := by rw [← hE.1]; exact (List.getElem?_eq_some_iff.mp hai).1
    have hli : fs[i]? = some fs[i] := List.getElem?_eq_getElem hi
    generalize fs[i] = u at hli
    rw [List.getElem?_map, zip_get hai hli] at ho
    have ho := Option.some.inj ho
    obtain ⟨oD, hoD⟩ := hDo
    refine ⟨rfl, ⟨_, rfl, ai, _, rfl, .inr (SqT.of (s2 _ _ (hE.2 _ _ _ hai hli))), _, rfl, (by show 2 ≤ sizeLine; decide), fun t ht => kR t _ (fun z => ?_) (same_new ht) ?_⟩⟩
    · rw [z, hoD] at ht
      cases ht
    · rw [upd_same, ← ho, List.length_map]
  obtain ⟨ps, hp1, hp2, hp3⟩ := its_of (φ := fun u => ((u.length : Nat) : Int)) hts (⟨hE.1, fun i a l ha hl => s2 _ _ (hE.2 i a l ha hl)⟩)
  have hb1 := hmem.mpr ⟨hB.lot, hB.good⟩
  have hin : ∀ u ∈ fs, ∃ y ∈ ps, y.2.2 = u := fun u hu => by
    rw [← hp2] at hu
    obtain ⟨y, hy, e⟩ := List.mem_map.mp hu
    exact ⟨y, hy, e⟩
  obtain ⟨y0, hy0, ey0⟩ := hin _ hb1
  dsimp only [tNil, tCons]
  show rMinDt _ _ _ _
  refine min_its (φ := fun u => ((u.length : Nat) : Int)) (zs := ps) (fun z => by rw [z] at hy0; cases hy0) (by rw [hl2, ← hp1, List.map_map]; rfl) hp3 fun z hz hzmin => ?_
  obtain ⟨g1, g2⟩ := hp3 z hz
  have hzf : z.2.2 ∈ fs := by rw [← hp2]; exact List.mem_map.mpr ⟨z, hz, rfl⟩
  obtain ⟨zl, zF⟩ := hmem.mp hzf
  have nb : ¬ Few b1 z.2.2 := fun hf => by
    refine hzmin y0 hy0 ?_
    rw [ey0]
    rcases hf with h | ⟨h, h2⟩
    · exact .inl (by omega)
    · exact .inr ⟨by omega, h2⟩
  have eb : b1 = z.2.2 := (Few.or nb).elim (fun h => absurd h (hB.top _ zl zF)) id
  have hzl := zl.len
  rw [← eb] at g2
  exact ⟨z.1, _, 1, _, rfl, rfl, SqT.of g1, atI_nat (j := 1) rfl, .ref p, .ref z.2.1, rfl, alike_tupO (s2 _ _ hp) g2 (by rw [eb]; omega), fun H4 s4 => q H4⟩
end
end ST

/-! LLaw7 -/
/-! law. -/
namespace ST
open Classical
open PySem PySem.Spec PyProof.Rows L2 SM
section
variable {P : Program} {w : World} {K : PySem.W.Frag} {mg : Str → Option Value} {base : Heap}
def spLaw (K : PySem.W.Frag) : Sp := fun vs H Q _ => ∃ (sc : Addr) (ns : List Int), vs = [.ref sc] ∧ SqL K H sc (ns.map V.int) ∧ ns.length ≤ 63 ∧ ∀ H', Q (.bl true) H'
theorem ok_law (T : Txt K mg) : FnOk P w K mg base CX0 15 T.d_law.f T.d_law.fd p_law (spLaw K) := by
  refine T.d_law.F.ok sc_law (fun vs H Q E h => ?_) (fun cdv A outer s H vs Q E hr h => ?_)
  · obtain ⟨sc, ns, rfl, _⟩ := h
    rfl
  obtain ⟨sc, ns, rfl, hS, hn, q⟩ := h
  refine ⟨_, pss_cons (law_s1 (T := T)) (pss_cons (law_s2 (T := T) hr) (pss_cons (law_s3 (T := T)) (pss_cons (law_s4 (T := T) hr) (pss_cons (law_s5 (T := T) hr) (pss_cons (law_s6 (T := T)) (pss_cons (law_s7 (T := T) hr)
    (pss_cons (law_s8a (T := T)) (pss_cons (law_s8 (T := T) hr) (pss_cons (law_s9 (T := T) hr) (pss_cons (law_s10 (T := T) hr) (pss_cons (law_s11 (T := T) hr) (pss_cons (law_s12 (T := T) hr) (pss_cons (law_s13 (T := T) hr)
    (pss_cons (law_s14 (T := T) hr) (pss_cons (law_s15 (T := T) hr) (pss_cons (law_s16 (T := T) hr) (pss_one (law_s17 (T := T) hr)))))))))))))))))), ?_⟩
  refine ⟨sc, ns, rfl, hS, fun H1 r hR1 hS1 => ?_⟩
  refine ⟨sc, ns, r, rfl, hR1, hS1, fun H2 a n E2 hR2 hS2 hN2 hV => ?_⟩
  refine ⟨_, _, a, n, E2, rfl, hN2, ?_⟩
  refine ⟨sc, ns, r, a, n, E2, rfl, hR2, hS2, hN2, hV, fun H3 b l m hA3 => ?_⟩
  refine ⟨_, _, a, b, n, E2, l, m, rfl, hA3, fun H4 f hA4 hF4 => ?_⟩
  refine ⟨_, _, _, _, _, _, _, rfl, fun d hd => ?_⟩
  have s5 : Same H4 (upd H4 d (.dT [])) := same_new hd
  have g5 : (upd H4 d (.dT [])) d = some (.dT []) := upd_same
  generalize upd H4 d (.dT []) = H5 at s5 g5
  refine ⟨_, _, a, b, n, E2, l, m, f, d, rfl, hA4.same s5, hF4.same s5, g5, fun H6 kvs done x6 x9 x10 x11 hA6 hF6 hd6 hW6 hdn6 => ?_⟩
  refine ⟨_, _, _, _, _, _, _, _, _, _, _, _, rfl, fun fd hfd => ?_⟩
  have s7 : Same H6 (upd H6 fd (.lst [])) := same_new hfd
  have g7 : (upd H6 fd (.lst [])) fd = some (.lst []) := upd_same
  generalize upd H6 fd (.lst []) = H7 at s7 g7
  refine ⟨_, _, a, b, n, E2, l, m, _, _, _, _, _, _, fd, rfl, hA6.same s7, g7, fun H8 vs x13 b8 hv8 hFI8 => ?_⟩
  have nlt : ∀ xs, HO.lst [] ≠ .tup xs := fun xs z => by cases z
  have hA8 := (hA6.same s7).but b8 g7 nlt
  have hd7 := s7 _ _ hd6
  have ndf : d ≠ fd := fun z => by rw [z, hfd] at hd6; cases hd6
  have hd8 := b8 _ _ ndf hd7
  have hF8 : Seqs tupO H8 f (fines n (nearL n E2) m) := by
    refine b8.seqs (hF6.same s7) (fun z => ?_) fun u z => by rw [g7] at z; cases z
    obtain ⟨as, hal, _⟩ := hF6
    rw [z, hfd] at hal
    cases hal
  refine ⟨_, _, a, b, n, E2, l, m, _, _, d, _, _, _, fd, _, kvs, done, vs, rfl, hA8, hd8, hW6, hdn6, hv8, hFI8, fun H' => q H', fun hf => ?_⟩
  have hT8 : Tab H8 d n E2 m kvs done := ⟨hd8, hW6, hdn6⟩
  refine ⟨_, _, a, b, n, E2, l, m, _, _, d, _, _, _, _, _, kvs, done, rfl, hA8, hT8, fun H9 fr s9 hfr => ?_⟩
  have hFI9 : FI n (nearL n E2) m l 3 H9 fd vs := ⟨fun z => by
    obtain ⟨p1, p2, e, n1, n2, g1, g2⟩ := hFI8.1 z
    exact ⟨p1, p2, e, n1, n2, s9 _ _ g1, s9 _ _ g2⟩, hFI8.2⟩
  refine ⟨_, _, a, b, n, E2, l, m, _, _, d, _, _, _, fd, _, fr, kvs, done, vs, rfl, hA8.same s9, hT8.same s9, s9 _ _ hv8, hFI9, hf, hfr, fun H10 s10 => ?_⟩
  have s910 := s9.trans s10
  have hne : fines n (nearL n E2) m ≠ [] := fun z => by
    have : l ∈ fines n (nearL n E2) m := mem_fines.mpr ⟨hA8.lot, hf⟩
    rw [z] at this
    cases this
  have hfl := fines_len (L := nearL n E2) (m := m) hV.n6
  refine ⟨_, _, _, _, _, _, _, f, _, _, _, _, _, _, _, fines n (nearL n E2) m, rfl, hF8.same s910, hne, hfl, fun H11 top s11 ht1 ht2 => ?_⟩
  have s11' := s910.trans s11
  have hL11 : Last H11 a b n E2 l m f top := ⟨hA8.same s11', hF8.same s11', ht1, ht2⟩
  refine ⟨_, _, a, b, n, E2, l, m, _, f, _, _, _, _, _, _, _, top, rfl, hL11, fun H12 s12 => ?_⟩
  have hL12 := hL11.same s12
  refine ⟨_, _, _, _, _, _, _, f, _, _, _, _, _, _, _, _, fines n (nearL n E2) m, rfl, hL12.fin, hfl, fun H13 sz s13 hsz => ?_⟩
  have hL13 := hL12.same s13
  refine ⟨_, _, a, b, n, E2, l, m, _, f, _, _, _, _, _, _, _, top, sz, rfl, hL13, hsz, fun H14 s14 => ?_⟩
  have hL14 := hL13.same s14
  refine ⟨_, _, a, b, n, E2, l, m, _, f, d, _, _, _, _, _, _, _, _, kvs, done, rfl, hL14.args, hT8.same (s11'.trans (s12.trans (s13.trans s14))), hL14.fin, fun H15 fl s15 hfl15 => ?_⟩
  exact ⟨_, _, a, b, n, E2, l, m, _, _, _, _, _, _, _, _, _, _, _, fl, rfl, hL14.args.same s15, hfl15, fun H' => q H'⟩
end
end ST

/-! LMk -/
/-! What the head says of the top makes Txt (printed by gen_mk.py). -/
namespace ST
open PySem PySem.Spec PyProof.Rows L2
/-- an error of the class at S is what «except S» names -/
theorem exm_self {K : PySem.W.Frag} {S : Addr} (h1 : PySem.W.subIn K (.ref S) (.type "BaseException") = some true) (h2 : PySem.W.isClsIn K S = true) (h3 : PySem.W.typeIn K (.ref S) = some (.type "type")) (h4 : PySem.W.subIn K (.ref S) (.ref S) = some true) :
    PySem.W.exmOne K (.ref S) (.ref S) = some true := by
  have e1 : (PySem.W.subIn K (.ref S) (.type "BaseException") == some true) = true := by rw [h1] <;> rfl
  have e2 : ((PySem.W.clsIn K S).isSome && PySem.W.typeIn K (.ref S) == some (.type "type")) = true := by
    have h2' : (PySem.W.clsIn K S).isSome = true := h2
    rw [h2', h3] <;> rfl
  show (if (PySem.W.subIn K (.ref S) (.type "BaseException") == some true) = true then (if ((PySem.W.clsIn K S).isSome && PySem.W.typeIn K (.ref S) == some (.type "type")) = true then PySem.W.subIn K (.ref S) (.ref S) else none) else none) = some true
  rw [if_pos e1, if_pos e2]
  exact h4
/-- a def, by what k_is finds -/
abbrev mkD {K : PySem.W.Frag} {h : Heap} {mg : Str → Option Value} (X : K.In h) (G : h.Ns mainGlobals mg) {x : Str} {st : Stmt} {ps : List Str} {f : Addr} {oc : Value} {od an : Option Addr} {osl : Array (Option Value)} {kV doc pm cdv ct : Value}
    (a : PySem.W.nsIn K mainGlobals x = some (some (.ref f))) (l : K.lookup f = some ⟨oc, od, .func (PySem.W.fnOf x x (defArgs st) (defBody st) (defScope st) .none kV doc pm an cdv ct), osl⟩) (c : PySem.W.codeIn K cdv x = true) (k : PySem.W.keepIn K (.ref f) = true)
    (b : ∀ (kV doc pm : Value) (an : Option Addr) (cdv ct : Value) (us : List Value), us.length = ps.length → bindArgs (PySem.W.fnOf x x (defArgs st) (defBody st) (defScope st) .none kV doc pm an cdv ct) ⟨us, []⟩ = pure (ps.zip us)) : D K mg x st ps :=
  ⟨f, _, fun_mk l c k, (fun_mk l c k).binds b, PySem.W.mg_of X G a⟩
theorem all_mk {l : PySem.W.OpenLaw} {w : World} {K : PySem.W.Frag} {h : Heap} {mg : Str → Option Value} {fa C : Addr} {t_checks t_stones : Tok} (X : K.In h) (G : h.Ns mainGlobals mg) (hfa : mg "law" = some (.ref fa))
    {f_whole : Addr} {od_whole an_whole : Option Addr} {sl_whole : Array (Option Value)} {oc_whole kV_whole dc_whole pm_whole cd_whole ct_whole : Value}
    {f_within : Addr} {od_within an_within : Option Addr} {sl_within : Array (Option Value)} {oc_within kV_within dc_within pm_within cd_within ct_within : Value}
    {f_need_number : Addr} {od_need_number an_need_number : Option Addr} {sl_need_number : Array (Option Value)} {oc_need_number kV_need_number dc_need_number pm_need_number cd_need_number ct_need_number : Value}
    {f_tuple_of : Addr} {od_tuple_of an_tuple_of : Option Addr} {sl_tuple_of : Array (Option Value)} {oc_tuple_of kV_tuple_of dc_tuple_of pm_tuple_of cd_tuple_of ct_tuple_of : Value}
    {f_need_net : Addr} {od_need_net an_need_net : Option Addr} {sl_need_net : Array (Option Value)} {oc_need_net kV_need_net dc_need_net pm_need_net cd_need_net ct_need_net : Value}
    {f_is_points : Addr} {od_is_points an_is_points : Option Addr} {sl_is_points : Array (Option Value)} {oc_is_points kV_is_points dc_is_points pm_is_points cd_is_points ct_is_points : Value}
    {f_need_points : Addr} {od_need_points an_need_points : Option Addr} {sl_need_points : Array (Option Value)} {oc_need_points kV_need_points dc_need_points pm_need_points cd_need_points ct_need_points : Value}
    {f_near_of : Addr} {od_near_of an_near_of : Option Addr} {sl_near_of : Array (Option Value)} {oc_near_of kV_near_of dc_near_of pm_near_of cd_near_of ct_near_of : Value}
    {f_reach : Addr} {od_reach an_reach : Option Addr} {sl_reach : Array (Option Value)} {oc_reach kV_reach dc_reach pm_reach cd_reach ct_reach : Value}
    {f_may_put : Addr} {od_may_put an_may_put : Option Addr} {sl_may_put : Array (Option Value)} {oc_may_put kV_may_put dc_may_put pm_may_put cd_may_put ct_may_put : Value}
    {f_is_fine : Addr} {od_is_fine an_is_fine : Option Addr} {sl_is_fine : Array (Option Value)} {oc_is_fine kV_is_fine dc_is_fine pm_is_fine cd_is_fine ct_is_fine : Value}
    {f_need_stones : Addr} {od_need_stones an_need_stones : Option Addr} {sl_need_stones : Array (Option Value)} {oc_need_stones kV_need_stones dc_need_stones pm_need_stones cd_need_stones ct_need_stones : Value}
    {f_free_points : Addr} {od_free_points an_free_points : Option Addr} {sl_free_points : Array (Option Value)} {oc_free_points kV_free_points dc_free_points pm_free_points cd_free_points ct_free_points : Value}
    {f_worth_of : Addr} {od_worth_of an_worth_of : Option Addr} {sl_worth_of : Array (Option Value)} {oc_worth_of kV_worth_of dc_worth_of pm_worth_of cd_worth_of ct_worth_of : Value}
    {f_worth : Addr} {od_worth an_worth : Option Addr} {sl_worth : Array (Option Value)} {oc_worth kV_worth dc_worth pm_worth cd_worth ct_worth : Value}
    {f_winning_points : Addr} {od_winning_points an_winning_points : Option Addr} {sl_winning_points : Array (Option Value)} {oc_winning_points kV_winning_points dc_winning_points pm_winning_points cd_winning_points ct_winning_points : Value}
    {f_most_stones : Addr} {od_most_stones an_most_stones : Option Addr} {sl_most_stones : Array (Option Value)} {oc_most_stones kV_most_stones dc_most_stones pm_most_stones cd_most_stones ct_most_stones : Value}
    {f_count_stones : Addr} {od_count_stones an_count_stones : Option Addr} {sl_count_stones : Array (Option Value)} {oc_count_stones kV_count_stones dc_count_stones pm_count_stones cd_count_stones ct_count_stones : Value}
    {f_fewest_full : Addr} {od_fewest_full an_fewest_full : Option Addr} {sl_fewest_full : Array (Option Value)} {oc_fewest_full kV_fewest_full dc_fewest_full pm_fewest_full cd_fewest_full ct_fewest_full : Value}
    {f_l_taken : Addr} {od_l_taken an_l_taken : Option Addr} {sl_l_taken : Array (Option Value)} {oc_l_taken kV_l_taken dc_l_taken pm_l_taken cd_l_taken ct_l_taken : Value}
    {f_l_net : Addr} {od_l_net an_l_net : Option Addr} {sl_l_net : Array (Option Value)} {oc_l_net kV_l_net dc_l_net pm_l_net cd_l_net ct_l_net : Value}
    {f_l_lot : Addr} {od_l_lot an_l_lot : Option Addr} {sl_l_lot : Array (Option Value)} {oc_l_lot kV_l_lot dc_l_lot pm_l_lot cd_l_lot ct_l_lot : Value}
    {f_l_sets : Addr} {od_l_sets an_l_sets : Option Addr} {sl_l_sets : Array (Option Value)} {oc_l_sets kV_l_sets dc_l_sets pm_l_sets cd_l_sets ct_l_sets : Value}
    {f_l_part : Addr} {od_l_part an_l_part : Option Addr} {sl_l_part : Array (Option Value)} {oc_l_part kV_l_part dc_l_part pm_l_part cd_l_part ct_l_part : Value}
    {f_l_parts : Addr} {od_l_parts an_l_parts : Option Addr} {sl_l_parts : Array (Option Value)} {oc_l_parts kV_l_parts dc_l_parts pm_l_parts cd_l_parts ct_l_parts : Value}
    {f_l_near : Addr} {od_l_near an_l_near : Option Addr} {sl_l_near : Array (Option Value)} {oc_l_near kV_l_near dc_l_near pm_l_near cd_l_near ct_l_near : Value}
    {f_l_fine : Addr} {od_l_fine an_l_fine : Option Addr} {sl_l_fine : Array (Option Value)} {oc_l_fine kV_l_fine dc_l_fine pm_l_fine cd_l_fine ct_l_fine : Value}
    {f_l_put : Addr} {od_l_put an_l_put : Option Addr} {sl_l_put : Array (Option Value)} {oc_l_put kV_l_put dc_l_put pm_l_put cd_l_put ct_l_put : Value}
    {f_l_alike : Addr} {od_l_alike an_l_alike : Option Addr} {sl_l_alike : Array (Option Value)} {oc_l_alike kV_l_alike dc_l_alike pm_l_alike cd_l_alike ct_l_alike : Value}
    {f_law : Addr} {od_law an_law : Option Addr} {sl_law : Array (Option Value)} {oc_law kV_law dc_law pm_law cd_law ct_law : Value}
    (a_whole : PySem.W.nsIn K mainGlobals "whole" = some (some (.ref f_whole)))
    (l_whole : K.lookup f_whole = some ⟨oc_whole, od_whole, .func (PySem.W.fnOf "whole" "whole" (defArgs s_whole) (defBody s_whole) (defScope s_whole) .none kV_whole dc_whole pm_whole an_whole cd_whole ct_whole), sl_whole⟩)
    (c_whole : PySem.W.codeIn K cd_whole "whole" = true)
    (k_whole : PySem.W.keepIn K (.ref f_whole) = true)
    (a_within : PySem.W.nsIn K mainGlobals "within" = some (some (.ref f_within)))
    (l_within : K.lookup f_within = some ⟨oc_within, od_within, .func (PySem.W.fnOf "within" "within" (defArgs s_within) (defBody s_within) (defScope s_within) .none kV_within dc_within pm_within an_within cd_within ct_within), sl_within⟩)
    (c_within : PySem.W.codeIn K cd_within "within" = true)
    (k_within : PySem.W.keepIn K (.ref f_within) = true)
    (a_need_number : PySem.W.nsIn K mainGlobals "need_number" = some (some (.ref f_need_number)))
    (l_need_number : K.lookup f_need_number = some ⟨oc_need_number, od_need_number, .func (PySem.W.fnOf "need_number" "need_number" (defArgs s_need_number) (defBody s_need_number) (defScope s_need_number) .none kV_need_number dc_need_number pm_need_number an_need_number cd_need_number ct_need_number), sl_need_number⟩)
    (c_need_number : PySem.W.codeIn K cd_need_number "need_number" = true)
    (k_need_number : PySem.W.keepIn K (.ref f_need_number) = true)
    (a_tuple_of : PySem.W.nsIn K mainGlobals "tuple_of" = some (some (.ref f_tuple_of)))
    (l_tuple_of : K.lookup f_tuple_of = some ⟨oc_tuple_of, od_tuple_of, .func (PySem.W.fnOf "tuple_of" "tuple_of" (defArgs s_tuple_of) (defBody s_tuple_of) (defScope s_tuple_of) .none kV_tuple_of dc_tuple_of pm_tuple_of an_tuple_of cd_tuple_of ct_tuple_of), sl_tuple_of⟩)
    (c_tuple_of : PySem.W.codeIn K cd_tuple_of "tuple_of" = true)
    (k_tuple_of : PySem.W.keepIn K (.ref f_tuple_of) = true)
    (a_need_net : PySem.W.nsIn K mainGlobals "need_net" = some (some (.ref f_need_net)))
    (l_need_net : K.lookup f_need_net = some ⟨oc_need_net, od_need_net, .func (PySem.W.fnOf "need_net" "need_net" (defArgs s_need_net) (defBody s_need_net) (defScope s_need_net) .none kV_need_net dc_need_net pm_need_net an_need_net cd_need_net ct_need_net), sl_need_net⟩)
    (c_need_net : PySem.W.codeIn K cd_need_net "need_net" = true)
    (k_need_net : PySem.W.keepIn K (.ref f_need_net) = true)
    (a_is_points : PySem.W.nsIn K mainGlobals "is_points" = some (some (.ref f_is_points)))
    (l_is_points : K.lookup f_is_points = some ⟨oc_is_points, od_is_points, .func (PySem.W.fnOf "is_points" "is_points" (defArgs s_is_points) (defBody s_is_points) (defScope s_is_points) .none kV_is_points dc_is_points pm_is_points an_is_points cd_is_points ct_is_points), sl_is_points⟩)
    (c_is_points : PySem.W.codeIn K cd_is_points "is_points" = true)
    (k_is_points : PySem.W.keepIn K (.ref f_is_points) = true)
    (a_need_points : PySem.W.nsIn K mainGlobals "need_points" = some (some (.ref f_need_points)))
    (l_need_points : K.lookup f_need_points = some ⟨oc_need_points, od_need_points, .func (PySem.W.fnOf "need_points" "need_points" (defArgs s_need_points) (defBody s_need_points) (defScope s_need_points) .none kV_need_points dc_need_points pm_need_points an_need_points cd_need_points ct_need_points), sl_need_points⟩)
    (c_need_points : PySem.W.codeIn K cd_need_points "need_points" = true)
    (k_need_points : PySem.W.keepIn K (.ref f_need_points) = true)
    (a_near_of : PySem.W.nsIn K mainGlobals "near_of" = some (some (.ref f_near_of)))
    (l_near_of : K.lookup f_near_of = some ⟨oc_near_of, od_near_of, .func (PySem.W.fnOf "near_of" "near_of" (defArgs s_near_of) (defBody s_near_of) (defScope s_near_of) .none kV_near_of dc_near_of pm_near_of an_near_of cd_near_of ct_near_of), sl_near_of⟩)
    (c_near_of : PySem.W.codeIn K cd_near_of "near_of" = true)
    (k_near_of : PySem.W.keepIn K (.ref f_near_of) = true)
    (a_reach : PySem.W.nsIn K mainGlobals "reach" = some (some (.ref f_reach)))
    (l_reach : K.lookup f_reach = some ⟨oc_reach, od_reach, .func (PySem.W.fnOf "reach" "reach" (defArgs s_reach) (defBody s_reach) (defScope s_reach) .none kV_reach dc_reach pm_reach an_reach cd_reach ct_reach), sl_reach⟩)
    (c_reach : PySem.W.codeIn K cd_reach "reach" = true)
    (k_reach : PySem.W.keepIn K (.ref f_reach) = true)
    (a_may_put : PySem.W.nsIn K mainGlobals "may_put" = some (some (.ref f_may_put)))
    (l_may_put : K.lookup f_may_put = some ⟨oc_may_put, od_may_put, .func (PySem.W.fnOf "may_put" "may_put" (defArgs s_may_put) (defBody s_may_put) (defScope s_may_put) .none kV_may_put dc_may_put pm_may_put an_may_put cd_may_put ct_may_put), sl_may_put⟩)
    (c_may_put : PySem.W.codeIn K cd_may_put "may_put" = true)
    (k_may_put : PySem.W.keepIn K (.ref f_may_put) = true)
    (a_is_fine : PySem.W.nsIn K mainGlobals "is_fine" = some (some (.ref f_is_fine)))
    (l_is_fine : K.lookup f_is_fine = some ⟨oc_is_fine, od_is_fine, .func (PySem.W.fnOf "is_fine" "is_fine" (defArgs s_is_fine) (defBody s_is_fine) (defScope s_is_fine) .none kV_is_fine dc_is_fine pm_is_fine an_is_fine cd_is_fine ct_is_fine), sl_is_fine⟩)
    (c_is_fine : PySem.W.codeIn K cd_is_fine "is_fine" = true)
    (k_is_fine : PySem.W.keepIn K (.ref f_is_fine) = true)
    (a_need_stones : PySem.W.nsIn K mainGlobals "need_stones" = some (some (.ref f_need_stones)))
    (l_need_stones : K.lookup f_need_stones = some ⟨oc_need_stones, od_need_stones, .func (PySem.W.fnOf "need_stones" "need_stones" (defArgs s_need_stones) (defBody s_need_stones) (defScope s_need_stones) .none kV_need_stones dc_need_stones pm_need_stones an_need_stones cd_need_stones ct_need_stones), sl_need_stones⟩)
    (c_need_stones : PySem.W.codeIn K cd_need_stones "need_stones" = true)
    (k_need_stones : PySem.W.keepIn K (.ref f_need_stones) = true)
    (a_free_points : PySem.W.nsIn K mainGlobals "free_points" = some (some (.ref f_free_points)))
    (l_free_points : K.lookup f_free_points = some ⟨oc_free_points, od_free_points, .func (PySem.W.fnOf "free_points" "free_points" (defArgs s_free_points) (defBody s_free_points) (defScope s_free_points) .none kV_free_points dc_free_points pm_free_points an_free_points cd_free_points ct_free_points), sl_free_points⟩)
    (c_free_points : PySem.W.codeIn K cd_free_points "free_points" = true)
    (k_free_points : PySem.W.keepIn K (.ref f_free_points) = true)
    (a_worth_of : PySem.W.nsIn K mainGlobals "worth_of" = some (some (.ref f_worth_of)))
    (l_worth_of : K.lookup f_worth_of = some ⟨oc_worth_of, od_worth_of, .func (PySem.W.fnOf "worth_of" "worth_of" (defArgs s_worth_of) (defBody s_worth_of) (defScope s_worth_of) .none kV_worth_of dc_worth_of pm_worth_of an_worth_of cd_worth_of ct_worth_of), sl_worth_of⟩)
    (c_worth_of : PySem.W.codeIn K cd_worth_of "worth_of" = true)
    (k_worth_of : PySem.W.keepIn K (.ref f_worth_of) = true)
    (a_worth : PySem.W.nsIn K mainGlobals "worth" = some (some (.ref f_worth)))
    (l_worth : K.lookup f_worth = some ⟨oc_worth, od_worth, .func (PySem.W.fnOf "worth" "worth" (defArgs s_worth) (defBody s_worth) (defScope s_worth) .none kV_worth dc_worth pm_worth an_worth cd_worth ct_worth), sl_worth⟩)
    (c_worth : PySem.W.codeIn K cd_worth "worth" = true)
    (k_worth : PySem.W.keepIn K (.ref f_worth) = true)
    (a_winning_points : PySem.W.nsIn K mainGlobals "winning_points" = some (some (.ref f_winning_points)))
    (l_winning_points : K.lookup f_winning_points = some ⟨oc_winning_points, od_winning_points, .func (PySem.W.fnOf "winning_points" "winning_points" (defArgs s_winning_points) (defBody s_winning_points) (defScope s_winning_points) .none kV_winning_points dc_winning_points pm_winning_points an_winning_points cd_winning_points ct_winning_points), sl_winning_points⟩)
    (c_winning_points : PySem.W.codeIn K cd_winning_points "winning_points" = true)
    (k_winning_points : PySem.W.keepIn K (.ref f_winning_points) = true)
    (a_most_stones : PySem.W.nsIn K mainGlobals "most_stones" = some (some (.ref f_most_stones)))
    (l_most_stones : K.lookup f_most_stones = some ⟨oc_most_stones, od_most_stones, .func (PySem.W.fnOf "most_stones" "most_stones" (defArgs s_most_stones) (defBody s_most_stones) (defScope s_most_stones) .none kV_most_stones dc_most_stones pm_most_stones an_most_stones cd_most_stones ct_most_stones), sl_most_stones⟩)
    (c_most_stones : PySem.W.codeIn K cd_most_stones "most_stones" = true)
    (k_most_stones : PySem.W.keepIn K (.ref f_most_stones) = true)
    (a_count_stones : PySem.W.nsIn K mainGlobals "count_stones" = some (some (.ref f_count_stones)))
    (l_count_stones : K.lookup f_count_stones = some ⟨oc_count_stones, od_count_stones, .func (PySem.W.fnOf "count_stones" "count_stones" (defArgs s_count_stones) (defBody s_count_stones) (defScope s_count_stones) .none kV_count_stones dc_count_stones pm_count_stones an_count_stones cd_count_stones ct_count_stones), sl_count_stones⟩)
    (c_count_stones : PySem.W.codeIn K cd_count_stones "count_stones" = true)
    (k_count_stones : PySem.W.keepIn K (.ref f_count_stones) = true)
    (a_fewest_full : PySem.W.nsIn K mainGlobals "fewest_full" = some (some (.ref f_fewest_full)))
    (l_fewest_full : K.lookup f_fewest_full = some ⟨oc_fewest_full, od_fewest_full, .func (PySem.W.fnOf "fewest_full" "fewest_full" (defArgs s_fewest_full) (defBody s_fewest_full) (defScope s_fewest_full) .none kV_fewest_full dc_fewest_full pm_fewest_full an_fewest_full cd_fewest_full ct_fewest_full), sl_fewest_full⟩)
    (c_fewest_full : PySem.W.codeIn K cd_fewest_full "fewest_full" = true)
    (k_fewest_full : PySem.W.keepIn K (.ref f_fewest_full) = true)
    (a_l_taken : PySem.W.nsIn K mainGlobals "_law_taken" = some (some (.ref f_l_taken)))
    (l_l_taken : K.lookup f_l_taken = some ⟨oc_l_taken, od_l_taken, .func (PySem.W.fnOf "_law_taken" "_law_taken" (defArgs s_l_taken) (defBody s_l_taken) (defScope s_l_taken) .none kV_l_taken dc_l_taken pm_l_taken an_l_taken cd_l_taken ct_l_taken), sl_l_taken⟩)
    (c_l_taken : PySem.W.codeIn K cd_l_taken "_law_taken" = true)
    (k_l_taken : PySem.W.keepIn K (.ref f_l_taken) = true)
    (a_l_net : PySem.W.nsIn K mainGlobals "_law_net" = some (some (.ref f_l_net)))
    (l_l_net : K.lookup f_l_net = some ⟨oc_l_net, od_l_net, .func (PySem.W.fnOf "_law_net" "_law_net" (defArgs s_l_net) (defBody s_l_net) (defScope s_l_net) .none kV_l_net dc_l_net pm_l_net an_l_net cd_l_net ct_l_net), sl_l_net⟩)
    (c_l_net : PySem.W.codeIn K cd_l_net "_law_net" = true)
    (k_l_net : PySem.W.keepIn K (.ref f_l_net) = true)
    (a_l_lot : PySem.W.nsIn K mainGlobals "_law_lot" = some (some (.ref f_l_lot)))
    (l_l_lot : K.lookup f_l_lot = some ⟨oc_l_lot, od_l_lot, .func (PySem.W.fnOf "_law_lot" "_law_lot" (defArgs s_l_lot) (defBody s_l_lot) (defScope s_l_lot) .none kV_l_lot dc_l_lot pm_l_lot an_l_lot cd_l_lot ct_l_lot), sl_l_lot⟩)
    (c_l_lot : PySem.W.codeIn K cd_l_lot "_law_lot" = true)
    (k_l_lot : PySem.W.keepIn K (.ref f_l_lot) = true)
    (a_l_sets : PySem.W.nsIn K mainGlobals "_law_sets" = some (some (.ref f_l_sets)))
    (l_l_sets : K.lookup f_l_sets = some ⟨oc_l_sets, od_l_sets, .func (PySem.W.fnOf "_law_sets" "_law_sets" (defArgs s_l_sets) (defBody s_l_sets) (defScope s_l_sets) .none kV_l_sets dc_l_sets pm_l_sets an_l_sets cd_l_sets ct_l_sets), sl_l_sets⟩)
    (c_l_sets : PySem.W.codeIn K cd_l_sets "_law_sets" = true)
    (k_l_sets : PySem.W.keepIn K (.ref f_l_sets) = true)
    (a_l_part : PySem.W.nsIn K mainGlobals "_law_part" = some (some (.ref f_l_part)))
    (l_l_part : K.lookup f_l_part = some ⟨oc_l_part, od_l_part, .func (PySem.W.fnOf "_law_part" "_law_part" (defArgs s_l_part) (defBody s_l_part) (defScope s_l_part) .none kV_l_part dc_l_part pm_l_part an_l_part cd_l_part ct_l_part), sl_l_part⟩)
    (c_l_part : PySem.W.codeIn K cd_l_part "_law_part" = true)
    (k_l_part : PySem.W.keepIn K (.ref f_l_part) = true)
    (a_l_parts : PySem.W.nsIn K mainGlobals "_law_parts" = some (some (.ref f_l_parts)))
    (l_l_parts : K.lookup f_l_parts = some ⟨oc_l_parts, od_l_parts, .func (PySem.W.fnOf "_law_parts" "_law_parts" (defArgs s_l_parts) (defBody s_l_parts) (defScope s_l_parts) .none kV_l_parts dc_l_parts pm_l_parts an_l_parts cd_l_parts ct_l_parts), sl_l_parts⟩)
    (c_l_parts : PySem.W.codeIn K cd_l_parts "_law_parts" = true)
    (k_l_parts : PySem.W.keepIn K (.ref f_l_parts) = true)
    (a_l_near : PySem.W.nsIn K mainGlobals "_law_near" = some (some (.ref f_l_near)))
    (l_l_near : K.lookup f_l_near = some ⟨oc_l_near, od_l_near, .func (PySem.W.fnOf "_law_near" "_law_near" (defArgs s_l_near) (defBody s_l_near) (defScope s_l_near) .none kV_l_near dc_l_near pm_l_near an_l_near cd_l_near ct_l_near), sl_l_near⟩)
    (c_l_near : PySem.W.codeIn K cd_l_near "_law_near" = true)
    (k_l_near : PySem.W.keepIn K (.ref f_l_near) = true)
    (a_l_fine : PySem.W.nsIn K mainGlobals "_law_fine" = some (some (.ref f_l_fine)))
    (l_l_fine : K.lookup f_l_fine = some ⟨oc_l_fine, od_l_fine, .func (PySem.W.fnOf "_law_fine" "_law_fine" (defArgs s_l_fine) (defBody s_l_fine) (defScope s_l_fine) .none kV_l_fine dc_l_fine pm_l_fine an_l_fine cd_l_fine ct_l_fine), sl_l_fine⟩)
    (c_l_fine : PySem.W.codeIn K cd_l_fine "_law_fine" = true)
    (k_l_fine : PySem.W.keepIn K (.ref f_l_fine) = true)
    (a_l_put : PySem.W.nsIn K mainGlobals "_law_put" = some (some (.ref f_l_put)))
    (l_l_put : K.lookup f_l_put = some ⟨oc_l_put, od_l_put, .func (PySem.W.fnOf "_law_put" "_law_put" (defArgs s_l_put) (defBody s_l_put) (defScope s_l_put) .none kV_l_put dc_l_put pm_l_put an_l_put cd_l_put ct_l_put), sl_l_put⟩)
    (c_l_put : PySem.W.codeIn K cd_l_put "_law_put" = true)
    (k_l_put : PySem.W.keepIn K (.ref f_l_put) = true)
    (a_l_alike : PySem.W.nsIn K mainGlobals "_law_alike" = some (some (.ref f_l_alike)))
    (l_l_alike : K.lookup f_l_alike = some ⟨oc_l_alike, od_l_alike, .func (PySem.W.fnOf "_law_alike" "_law_alike" (defArgs s_l_alike) (defBody s_l_alike) (defScope s_l_alike) .none kV_l_alike dc_l_alike pm_l_alike an_l_alike cd_l_alike ct_l_alike), sl_l_alike⟩)
    (c_l_alike : PySem.W.codeIn K cd_l_alike "_law_alike" = true)
    (k_l_alike : PySem.W.keepIn K (.ref f_l_alike) = true)
    (a_law : PySem.W.nsIn K mainGlobals "law" = some (some (.ref f_law)))
    (l_law : K.lookup f_law = some ⟨oc_law, od_law, .func (PySem.W.fnOf "law" "law" (defArgs s_law) (defBody s_law) (defScope s_law) .none kV_law dc_law pm_law an_law cd_law ct_law), sl_law⟩)
    (c_law : PySem.W.codeIn K cd_law "law" = true)
    (k_law : PySem.W.keepIn K (.ref f_law) = true)
    (aC : PySem.W.nsIn K mainGlobals "NoRow" = some (some (.ref C)))
    (xC : PySem.W.excIn K C [.type "ValueError", .type "Exception", .type "BaseException", .type "object"] "ValueError.__new__" = true)
    (kC : PySem.W.keepIn K (.ref C) = true)
    (bC : PySem.W.subIn K (.ref C) (.type "BaseException") = some true)
    (tC : PySem.W.typeIn K (.ref C) = some (.type "type"))
    (iC : PySem.W.isClsIn K C = true)
    (sC : PySem.W.subIn K (.ref C) (.ref C) = some true)
    (z_isinstance : PySem.W.nsIn K mainGlobals "isinstance" = some none)
    (z_int : PySem.W.nsIn K mainGlobals "int" = some none)
    (z_bool : PySem.W.nsIn K mainGlobals "bool" = some none)
    (z_tuple : PySem.W.nsIn K mainGlobals "tuple" = some none)
    (z_len : PySem.W.nsIn K mainGlobals "len" = some none)
    (z_enumerate : PySem.W.nsIn K mainGlobals "enumerate" = some none)
    (z_all : PySem.W.nsIn K mainGlobals "all" = some none)
    (z_range : PySem.W.nsIn K mainGlobals "range" = some none)
    (z_sorted : PySem.W.nsIn K mainGlobals "sorted" = some none)
    (z_any : PySem.W.nsIn K mainGlobals "any" = some none)
    (z_min : PySem.W.nsIn K mainGlobals "min" = some none)
    (z_max : PySem.W.nsIn K mainGlobals "max" = some none)
    (z_list : PySem.W.nsIn K mainGlobals "list" = some none)
    (z_str : PySem.W.nsIn K mainGlobals "str" = some none)
    (c_checks : PySem.W.nsIn K mainGlobals "MOST_POINTS_checks" = some (some (.int 12 t_checks)))
    (c_stones : PySem.W.nsIn K mainGlobals "MOST_POINTS_stones" = some (some (.int 10 t_stones)))
    : ∃ fd : FuncData, (∀ (s : Shared) (v : Value), BindsTo s fd ⟨[v], []⟩ [("_law_script", v)]) ∧ ∀ base : Heap, K.In base → base.Ns mainGlobals mg → FnOk l.prog w K mg base CX0 15 fa fd ["_law_script"] (spLaw K) := by
  have e := hfa.symm.trans (PySem.W.mg_of X G a_law)
  cases e
  let T : Txt K mg := {
    d_whole := mkD X G a_whole l_whole c_whole k_whole fun _ _ _ _ _ _ us hl => match us, hl with | [_], _ => rfl
    d_within := mkD X G a_within l_within c_within k_within fun _ _ _ _ _ _ us hl => match us, hl with | [_, _, _], _ => rfl
    d_need_number := mkD X G a_need_number l_need_number c_need_number k_need_number fun _ _ _ _ _ _ us hl => match us, hl with | [_, _, _], _ => rfl
    d_tuple_of := mkD X G a_tuple_of l_tuple_of c_tuple_of k_tuple_of fun _ _ _ _ _ _ us hl => match us, hl with | [_, _, _], _ => rfl
    d_need_net := mkD X G a_need_net l_need_net c_need_net k_need_net fun _ _ _ _ _ _ us hl => match us, hl with | [_], _ => rfl
    d_is_points := mkD X G a_is_points l_is_points c_is_points k_is_points fun _ _ _ _ _ _ us hl => match us, hl with | [_, _], _ => rfl
    d_need_points := mkD X G a_need_points l_need_points c_need_points k_need_points fun _ _ _ _ _ _ us hl => match us, hl with | [_, _], _ => rfl
    d_near_of := mkD X G a_near_of l_near_of c_near_of k_near_of fun _ _ _ _ _ _ us hl => match us, hl with | [_], _ => rfl
    d_reach := mkD X G a_reach l_reach c_reach k_reach fun _ _ _ _ _ _ us hl => match us, hl with | [_, _, _], _ => rfl
    d_may_put := mkD X G a_may_put l_may_put c_may_put k_may_put fun _ _ _ _ _ _ us hl => match us, hl with | [_, _, _, _], _ => rfl
    d_is_fine := mkD X G a_is_fine l_is_fine c_is_fine k_is_fine fun _ _ _ _ _ _ us hl => match us, hl with | [_, _, _], _ => rfl
    d_need_stones := mkD X G a_need_stones l_need_stones c_need_stones k_need_stones fun _ _ _ _ _ _ us hl => match us, hl with | [_, _, _], _ => rfl
    d_free_points := mkD X G a_free_points l_free_points c_free_points k_free_points fun _ _ _ _ _ _ us hl => match us, hl with | [_, _, _], _ => rfl
    d_worth_of := mkD X G a_worth_of l_worth_of c_worth_of k_worth_of fun _ _ _ _ _ _ us hl => match us, hl with | [_, _, _, _], _ => rfl
    d_worth := mkD X G a_worth l_worth c_worth k_worth fun _ _ _ _ _ _ us hl => match us, hl with | [_, _, _], _ => rfl
    d_winning_points := mkD X G a_winning_points l_winning_points c_winning_points k_winning_points fun _ _ _ _ _ _ us hl => match us, hl with | [_, _, _], _ => rfl
    d_most_stones := mkD X G a_most_stones l_most_stones c_most_stones k_most_stones fun _ _ _ _ _ _ us hl => match us, hl with | [_, _], _ => rfl
    d_count_stones := mkD X G a_count_stones l_count_stones c_count_stones k_count_stones fun _ _ _ _ _ _ us hl => match us, hl with | [_, _], _ => rfl
    d_fewest_full := mkD X G a_fewest_full l_fewest_full c_fewest_full k_fewest_full fun _ _ _ _ _ _ us hl => match us, hl with | [_, _], _ => rfl
    d_l_taken := mkD X G a_l_taken l_l_taken c_l_taken k_l_taken fun _ _ _ _ _ _ us hl => match us, hl with | [_, _], _ => rfl
    d_l_net := mkD X G a_l_net l_l_net c_l_net k_l_net fun _ _ _ _ _ _ us hl => match us, hl with | [_, _], _ => rfl
    d_l_lot := mkD X G a_l_lot l_l_lot c_l_lot k_l_lot fun _ _ _ _ _ _ us hl => match us, hl with | [_, _], _ => rfl
    d_l_sets := mkD X G a_l_sets l_l_sets c_l_sets k_l_sets fun _ _ _ _ _ _ us hl => match us, hl with | [_], _ => rfl
    d_l_part := mkD X G a_l_part l_l_part c_l_part k_l_part fun _ _ _ _ _ _ us hl => match us, hl with | [_, _, _], _ => rfl
    d_l_parts := mkD X G a_l_parts l_l_parts c_l_parts k_l_parts fun _ _ _ _ _ _ us hl => match us, hl with | [_, _], _ => rfl
    d_l_near := mkD X G a_l_near l_l_near c_l_near k_l_near fun _ _ _ _ _ _ us hl => match us, hl with | [_], _ => rfl
    d_l_fine := mkD X G a_l_fine l_l_fine c_l_fine k_l_fine fun _ _ _ _ _ _ us hl => match us, hl with | [_, _, _], _ => rfl
    d_l_put := mkD X G a_l_put l_l_put c_l_put k_l_put fun _ _ _ _ _ _ us hl => match us, hl with | [_, _], _ => rfl
    d_l_alike := mkD X G a_l_alike l_l_alike c_l_alike k_l_alike fun _ _ _ _ _ _ us hl => match us, hl with | [_, _], _ => rfl
    d_law := mkD X G a_law l_law c_law k_law fun _ _ _ _ _ _ us hl => match us, hl with | [_], _ => rfl
    nr := ⟨C, PySem.W.mg_of X G aC, xC, kC, bC, tC, exm_self bC iC tC sC⟩
    z_isinstance := PySem.W.mg_none_of X G z_isinstance
    z_int := PySem.W.mg_none_of X G z_int
    z_bool := PySem.W.mg_none_of X G z_bool
    z_tuple := PySem.W.mg_none_of X G z_tuple
    z_len := PySem.W.mg_none_of X G z_len
    z_enumerate := PySem.W.mg_none_of X G z_enumerate
    z_all := PySem.W.mg_none_of X G z_all
    z_range := PySem.W.mg_none_of X G z_range
    z_sorted := PySem.W.mg_none_of X G z_sorted
    z_any := PySem.W.mg_none_of X G z_any
    z_min := PySem.W.mg_none_of X G z_min
    z_max := PySem.W.mg_none_of X G z_max
    z_list := PySem.W.mg_none_of X G z_list
    z_str := PySem.W.mg_none_of X G z_str
    c_checks := ⟨_, PySem.W.mg_of X G c_checks⟩
    c_stones := ⟨_, PySem.W.mg_of X G c_stones⟩
  }
  exact ⟨PySem.W.fnOf "law" "law" (defArgs s_law) (defBody s_law) (defScope s_law) .none kV_law dc_law pm_law an_law cd_law ct_law, fun s v => .of_eq rfl, fun base _ _ => ok_law T⟩
end ST

/-! LEnd -/
open PySem PySem.W PyProof.Rows in
set_option maxRecDepth 100000 in
set_option maxHeartbeats 0 in
theorem PySem.Challenge.cw_shavenets_k48_whole_stones_holds : PySem.Challenge.rw_shavenets_k48_whole_stones.Holds := by
  w_on; o_law; k_head; (case hw => w_witness2)
  k_fill
  refine L2.walk_of (l := PySem.Challenge.rw_shavenets_k48_whole_stones) (n := 63) (k := 15) (x := "_law_script") (CX := fun _ => L2.CX0) (sp := fun w => ST.spLaw _) rfl (by decide) rfl ⟨rfl, by decide, by decide⟩ (fun w h Y => PySem.W.kIn_of Y) ?F (fun _ _ a ns hl _ hS => ⟨a, ns, rfl, hS, hl, fun _ => rfl⟩) (fun _ _ _ _ _ h => h)
  case F =>
    intro w mg fa h KX G hmg
    refine' ST.all_mk KX G hmg ?a_whole ?l_whole ?c_whole ?k_whole ?a_within ?l_within ?c_within ?k_within ?a_need_number ?l_need_number ?c_need_number ?k_need_number ?a_tuple_of ?l_tuple_of ?c_tuple_of ?k_tuple_of ?a_need_net ?l_need_net ?c_need_net ?k_need_net ?a_is_points ?l_is_points ?c_is_points ?k_is_points ?a_need_points ?l_need_points ?c_need_points ?k_need_points ?a_near_of ?l_near_of ?c_near_of ?k_near_of ?a_reach ?l_reach ?c_reach ?k_reach ?a_may_put ?l_may_put ?c_may_put ?k_may_put ?a_is_fine ?l_is_fine ?c_is_fine ?k_is_fine ?a_need_stones ?l_need_stones ?c_need_stones ?k_need_stones ?a_free_points ?l_free_points ?c_free_points ?k_free_points ?a_worth_of ?l_worth_of ?c_worth_of ?k_worth_of ?a_worth ?l_worth ?c_worth ?k_worth ?a_winning_points ?l_winning_points ?c_winning_points ?k_winning_points ?a_most_stones ?l_most_stones ?c_most_stones ?k_most_stones ?a_count_stones ?l_count_stones ?c_count_stones ?k_count_stones ?a_fewest_full ?l_fewest_full ?c_fewest_full ?k_fewest_full ?a_l_taken ?l_l_taken ?c_l_taken ?k_l_taken ?a_l_net ?l_l_net ?c_l_net ?k_l_net ?a_l_lot ?l_l_lot ?c_l_lot ?k_l_lot ?a_l_sets ?l_l_sets ?c_l_sets ?k_l_sets ?a_l_part ?l_l_part ?c_l_part ?k_l_part ?a_l_parts ?l_l_parts ?c_l_parts ?k_l_parts ?a_l_near ?l_l_near ?c_l_near ?k_l_near ?a_l_fine ?l_l_fine ?c_l_fine ?k_l_fine ?a_l_put ?l_l_put ?c_l_put ?k_l_put ?a_l_alike ?l_l_alike ?c_l_alike ?k_l_alike ?a_law ?l_law ?c_law ?k_law ?aC ?xC ?kC ?bC ?tC ?iC ?sC ?z_isinstance ?z_int ?z_bool ?z_tuple ?z_len ?z_enumerate ?z_all ?z_range ?z_sorted ?z_any ?z_min ?z_max ?z_list ?z_str ?c_checks ?c_stones
    (case a_whole => k_is)
    (case l_whole => k_is)
    (case c_whole => k_is)
    (case k_whole => k_is)
    (case a_within => k_is)
    (case l_within => k_is)
    (case c_within => k_is)
    (case k_within => k_is)
    (case a_need_number => k_is)
    (case l_need_number => k_is)
    (case c_need_number => k_is)
    (case k_need_number => k_is)
    (case a_tuple_of => k_is)
    (case l_tuple_of => k_is)
    (case c_tuple_of => k_is)
    (case k_tuple_of => k_is)
    (case a_need_net => k_is)
    (case l_need_net => k_is)
    (case c_need_net => k_is)
    (case k_need_net => k_is)
    (case a_is_points => k_is)
    (case l_is_points => k_is)
    (case c_is_points => k_is)
    (case k_is_points => k_is)
    (case a_need_points => k_is)
    (case l_need_points => k_is)
    (case c_need_points => k_is)
    (case k_need_points => k_is)
    (case a_near_of => k_is)
    (case l_near_of => k_is)
    (case c_near_of => k_is)
    (case k_near_of => k_is)
    (case a_reach => k_is)
    (case l_reach => k_is)
    (case c_reach => k_is)
    (case k_reach => k_is)
    (case a_may_put => k_is)
    (case l_may_put => k_is)
    (case c_may_put => k_is)
    (case k_may_put => k_is)
    (case a_is_fine => k_is)
    (case l_is_fine => k_is)
    (case c_is_fine => k_is)
    (case k_is_fine => k_is)
    (case a_need_stones => k_is)
    (case l_need_stones => k_is)
    (case c_need_stones => k_is)
    (case k_need_stones => k_is)
    (case a_free_points => k_is)
    (case l_free_points => k_is)
    (case c_free_points => k_is)
    (case k_free_points => k_is)
    (case a_worth_of => k_is)
    (case l_worth_of => k_is)
    (case c_worth_of => k_is)
    (case k_worth_of => k_is)
    (case a_worth => k_is)
    (case l_worth => k_is)
    (case c_worth => k_is)
    (case k_worth => k_is)
    (case a_winning_points => k_is)
    (case l_winning_points => k_is)
    (case c_winning_points => k_is)
    (case k_winning_points => k_is)
    (case a_most_stones => k_is)
    (case l_most_stones => k_is)
    (case c_most_stones => k_is)
    (case k_most_stones => k_is)
    (case a_count_stones => k_is)
    (case l_count_stones => k_is)
    (case c_count_stones => k_is)
    (case k_count_stones => k_is)
    (case a_fewest_full => k_is)
    (case l_fewest_full => k_is)
    (case c_fewest_full => k_is)
    (case k_fewest_full => k_is)
    (case a_l_taken => k_is)
    (case l_l_taken => k_is)
    (case c_l_taken => k_is)
    (case k_l_taken => k_is)
    (case a_l_net => k_is)
    (case l_l_net => k_is)
    (case c_l_net => k_is)
    (case k_l_net => k_is)
    (case a_l_lot => k_is)
    (case l_l_lot => k_is)
    (case c_l_lot => k_is)
    (case k_l_lot => k_is)
    (case a_l_sets => k_is)
    (case l_l_sets => k_is)
    (case c_l_sets => k_is)
    (case k_l_sets => k_is)
    (case a_l_part => k_is)
    (case l_l_part => k_is)
    (case c_l_part => k_is)
    (case k_l_part => k_is)
    (case a_l_parts => k_is)
    (case l_l_parts => k_is)
    (case c_l_parts => k_is)
    (case k_l_parts => k_is)
    (case a_l_near => k_is)
    (case l_l_near => k_is)
    (case c_l_near => k_is)
    (case k_l_near => k_is)
    (case a_l_fine => k_is)
    (case l_l_fine => k_is)
    (case c_l_fine => k_is)
    (case k_l_fine => k_is)
    (case a_l_put => k_is)
    (case l_l_put => k_is)
    (case c_l_put => k_is)
    (case k_l_put => k_is)
    (case a_l_alike => k_is)
    (case l_l_alike => k_is)
    (case c_l_alike => k_is)
    (case k_l_alike => k_is)
    (case a_law => k_is)
    (case l_law => k_is)
    (case c_law => k_is)
    (case k_law => k_is)
    (case aC => k_is)
    (case xC => k_exc)
    (case kC => k_is)
    (case bC => k_is)
    (case tC => k_is)
    (case iC => k_is)
    (case sC => first | rfl | k_is)
    (case z_isinstance => k_is)
    (case z_int => k_is)
    (case z_bool => k_is)
    (case z_tuple => k_is)
    (case z_len => k_is)
    (case z_enumerate => k_is)
    (case z_all => k_is)
    (case z_range => k_is)
    (case z_sorted => k_is)
    (case z_any => k_is)
    (case z_min => k_is)
    (case z_max => k_is)
    (case z_list => k_is)
    (case z_str => k_is)
    (case c_checks => k_is)
    (case c_stones => k_is)
