import PyProof.Rows.All
import Wide.All
import OpenK.AllK
import Wide.FinOn
import PyProof.EqAt
import PyProof.EqKinds
import PyProof.TupleCall
import HandS.ForMost
import HandS.Deep
import HandS.Strs
import HandS.SetFor
import HandS.TupSets
import KE.GoesMore
import KE.GoesEnum
import PyProof.Rows.InDataRows
import KE.LtData
import KE.SortData
import HandS.TupAny
import HandS.TupLe
import HandS.Wide
import HandS.IsInst
import HandS.Defaults
import HandS.Style
import HandS.Words
import PySem.Challenge.RW_handons_k63_whole_desks
import KE.KExcSuper
import HandS.Base
import HandS.Call
import HandS.Ends
import HandS.Exc
import HandS.ExcOwn
import HandS.ExcInit
import HandS.Small
import HandS.WordsExc
import KE.KExcIs
import HandS.ExcIs
import HandS.ExcField
import HandS.Lambda
import HandS.Property
import KE.KLam
import HandS.Replace
import HandS.ReplaceLit
import KE.KStateDown
import Lean
import HandS.Head0
import HandS.Head1
import HandS.Head2
import HandS.HeadHook4
import HandS.HeadWalk
set_option linter.all false
/-! Handons: plain mathematics. Sets of lamps are predicates on the integers 0 .. n - 1. -/
namespace Hd
/-! ### the range, selections, counts -/
def rng (n : Nat) : List Int := (List.range n).map fun i : Nat => (i : Int)
theorem mem_rng {n : Nat} {k : Int} : k ∈ rng n ↔ 0 ≤ k ∧ k < n := by
  unfold rng
  rw [List.mem_map]
  constructor
  · rintro ⟨i, hi, rfl⟩
    have := List.mem_range.mp hi
    omega
  · rintro ⟨h0, h1⟩
    exact ⟨k.toNat, List.mem_range.mpr (by omega), by omega⟩
theorem rng_succ (n : Nat) : rng (n + 1) = rng n ++ [(n : Int)] := by
  unfold rng
  rw [List.range_succ, List.map_append]
  rfl
theorem rng_len (n : Nat) : (rng n).length = n := by simp [rng]
theorem rng_asc : ∀ n, (rng n).Pairwise (· < ·)
  | 0 => List.Pairwise.nil
  | n + 1 => by
    rw [rng_succ]
    refine List.pairwise_append.mpr ⟨rng_asc n, by simp, fun a ha b hb => ?_⟩
    have h1 := (mem_rng.mp ha).2
    have h2 : b = n := by simpa using hb
    omega
def sel (n : Nat) (p : Int → Bool) : List Int := (rng n).filter p
theorem mem_sel {n : Nat} {p : Int → Bool} {k : Int} : k ∈ sel n p ↔ (0 ≤ k ∧ k < n) ∧ p k = true := by
  unfold sel
  rw [List.mem_filter, mem_rng]
theorem sel_asc (n : Nat) (p : Int → Bool) : (sel n p).Pairwise (· < ·) := (rng_asc n).filter p
theorem sel_congr {n : Nat} {p q : Int → Bool} (h : ∀ k : Int, 0 ≤ k → k < n → p k = q k) : sel n p = sel n q := by
  unfold sel
  exact List.filter_congr fun k hk => h k (mem_rng.mp hk).1 (mem_rng.mp hk).2
/-- two strictly rising lists with the same members are one -/
theorem asc_ext : ∀ {l m : List Int}, l.Pairwise (· < ·) → m.Pairwise (· < ·) → (∀ k, k ∈ l ↔ k ∈ m) → l = m
  | [], [], _, _, _ => rfl
  | [], b :: m, _, _, h => by
    have := (h b).mpr (by simp)
    simp at this
  | a :: l, [], _, _, h => by
    have := (h a).mp (by simp)
    simp at this
  | a :: l, b :: m, hl, hm, h => by
    rw [List.pairwise_cons] at hl hm
    have e : a = b := by
      have h1 := (h a).mp (by simp)
      have h2 := (h b).mpr (by simp)
      rcases List.mem_cons.mp h1 with e | h1
      · exact e
      · rcases List.mem_cons.mp h2 with e | h2
        · exact e.symm
        · have := hm.1 a h1
          have := hl.1 b h2
          omega
    subst e
    rw [asc_ext hl.2 hm.2 fun k => ?_]
    have hk := h k
    rw [List.mem_cons, List.mem_cons] at hk
    constructor
    · intro hkl
      rcases hk.mp (Or.inr hkl) with e | z
      · have := hl.1 k hkl
        omega
      · exact z
    · intro hkm
      rcases hk.mpr (Or.inr hkm) with e | z
      · have := hm.1 k hkm
        omega
      · exact z
/-- membership as a truth value -/
def has (l : List Int) (k : Int) : Bool := decide (k ∈ l)
theorem has_iff {l : List Int} {k : Int} : has l k = true ↔ k ∈ l := by simp [has]
theorem has_false {l : List Int} {k : Int} : has l k = false ↔ k ∉ l := by simp [has]
theorem has_sel {n : Nat} {p : Int → Bool} {k : Int} (h0 : 0 ≤ k) (h1 : k < n) : has (sel n p) k = p k := by
  cases h : p k with
  | true => exact has_iff.mpr (mem_sel.mpr ⟨⟨h0, h1⟩, h⟩)
  | false => exact has_false.mpr fun z => by rw [(mem_sel.mp z).2] at h; cases h
/-- a standing: rising lamps of 0 .. n - 1 -/
structure St (n : Nat) (b : List Int) : Prop where
  inr : ∀ k ∈ b, 0 ≤ k ∧ k < n
  asc : b.Pairwise (· < ·)
theorem St.eq {n : Nat} {b : List Int} (h : St n b) : b = sel n (has b) :=
  asc_ext h.asc (sel_asc _ _) fun k => by
    rw [mem_sel, has_iff]
    exact ⟨fun z => ⟨h.inr k z, z⟩, fun z => z.2⟩
theorem St.sel (n : Nat) (p : Int → Bool) : St n (sel n p) := ⟨fun k hk => (mem_sel.mp hk).1, sel_asc n p⟩
theorem St.nodup {n : Nat} {b : List Int} (h : St n b) : b.Nodup := h.asc.imp fun h => by omega
theorem St.len {n : Nat} {b : List Int} (h : St n b) : b.length ≤ n := by
  rw [h.eq]
  unfold Hd.sel
  exact Nat.le_trans (List.length_filter_le _ _) (by rw [rng_len]; exact Nat.le_refl _)
theorem St.nil (n : Nat) : St n [] := ⟨fun k hk => by simp at hk, List.Pairwise.nil⟩
theorem St.filter {n : Nat} {b : List Int} (h : St n b) (p : Int → Bool) : St n (b.filter p) := ⟨fun k hk => h.inr k (List.mem_filter.mp hk).1, h.asc.filter p⟩
theorem St.of {n : Nat} {b : List Int} {p : Int → Bool} (h : b.Pairwise (· < ·)) (m : ∀ k, k ∈ b ↔ (0 ≤ k ∧ k < n) ∧ p k = true) : b = Hd.sel n p :=
  asc_ext h (sel_asc _ _) fun k => by rw [mem_sel]; exact m k
theorem St.filter_eq {n : Nat} {b : List Int} (h : St n b) (p : Int → Bool) : b.filter p = Hd.sel n fun k => has b k && p k :=
  St.of (h.filter p).asc fun k => by
    rw [List.mem_filter, Bool.and_eq_true, has_iff]
    exact ⟨fun z => ⟨h.inr k z.1, z⟩, fun z => z.2⟩

def cnt (n : Nat) (p : Int → Bool) : Nat := (sel n p).length
theorem cnt_succ (n : Nat) (p : Int → Bool) : cnt (n + 1) p = cnt n p + if p n = true then 1 else 0 := by
  unfold cnt sel
  rw [rng_succ, List.filter_append, List.length_append, List.filter_cons, List.filter_nil]
  by_cases h : p n = true
  · rw [if_pos h, if_pos h]; rfl
  · rw [if_neg h, if_neg h]; rfl
theorem cnt_le (n : Nat) (p : Int → Bool) : cnt n p ≤ n := (St.sel n p).len
theorem cnt_congr {n : Nat} {p q : Int → Bool} (h : ∀ k : Int, 0 ≤ k → k < n → p k = q k) : cnt n p = cnt n q := by
  unfold cnt
  rw [sel_congr h]
theorem cnt_mono {p q : Int → Bool} : ∀ {n : Nat}, (∀ k : Int, 0 ≤ k → k < n → p k = true → q k = true) → cnt n p ≤ cnt n q
  | 0, _ => Nat.le_refl _
  | n + 1, h => by
    have ih := cnt_mono (n := n) (p := p) (q := q) fun k h0 h1 => h k h0 (by omega)
    rw [cnt_succ, cnt_succ]
    by_cases hp : p n = true
    · rw [if_pos hp, if_pos (h n (by omega) (by omega) hp)]
      omega
    · rw [if_neg hp]
      omega
/-- two sets that part at one lamp -/
theorem cnt_one {p q : Int → Bool} {k : Int} (h0 : 0 ≤ k) (hp : p k = false) (hq : q k = true) : ∀ {n : Nat}, k < n → (∀ j : Int, 0 ≤ j → j < n → j ≠ k → p j = q j) → cnt n q = cnt n p + 1
  | 0, h1, _ => by omega
  | n + 1, h1, h => by
    rw [cnt_succ, cnt_succ]
    by_cases e : k = n
    · subst e
      rw [hp, hq]
      have c : cnt n q = cnt n p := cnt_congr fun j a b => (h j a (by omega) (by omega)).symm
      simp
      omega
    · have ih := cnt_one (n := n) (p := p) (q := q) h0 hp hq (by omega) fun j a b c => h j a (by omega) c
      have z := h n (by omega) (by omega) (fun w => e w.symm)
      rw [ih, z]
      omega
theorem cnt_or {p q : Int → Bool} : ∀ {n : Nat}, (∀ k : Int, 0 ≤ k → k < n → p k = true → q k = false) → cnt n (fun k => p k || q k) = cnt n p + cnt n q
  | 0, _ => rfl
  | n + 1, h => by
    have ih := cnt_or (n := n) (p := p) (q := q) fun k h0 h1 => h k h0 (by omega)
    rw [cnt_succ, cnt_succ, cnt_succ, ih]
    by_cases hp : p n = true
    · have hq := h n (by omega) (by omega) hp
      simp [hp, hq]
      omega
    · have hp' : p n = false := by simpa using hp
      simp [hp']
      omega
theorem cnt_all {n : Nat} {p : Int → Bool} (h : n ≤ cnt n p) : ∀ k : Int, 0 ≤ k → k < n → p k = true := by
  induction n with
  | zero => intro k h0 h1; omega
  | succ n ih =>
    rw [cnt_succ] at h
    have := cnt_le n p
    by_cases hp : p n = true
    · rw [if_pos hp] at h
      intro k h0 h1
      by_cases e : k = n
      · rw [e]; exact hp
      · exact ih (by omega) k h0 (by omega)
    · rw [if_neg hp] at h
      omega

/-! ### webs, spare lamps -/
/-- arrows rise -/
def Up (n : Nat) (ar : Int → Int → Bool) : Prop := ∀ j k, ar j k = true → 0 ≤ j ∧ j < k ∧ k < n
abbrev Pr := Int → Bool
def ex (n : Nat) (p : Pr) : Bool := (rng n).any p
theorem ex_iff {n : Nat} {p : Pr} : ex n p = true ↔ ∃ k : Int, (0 ≤ k ∧ k < n) ∧ p k = true := by
  unfold ex
  rw [List.any_eq_true]
  constructor
  · rintro ⟨k, hk, h⟩; exact ⟨k, mem_rng.mp hk, h⟩
  · rintro ⟨k, hk, h⟩; exact ⟨k, mem_rng.mpr hk, h⟩
section
variable (n : Nat) (ar : Int → Int → Bool) (one other : Pr)
def lit (f : Pr) : Pr := fun l => (other l && !one l) || f l
def out (f : Pr) : Pr := fun o => (one o && !other o) || f o
def dark : Pr := fun k => !one k && !other k
/-- the dark lamps that are needed where those of f are changed twice -/
def need (f : Pr) : Pr := fun k => dark one other k && (ex n (fun l => ar k l && lit one other f l) || ex n (fun o => ar o k && out one other f o))
def grow (f : Pr) : Pr := fun k => f k || need n ar one other f k
def turns : Nat → Pr
  | 0 => fun _ => false
  | i + 1 => grow n ar one other (turns i)
def sp : Pr := turns n ar one other n
def dist : Nat := cnt n (fun k => one k != other k) + 2 * cnt n (sp n ar one other)
end
section
variable {n : Nat} {ar : Int → Int → Bool} {one other : Pr}
theorem need_iff {f : Pr} {k : Int} (u : Up n ar) : need n ar one other f k = true ↔ (one k = false ∧ other k = false) ∧ ((∃ l, ar k l = true ∧ lit one other f l = true) ∨ ∃ o, ar o k = true ∧ out one other f o = true) := by
  unfold need dark
  rw [Bool.and_eq_true, Bool.and_eq_true, Bool.not_eq_true', Bool.not_eq_true', Bool.or_eq_true, ex_iff, ex_iff]
  constructor
  · rintro ⟨h, z⟩
    refine ⟨h, ?_⟩
    rcases z with ⟨l, _, z⟩ | ⟨l, _, z⟩
    · rw [Bool.and_eq_true] at z; exact .inl ⟨l, z⟩
    · rw [Bool.and_eq_true] at z; exact .inr ⟨l, z⟩
  · rintro ⟨h, z⟩
    refine ⟨h, ?_⟩
    rcases z with ⟨l, z⟩ | ⟨l, z⟩
    · have := u _ _ z.1
      exact .inl ⟨l, ⟨by omega, by omega⟩, by rw [Bool.and_eq_true]; exact z⟩
    · have := u _ _ z.1
      exact .inr ⟨l, ⟨by omega, by omega⟩, by rw [Bool.and_eq_true]; exact z⟩
theorem lit_iff {f : Pr} {l : Int} : lit one other f l = true ↔ (other l = true ∧ one l = false) ∨ f l = true := by
  unfold lit
  rw [Bool.or_eq_true, Bool.and_eq_true, Bool.not_eq_true']
theorem out_iff {f : Pr} {l : Int} : out one other f l = true ↔ (one l = true ∧ other l = false) ∨ f l = true := by
  unfold out
  rw [Bool.or_eq_true, Bool.and_eq_true, Bool.not_eq_true']
theorem need_mono {f g : Pr} {k : Int} (u : Up n ar) (h : ∀ k, f k = true → g k = true) (hk : need n ar one other f k = true) : need n ar one other g k = true := by
  rw [need_iff u] at hk ⊢
  refine ⟨hk.1, ?_⟩
  rcases hk.2 with ⟨l, a, b⟩ | ⟨l, a, b⟩
  · refine .inl ⟨l, a, ?_⟩
    rw [lit_iff] at b ⊢
    exact b.imp id (h l)
  · refine .inr ⟨l, a, ?_⟩
    rw [out_iff] at b ⊢
    exact b.imp id (h l)
theorem need_in {f : Pr} {k : Int} (u : Up n ar) (hk : need n ar one other f k = true) : 0 ≤ k ∧ k < n := by
  rw [need_iff u] at hk
  rcases hk.2 with ⟨l, a, b⟩ | ⟨l, a, b⟩
  · have := u _ _ a; omega
  · have := u _ _ a; omega
theorem grow_iff {f : Pr} {k : Int} : grow n ar one other f k = true ↔ f k = true ∨ need n ar one other f k = true := by
  unfold grow
  rw [Bool.or_eq_true]
/-- T holds all that it needs -/
def Closed (n : Nat) (ar : Int → Int → Bool) (one other T : Pr) : Prop := ∀ k, need n ar one other T k = true → T k = true
theorem turns_least {T : Pr} (u : Up n ar) (c : Closed n ar one other T) : ∀ i k, turns n ar one other i k = true → T k = true
  | 0, k, h => by simp [turns] at h
  | i + 1, k, h => by
    have h : grow n ar one other (turns n ar one other i) k = true := h
    rcases grow_iff.mp h with z | z
    · exact turns_least u c i k z
    · exact c k (need_mono u (turns_least u c i) z)
theorem turns_dark (u : Up n ar) : ∀ i k, turns n ar one other i k = true → (one k = false ∧ other k = false) ∧ 0 ≤ k ∧ k < n
  | 0, k, h => by simp [turns] at h
  | i + 1, k, h => by
    have h : grow n ar one other (turns n ar one other i) k = true := h
    rcases grow_iff.mp h with z | z
    · exact turns_dark u i k z
    · exact ⟨((need_iff u).mp z).1, need_in u z⟩
theorem turns_or (u : Up n ar) : ∀ i, Closed n ar one other (turns n ar one other i) ∨ i ≤ cnt n (turns n ar one other i)
  | 0 => .inr (Nat.zero_le _)
  | i + 1 => by
    by_cases c : Closed n ar one other (turns n ar one other i)
    · left
      have e : ∀ k, turns n ar one other (i + 1) k = turns n ar one other i k := fun k => by
        show grow n ar one other (turns n ar one other i) k = _
        cases h : turns n ar one other i k with
        | true => exact grow_iff.mpr (.inl h)
        | false =>
          refine Bool.eq_false_iff.mpr fun z => ?_
          rcases grow_iff.mp z with y | y
          · rw [h] at y; cases y
          · rw [c k y] at h; cases h
      have e' : turns n ar one other (i + 1) = turns n ar one other i := funext e
      rw [e']
      exact c
    · right
      rcases turns_or u i with c' | hi
      · exact absurd c' c
      · obtain ⟨k, hk⟩ := Classical.not_forall.mp c
        have hk1 : need n ar one other (turns n ar one other i) k = true := Classical.byContradiction fun z => hk fun y => absurd y z
        have hk2 : turns n ar one other i k = false := Bool.eq_false_iff.mpr fun z => hk fun _ => z
        have hin := need_in u hk1
        -- add k first
        have h1 : cnt n (fun j => if j = k then true else turns n ar one other i j) = cnt n (turns n ar one other i) + 1 := by
          refine cnt_one (k := k) hin.1 hk2 ?_ hin.2 fun j _ _ hj => ?_
          · rw [if_pos rfl]
          · rw [if_neg hj]
        have h2 : cnt n (fun j => if j = k then true else turns n ar one other i j) ≤ cnt n (turns n ar one other (i + 1)) := by
          refine cnt_mono fun j _ _ hj => ?_
          show grow n ar one other (turns n ar one other i) j = true
          by_cases e : j = k
          · rw [e]; exact grow_iff.mpr (.inr hk1)
          · rw [if_neg e] at hj; exact grow_iff.mpr (.inl hj)
        omega
theorem sp_closed (u : Up n ar) : Closed n ar one other (sp n ar one other) := by
  rcases turns_or (one := one) (other := other) u n with c | c
  · exact c
  · intro k hk
    have := need_in u hk
    exact cnt_all c k this.1 this.2
theorem sp_least {T : Pr} (u : Up n ar) (c : Closed n ar one other T) {k : Int} (h : sp n ar one other k = true) : T k = true := turns_least u c n k h
theorem sp_dark (u : Up n ar) {k : Int} (h : sp n ar one other k = true) : (one k = false ∧ other k = false) ∧ 0 ≤ k ∧ k < n := turns_dark u n k h
/-- a set that holds what it needs, and no more than has to be, is the spare one -/
theorem sp_unique {T : Pr} (u : Up n ar) (c : Closed n ar one other T) (l : ∀ k, T k = true → sp n ar one other k = true) : T = sp n ar one other := by
  funext k
  cases h : T k with
  | true => exact (l k h).symm
  | false =>
    refine (Bool.eq_false_iff.mpr fun z => ?_).symm
    rw [sp_least u c z] at h
    cases h
end
end Hd
set_option linter.all false
namespace Hd
/-! ### deeds: which ones are first -/
section
variable (n : Nat) (ar : Int → Int → Bool) (one other : Pr)
def litS : Pr := lit one other (sp n ar one other)
def outS : Pr := out one other (sp n ar one other)
/-- the lamps of the deeds that nothing stands ahead of -/
def nxt : Pr := fun k => (litS n ar one other k && !ex n fun j => ar j k && litS n ar one other j) ||
  (!litS n ar one other k && (outS n ar one other k && (!(ex n fun j => ar k j && litS n ar one other j) && !ex n fun j => ar j k && outS n ar one other j)))
def doab : Pr := fun k => (!one k && !ex n fun j => ar j k && !one j) || (one k && !ex n fun j => ar k j && !one j)
def chg (k : Int) : Pr := fun j => if j = k then !one k else one j
end
section
variable {n : Nat} {ar : Int → Int → Bool} {one other : Pr}
theorem ex_false {p : Pr} : ex n p = false ↔ ∀ k : Int, 0 ≤ k → k < n → p k = false := by
  constructor
  · intro h k h0 h1
    refine Bool.eq_false_iff.mpr fun z => ?_
    rw [ex_iff.mpr ⟨k, ⟨h0, h1⟩, z⟩] at h
    cases h
  · intro h
    refine Bool.eq_false_iff.mpr fun z => ?_
    obtain ⟨k, hk, y⟩ := ex_iff.mp z
    rw [h k hk.1 hk.2] at y
    cases y
theorem exA_false (u : Up n ar) {p : Pr} {k : Int} : (ex n fun j => ar j k && p j) = false ↔ ∀ j, ar j k = true → p j = false := by
  rw [ex_false]
  constructor
  · intro h j hj
    have := u _ _ hj
    have z := h j (by omega) (by omega)
    rw [hj, Bool.true_and] at z
    exact z
  · intro h j _ _
    cases hj : ar j k with
    | false => rfl
    | true => rw [h j hj]; rfl
theorem exB_false (u : Up n ar) {p : Pr} {k : Int} : (ex n fun j => ar k j && p j) = false ↔ ∀ j, ar k j = true → p j = false := by
  rw [ex_false]
  constructor
  · intro h j hj
    have := u _ _ hj
    have z := h j (by omega) (by omega)
    rw [hj, Bool.true_and] at z
    exact z
  · intro h j _ _
    cases hj : ar k j with
    | false => rfl
    | true => rw [h j hj]; rfl
theorem nxt_iff (u : Up n ar) {k : Int} : nxt n ar one other k = true ↔
    (litS n ar one other k = true ∧ ∀ j, ar j k = true → litS n ar one other j = false) ∨
    (litS n ar one other k = false ∧ outS n ar one other k = true ∧ (∀ j, ar k j = true → litS n ar one other j = false) ∧ ∀ j, ar j k = true → outS n ar one other j = false) := by
  unfold nxt
  rw [Bool.or_eq_true, Bool.and_eq_true, Bool.and_eq_true, Bool.and_eq_true, Bool.and_eq_true, Bool.not_eq_true', Bool.not_eq_true', Bool.not_eq_true', Bool.not_eq_true', exA_false u, exB_false u, exA_false u]
theorem doab_iff (u : Up n ar) {k : Int} : doab n ar one k = true ↔ (one k = false ∧ ∀ j, ar j k = true → one j = true) ∨ (one k = true ∧ ∀ j, ar k j = true → one j = true) := by
  unfold doab
  rw [Bool.or_eq_true, Bool.and_eq_true, Bool.and_eq_true, Bool.not_eq_true', Bool.not_eq_true', Bool.not_eq_true', exA_false u, exB_false u]
  simp only [Bool.not_eq_false']
theorem chg_same {k : Int} : chg one k k = !one k := if_pos rfl
theorem chg_ne {j k : Int} (h : j ≠ k) : chg one k j = one j := if_neg h
/-- a lamp that differs is changed: the difference is one less; otherwise one more -/
theorem diff_chg {k : Int} (h0 : 0 ≤ k) (h1 : k < n) (h : one k ≠ other k) : cnt n (fun j => one j != other j) = cnt n (fun j => chg one k j != other j) + 1 := by
  refine cnt_one h0 ?_ ?_ h1 fun j _ _ hj => ?_
  · rw [chg_same]
    cases a : one k <;> cases b : other k <;> simp_all
  · simpa using h
  · rw [chg_ne hj]
theorem diff_chg' {k : Int} (h0 : 0 ≤ k) (h1 : k < n) (h : one k = other k) : cnt n (fun j => chg one k j != other j) = cnt n (fun j => one j != other j) + 1 := by
  refine cnt_one h0 ?_ ?_ h1 fun j _ _ hj => ?_
  · simp [h]
  · rw [chg_same, h]
    cases other k <;> rfl
  · rw [chg_ne hj]
theorem litS_iff {l : Int} : litS n ar one other l = true ↔ (other l = true ∧ one l = false) ∨ sp n ar one other l = true := lit_iff
theorem outS_iff {l : Int} : outS n ar one other l = true ↔ (one l = true ∧ other l = false) ∨ sp n ar one other l = true := out_iff
theorem litS_false {l : Int} : litS n ar one other l = false ↔ ¬ ((other l = true ∧ one l = false) ∨ sp n ar one other l = true) := by
  rw [← litS_iff, Bool.not_eq_true]
theorem outS_false {l : Int} : outS n ar one other l = false ↔ ¬ ((one l = true ∧ other l = false) ∨ sp n ar one other l = true) := by
  rw [← outS_iff, Bool.not_eq_true]
/-- the spare set, once more: what is needed is in it -/
theorem sp_lit (u : Up n ar) {k l : Int} (h1 : one k = false) (h2 : other k = false) (ha : ar k l = true) (hl : litS n ar one other l = true) : sp n ar one other k = true :=
  sp_closed u k ((need_iff u).mpr ⟨⟨h1, h2⟩, .inl ⟨l, ha, hl⟩⟩)
theorem sp_out (u : Up n ar) {k o : Int} (h1 : one k = false) (h2 : other k = false) (ha : ar o k = true) (ho : outS n ar one other o = true) : sp n ar one other k = true :=
  sp_closed u k ((need_iff u).mpr ⟨⟨h1, h2⟩, .inr ⟨o, ha, ho⟩⟩)
/-- a lit first deed can be done -/
theorem lit_doab (u : Up n ar) {k : Int} (hl : litS n ar one other k = true) (hn : ∀ j, ar j k = true → litS n ar one other j = false) : one k = false ∧ ∀ j, ar j k = true → one j = true := by
  have h1 : one k = false := by
    rcases litS_iff.mp hl with z | z
    · exact z.2
    · exact (sp_dark u z).1.1
  refine ⟨h1, fun j hj => ?_⟩
  cases e : one j with
  | true => rfl
  | false =>
    have z := litS_false.mp (hn j hj)
    cases e2 : other j with
    | true => exact absurd (.inl ⟨e2, e⟩) z
    | false => exact absurd (.inr (sp_lit u e e2 hj hl)) z
theorem out_doab (u : Up n ar) {k : Int} (hl : litS n ar one other k = false) (ho : outS n ar one other k = true) (hn : ∀ j, ar k j = true → litS n ar one other j = false) : (one k = true ∧ other k = false) ∧ ∀ j, ar k j = true → one j = true := by
  have h1 : one k = true ∧ other k = false := by
    rcases outS_iff.mp ho with z | z
    · exact z
    · exact absurd (.inr z) (litS_false.mp hl)
  refine ⟨h1, fun j hj => ?_⟩
  cases e : one j with
  | true => rfl
  | false =>
    have z := litS_false.mp (hn j hj)
    cases e2 : other j with
    | true => exact absurd (.inl ⟨e2, e⟩) z
    | false => exact absurd (.inr (sp_out u e e2 hj ho)) z
/-! the four ways in which a lamp is changed -/
/-- a lamp is lit that burns at last: the same spare ones -/
theorem sp_fresh (u : Up n ar) {k : Int} (h1 : one k = false) (h2 : other k = true) (hd : ∀ j, ar j k = true → one j = true) : sp n ar (chg one k) other = sp n ar one other := by
  have hk : chg one k k = true := by rw [chg_same, h1]; rfl
  refine (sp_unique u (fun j hj => ?_) fun j hj => ?_).symm
  · -- the old set is closed under the new needs
    rw [need_iff u] at hj
    obtain ⟨⟨a, b⟩, c⟩ := hj
    have jk : j ≠ k := fun e => by rw [e, hk] at a; cases a
    rw [chg_ne jk] at a
    rcases c with ⟨l, al, hl⟩ | ⟨o, ao, ho⟩
    · refine sp_lit u a b al (litS_iff.mpr ?_)
      rcases lit_iff.mp hl with z | z
      · left
        by_cases e : l = k
        · rw [e]; exact ⟨h2, h1⟩
        · rw [chg_ne e] at z; exact z
      · exact .inr z
    · refine sp_out u a b ao (outS_iff.mpr ?_)
      rcases out_iff.mp ho with z | z
      · left
        by_cases e : o = k
        · rw [e, h2] at z; cases z.2
        · rw [chg_ne e] at z; exact z
      · exact .inr z
  · -- and within the new one
    refine sp_least u (fun i hi => ?_) hj
    rw [need_iff u] at hi
    obtain ⟨⟨a, b⟩, c⟩ := hi
    have ik : i ≠ k := fun e => by rw [e, h2] at b; cases b
    have a' : chg one k i = false := by rw [chg_ne ik]; exact a
    rcases c with ⟨l, al, hl⟩ | ⟨o, ao, ho⟩
    · by_cases e : l = k
      · rw [e] at al
        rw [hd i al] at a
        cases a
      · refine sp_lit u a' b al (litS_iff.mpr ?_)
        rcases lit_iff.mp hl with z | z
        · left; rw [chg_ne e]; exact z
        · exact .inr z
    · refine sp_out u a' b ao (outS_iff.mpr ?_)
      rcases out_iff.mp ho with z | z
      · left
        by_cases e : o = k
        · rw [e, h1] at z; cases z.1
        · rw [chg_ne e]; exact z
      · exact .inr z
/-- a dark lamp is lit: old needs are new ones, but for the lamp itself -/
theorem sp_darklit (u : Up n ar) {k : Int} (h1 : one k = false) (h2 : other k = false) (hd : ∀ j, ar j k = true → one j = true) {j : Int} (hj : sp n ar one other j = true) : j = k ∨ sp n ar (chg one k) other j = true := by
  have hk : chg one k k = true := by rw [chg_same, h1]; rfl
  have q : (fun i => decide (i = k) || sp n ar (chg one k) other i) j = true := by
    refine sp_least (T := fun i => decide (i = k) || sp n ar (chg one k) other i) u (fun i hi => ?_) hj
    rw [need_iff u] at hi
    obtain ⟨⟨a, b⟩, c⟩ := hi
    show (decide (i = k) || sp n ar (chg one k) other i) = true
    by_cases ik : i = k
    · rw [decide_eq_true ik]; rfl
    · rw [decide_eq_false ik, Bool.false_or]
      have a' : chg one k i = false := by rw [chg_ne ik]; exact a
      rcases c with ⟨l, al, hl⟩ | ⟨o, ao, ho⟩
      · by_cases e : l = k
        · rw [e] at al
          rw [hd i al] at a
          cases a
        · refine sp_lit u a' b al (litS_iff.mpr ?_)
          rcases lit_iff.mp hl with z | z
          · left; rw [chg_ne e]; exact z
          · rw [Bool.or_eq_true, decide_eq_true_eq] at z
            exact .inr (z.resolve_left e)
      · refine sp_out u a' b ao (outS_iff.mpr ?_)
        by_cases e : o = k
        · rw [e]; exact .inl ⟨hk, h2⟩
        · rcases out_iff.mp ho with z | z
          · left; rw [chg_ne e]; exact z
          · rw [Bool.or_eq_true, decide_eq_true_eq] at z
            exact .inr (z.resolve_left e)
  have q' : (decide (j = k) || sp n ar (chg one k) other j) = true := q
  rw [Bool.or_eq_true, decide_eq_true_eq] at q'
  exact q'
/-- a spare lamp is lit: the others stay -/
theorem sp_spare (u : Up n ar) {k : Int} (hk : sp n ar one other k = true) {j : Int} (hj : sp n ar (chg one k) other j = true) : j ≠ k ∧ sp n ar one other j = true := by
  have h1 := (sp_dark u hk).1.1
  have hkk : chg one k k = true := by rw [chg_same, h1]; rfl
  have jk : j ≠ k := fun e => by
    have := (sp_dark u hj).1.1
    rw [e, hkk] at this
    cases this
  refine ⟨jk, ?_⟩
  have q := sp_least (T := sp n ar one other) (one := chg one k) u (fun i hi => ?_) hj
  · exact q
  · rw [need_iff u] at hi
    obtain ⟨⟨a, b⟩, c⟩ := hi
    have ik : i ≠ k := fun e => by rw [e, hkk] at a; cases a
    rw [chg_ne ik] at a
    rcases c with ⟨l, al, hl⟩ | ⟨o, ao, ho⟩
    · refine sp_lit u a b al (litS_iff.mpr ?_)
      by_cases e : l = k
      · rw [e]; exact .inr hk
      · rcases lit_iff.mp hl with z | z
        · left; rw [chg_ne e] at z; exact z
        · exact .inr z
    · refine sp_out u a b ao (outS_iff.mpr ?_)
      by_cases e : o = k
      · rw [e]; exact .inr hk
      · rcases out_iff.mp ho with z | z
        · left; rw [chg_ne e] at z; exact z
        · exact .inr z
/-- a lamp is put out that is dark at last: old spare ones stay spare, and it is none of them -/
theorem sp_old (u : Up n ar) {k : Int} (h1 : one k = true) (h2 : other k = false) (hd : ∀ j, ar k j = true → one j = true) {j : Int} (hj : sp n ar one other j = true) : sp n ar (chg one k) other j = true := by
  have hk : chg one k k = false := by rw [chg_same, h1]; rfl
  refine sp_least (T := sp n ar (chg one k) other) u (fun i hi => ?_) hj
  rw [need_iff u] at hi
  obtain ⟨⟨a, b⟩, c⟩ := hi
  have ik : i ≠ k := fun e => by rw [e, h1] at a; cases a
  have a' : chg one k i = false := by rw [chg_ne ik]; exact a
  rcases c with ⟨l, al, hl⟩ | ⟨o, ao, ho⟩
  · refine sp_lit u a' b al (litS_iff.mpr ?_)
    rcases lit_iff.mp hl with z | z
    · left
      by_cases e : l = k
      · rw [e, h2] at z; cases z.1
      · rw [chg_ne e]; exact z
    · exact .inr z
  · by_cases e : o = k
    · rw [e] at ao
      rw [hd i ao] at a
      cases a
    · refine sp_out u a' b ao (outS_iff.mpr ?_)
      rcases out_iff.mp ho with z | z
      · left; rw [chg_ne e]; exact z
      · exact .inr z
theorem sp_old' (u : Up n ar) {k : Int} (h1 : one k = true) (h2 : other k = false) (hl : ∀ j, ar k j = true → litS n ar one other j = false) (ho : ∀ j, ar j k = true → outS n ar one other j = false) {j : Int} (hj : sp n ar (chg one k) other j = true) : sp n ar one other j = true := by
  have hk : chg one k k = false := by rw [chg_same, h1]; rfl
  refine sp_least (T := sp n ar one other) (one := chg one k) u (fun i hi => ?_) hj
  rw [need_iff u] at hi
  obtain ⟨⟨a, b⟩, c⟩ := hi
  have old : ∀ l, lit (chg one k) other (sp n ar one other) l = true → litS n ar one other l = true := fun l hl => by
    refine litS_iff.mpr ?_
    rcases lit_iff.mp hl with z | z
    · left
      by_cases e : l = k
      · rw [e, h2] at z; cases z.1
      · rw [chg_ne e] at z; exact z
    · exact .inr z
  have old2 : ∀ o, out (chg one k) other (sp n ar one other) o = true → outS n ar one other o = true := fun o ho => by
    refine outS_iff.mpr ?_
    rcases out_iff.mp ho with z | z
    · left
      by_cases e : o = k
      · rw [e, hk] at z; cases z.1
      · rw [chg_ne e] at z; exact z
    · exact .inr z
  by_cases ik : i = k
  · subst ik
    rcases c with ⟨l, al, hl'⟩ | ⟨o, ao, ho'⟩
    · have y := old l hl'
      rw [hl l al] at y
      cases y
    · have y := old2 o ho'
      rw [ho o ao] at y
      cases y
  · rw [chg_ne ik] at a
    rcases c with ⟨l, al, hl'⟩ | ⟨o, ao, ho'⟩
    · exact sp_lit u a b al (old l hl')
    · exact sp_out u a b ao (old2 o ho')
/-- the other way: it becomes a spare one if a lamp ahead of it is put out -/
theorem sp_oldk (u : Up n ar) {k : Int} (h1 : one k = true) (h2 : other k = false) (hd : ∀ j, ar k j = true → one j = true) {i : Int} (ai : ar i k = true) (hi : outS n ar one other i = true) : sp n ar (chg one k) other k = true := by
  have hk : chg one k k = false := by rw [chg_same, h1]; rfl
  have ik : i ≠ k := fun e => by have := u _ _ ai; omega
  refine sp_out u hk h2 ai (outS_iff.mpr ?_)
  rcases outS_iff.mp hi with z | z
  · left; rw [chg_ne ik]; exact z
  · exact .inr (sp_old u h1 h2 hd z)
/-- a lamp is put out that burns at last: no fewer spare ones -/
theorem sp_back (u : Up n ar) {k : Int} (h1 : one k = true) (h2 : other k = true) {j : Int} (hj : sp n ar one other j = true) : sp n ar (chg one k) other j = true := by
  refine sp_least (T := sp n ar (chg one k) other) u (fun i hi => ?_) hj
  rw [need_iff u] at hi
  obtain ⟨⟨a, b⟩, c⟩ := hi
  have ik : i ≠ k := fun e => by rw [e, h1] at a; cases a
  have a' : chg one k i = false := by rw [chg_ne ik]; exact a
  rcases c with ⟨l, al, hl⟩ | ⟨o, ao, ho⟩
  · refine sp_lit u a' b al (litS_iff.mpr ?_)
    rcases lit_iff.mp hl with z | z
    · left
      by_cases e : l = k
      · rw [e, h1] at z; cases z.2
      · rw [chg_ne e]; exact z
    · exact .inr z
  · refine sp_out u a' b ao (outS_iff.mpr ?_)
    rcases out_iff.mp ho with z | z
    · left
      by_cases e : o = k
      · rw [e, h2] at z; cases z.2
      · rw [chg_ne e]; exact z
    · exact .inr z
/-- THE LAW OF THE FIRST DEED -/
theorem next_iff (u : Up n ar) {k : Int} (h0 : 0 ≤ k) (hn : k < n) : nxt n ar one other k = true ↔ doab n ar one k = true ∧ dist n ar (chg one k) other + 1 = dist n ar one other := by
  rw [nxt_iff u, doab_iff u]
  unfold dist
  constructor
  · rintro (⟨hl, hj⟩ | ⟨hl, ho, hj, hi⟩)
    · have D := lit_doab u hl hj
      refine ⟨.inl D, ?_⟩
      rcases litS_iff.mp hl with z | z
      · have q := diff_chg (one := one) (other := other) h0 hn (by rw [z.1, z.2]; decide)
        rw [sp_fresh u z.2 z.1 D.2]
        omega
      · have dk := (sp_dark u z).1
        have q := diff_chg' (one := one) (other := other) h0 hn (by rw [dk.1, dk.2])
        have c : cnt n (sp n ar one other) = cnt n (sp n ar (chg one k) other) + 1 := by
          refine cnt_one h0 ?_ z hn fun j _ _ hjk => ?_
          · refine Bool.eq_false_iff.mpr fun y => ?_
            exact (sp_spare u z y).1 rfl
          · cases e : sp n ar one other j with
            | true => exact (sp_darklit u dk.1 dk.2 D.2 e).resolve_left hjk
            | false =>
              refine Bool.eq_false_iff.mpr fun y => ?_
              rw [(sp_spare u z y).2] at e
              cases e
        omega
    · have D := out_doab u hl ho hj
      refine ⟨.inr ⟨D.1.1, D.2⟩, ?_⟩
      have e : sp n ar (chg one k) other = sp n ar one other := by
        funext j
        cases e : sp n ar one other j with
        | true => exact sp_old u D.1.1 D.1.2 D.2 e
        | false =>
          refine Bool.eq_false_iff.mpr fun y => ?_
          rw [sp_old' u D.1.1 D.1.2 hj hi y] at e
          cases e
      have q := diff_chg (one := one) (other := other) h0 hn (by rw [D.1.1, D.1.2]; decide)
      rw [e]
      omega
  · rintro ⟨hd, he⟩
    rcases hd with ⟨h1, hd⟩ | ⟨h1, hd⟩
    · -- it is lit
      have first : ∀ j, ar j k = true → litS n ar one other j = false := fun j hj => by
        refine litS_false.mpr ?_
        have hj1 := hd j hj
        rintro (z | z)
        · rw [hj1] at z; cases z.2
        · have := (sp_dark u z).1.1
          rw [hj1] at this
          cases this
      cases h2 : other k with
      | true => exact .inl ⟨litS_iff.mpr (.inl ⟨h2, h1⟩), first⟩
      | false =>
        cases h3 : sp n ar one other k with
        | true => exact .inl ⟨litS_iff.mpr (.inr h3), first⟩
        | false =>
          exfalso
          have q := diff_chg' (one := one) (other := other) h0 hn (by rw [h1, h2])
          have c : cnt n (sp n ar one other) ≤ cnt n (sp n ar (chg one k) other) := cnt_mono fun j _ _ hj => (sp_darklit u h1 h2 hd hj).resolve_left fun e => by rw [e, h3] at hj; cases hj
          omega
    · -- it is put out
      cases h2 : other k with
      | true =>
        exfalso
        have q := diff_chg' (one := one) (other := other) h0 hn (by rw [h1, h2])
        have c : cnt n (sp n ar one other) ≤ cnt n (sp n ar (chg one k) other) := cnt_mono fun j _ _ hj => sp_back u h1 h2 hj
        omega
      | false =>
        right
        refine ⟨litS_false.mpr ?_, outS_iff.mpr (.inl ⟨h1, h2⟩), fun j hj => litS_false.mpr ?_, fun j hj => ?_⟩
        · rintro (z | z)
          · rw [h1] at z; cases z.2
          · have := (sp_dark u z).1.1
            rw [h1] at this
            cases this
        · have hj1 := hd j hj
          rintro (z | z)
          · rw [hj1] at z; cases z.2
          · have := (sp_dark u z).1.1
            rw [hj1] at this
            cases this
        · refine Bool.eq_false_iff.mpr fun z => ?_
          have kk := sp_oldk u h1 h2 hd hj z
          have nk : sp n ar one other k = false := Bool.eq_false_iff.mpr fun y => by
            have := (sp_dark u y).1.1
            rw [h1] at this
            cases this
          have q := diff_chg (one := one) (other := other) h0 hn (by rw [h1, h2]; decide)
          have c : cnt n (fun j => if j = k then true else sp n ar one other j) = cnt n (sp n ar one other) + 1 := by
            refine cnt_one h0 nk ?_ hn fun i _ _ hi => ?_
            · exact if_pos rfl
            · exact (if_neg hi).symm
          have c2 : cnt n (fun j => if j = k then true else sp n ar one other j) ≤ cnt n (sp n ar (chg one k) other) := cnt_mono fun i _ _ hi => by
            by_cases e : i = k
            · rw [e]; exact kk
            · rw [if_neg e] at hi
              exact sp_old u h1 h2 hd hi
          omega
end
end Hd
set_option Elab.async false
set_option linter.all false
set_option maxRecDepth 100000
set_option maxHeartbeats 4000000
/-! Handons: a layer of my own over HandS. A datum (PyData) at a value; an expression gives a datum while the heap only grows. -/
namespace Hd
open PySem PySem.Spec PyProof.Rows L2

/-! ### data at values -/
mutual
inductive At (K : PySem.W.Frag) (H : Hp) : V → PyData → Prop
  | non : At K H .non .none
  | bl (b : Bool) : At K H (.bl b) (.bool b)
  | int (i : Int) : At K H (.int i) (.int i)
  | str (x : PySem.Str) : At K H (.str x) (.str x)
  | lst {a : Addr} {xs : List V} {ds : List PyData} : H a = some (.lst xs) → Ats K H xs ds → At K H (.ref a) (.list ds)
  | tup {a : Addr} {xs : List V} {ds : List PyData} : SqT K H a xs → Ats K H xs ds → At K H (.ref a) (.tuple ds)
inductive Ats (K : PySem.W.Frag) (H : Hp) : List V → List PyData → Prop
  | nil : Ats K H [] []
  | cons {v : V} {vs : List V} {d : PyData} {ds : List PyData} : At K H v d → Ats K H vs ds → Ats K H (v :: vs) (d :: ds)
end
theorem same_t {K : PySem.W.Frag} {H H' : Hp} {a : Addr} {xs : List V} (e : Same H H') (h : SqT K H a xs) : SqT K H' a xs := by
  rcases h with (h | ⟨o, h⟩) | h
  · exact .inl (.inl (e _ _ h))
  · exact .inl (.inr ⟨o, e _ _ h⟩)
  · exact .inr h
mutual
theorem At.mono {K : PySem.W.Frag} {H H' : Hp} (e : Same H H') : ∀ {v : V} {d : PyData}, At K H v d → At K H' v d
  | _, _, .non => .non
  | _, _, .bl b => .bl b
  | _, _, .int i => .int i
  | _, _, .str x => .str x
  | _, _, .lst h r => .lst (e _ _ h) (Ats.mono e r)
  | _, _, .tup h r => .tup (same_t e h) (Ats.mono e r)
theorem Ats.mono {K : PySem.W.Frag} {H H' : Hp} (e : Same H H') : ∀ {vs : List V} {ds : List PyData}, Ats K H vs ds → Ats K H' vs ds
  | _, _, .nil => .nil
  | _, _, .cons a r => .cons (At.mono e a) (Ats.mono e r)
end
mutual
theorem At.dp {K : PySem.W.Frag} {H : Hp} : ∀ {v : V} {d : PyData}, At K H v d → Dp K H v d
  | _, _, .non => .non
  | _, _, .bl b => .bl b
  | _, _, .int i => .int i
  | _, _, .str x => .str x
  | _, _, .lst h r => .lst (SqL.of h) (Ats.dp r)
  | _, _, .tup h r => .tup h (Ats.dp r)
theorem Ats.dp {K : PySem.W.Frag} {H : Hp} : ∀ {vs : List V} {ds : List PyData}, Ats K H vs ds → DpAll K H vs ds
  | _, _, .nil => .nil
  | _, _, .cons a r => .cons (At.dp a) (Ats.dp r)
end
/-- data without lists -/
def imm : PyData → Bool
  | .list _ => false
  | .tuple xs => immAll xs
  | _ => true
where immAll : List PyData → Bool
  | [] => true
  | x :: xs => imm x && immAll xs
/-- all tuples, and what is locked, stay -/
def Tups (H H' : Hp) : Prop := (∀ a xs, H a = some (.tup xs) → H' a = some (.tup xs)) ∧ ∀ a o u, H a = some (.frz o u) → H' a = some (.frz o u)
theorem Tups.refl (H : Hp) : Tups H H := ⟨fun _ _ h => h, fun _ _ _ h => h⟩
theorem Tups.trans {H H1 H2 : Hp} (a : Tups H H1) (b : Tups H1 H2) : Tups H H2 := ⟨fun x o h => b.1 x o (a.1 x o h), fun x o u h => b.2 x o u (a.2 x o u h)⟩
theorem Same.tups {H H' : Hp} (e : Same H H') : Tups H H' := ⟨fun a xs h => e _ _ h, fun a o u h => e _ _ h⟩
theorem Tups.t {K : PySem.W.Frag} {H H' : Hp} {a : Addr} {xs : List V} (e : Tups H H') (h : SqT K H a xs) : SqT K H' a xs := by
  rcases h with (h | ⟨o, h⟩) | h
  · exact .inl (.inl (e.1 _ _ h))
  · exact .inl (.inr ⟨o, e.2 _ _ _ h⟩)
  · exact .inr h
theorem Tups.l {K : PySem.W.Frag} {H H' : Hp} {a : Addr} {xs : List V} (e : Tups H H') (h : (∃ o, H a = some (.frz o (.lst xs))) ∨ ∃ (o : Obj) (its : Array Value) (n : Nat), K.lookup a = some o ∧ o.cls = .type "list" ∧ o.dict = none ∧ o.data = .seq its n ∧ its.size ≤ sizeLine ∧ Vals xs its.toList) : SqL K H' a xs := by
  rcases h with ⟨o, h⟩ | h
  · exact .inl (.inr ⟨o, e.2 _ _ _ h⟩)
  · exact .inr h
/-- what is written is no tuple -/
theorem Tups.upd {H : Hp} {p : Addr} {o : HO} (h1 : ∀ xs, H p ≠ some (.tup xs)) (h2 : ∀ o u, H p ≠ some (.frz o u)) : Tups H (upd H p o) :=
  ⟨fun a xs h => by
    by_cases e : a = p
    · rw [e] at h; exact absurd h (h1 xs)
    · rw [upd_ne e]; exact h,
  fun a o' u h => by
    by_cases e : a = p
    · rw [e] at h; exact absurd h (h2 o' u)
    · rw [upd_ne e]; exact h⟩
theorem Tups.lst {H : Hp} {p : Addr} {xs : List V} {o : HO} (h : H p = some (.lst xs)) : Tups H (L2.upd H p o) := Tups.upd (fun _ z => by rw [h] at z; cases z) fun _ _ z => by rw [h] at z; cases z
theorem Tups.ins {H : Hp} {p C dx : Addr} {fs : List (PySem.Str × V)} {o : HO} (h : H p = some (.ins C dx fs)) : Tups H (L2.upd H p o) := Tups.upd (fun _ z => by rw [h] at z; cases z) fun _ _ z => by rw [h] at z; cases z
mutual
theorem At.tups {K : PySem.W.Frag} {H H' : Hp} (e : Tups H H') : ∀ {v : V} {d : PyData}, imm d = true → At K H v d → At K H' v d
  | _, _, _, .non => .non
  | _, _, _, .bl b => .bl b
  | _, _, _, .int i => .int i
  | _, _, _, .str x => .str x
  | _, .list _, i, .lst _ _ => by simp [imm] at i
  | _, .tuple _, i, .tup h r => .tup (e.t h) (Ats.tups e (by simpa [imm] using i) r)
theorem Ats.tups {K : PySem.W.Frag} {H H' : Hp} (e : Tups H H') : ∀ {vs : List V} {ds : List PyData}, imm.immAll ds = true → Ats K H vs ds → Ats K H' vs ds
  | _, _, _, .nil => .nil
  | _, _ :: _, i, .cons a r => by
    have i' := i
    simp only [imm.immAll, Bool.and_eq_true] at i'
    exact .cons (At.tups e i'.1 a) (Ats.tups e i'.2 r)
end
theorem imm_all : ∀ {ds : List PyData}, (∀ d ∈ ds, imm d = true) → imm.immAll ds = true
  | [], _ => rfl
  | d :: ds, h => by
    simp only [imm.immAll, Bool.and_eq_true]
    exact ⟨h d (by simp), imm_all fun z hz => h z (by simp [hz])⟩
theorem Ats.len {K : PySem.W.Frag} {H : Hp} : ∀ {vs : List V} {ds : List PyData}, Ats K H vs ds → vs.length = ds.length
  | _, _, .nil => rfl
  | _, _, .cons _ r => by simp [r.len]
theorem Ats.get {K : PySem.W.Frag} {H : Hp} : ∀ {vs : List V} {ds : List PyData} {i : Nat} {d : PyData}, Ats K H vs ds → ds[i]? = some d → ∃ v, vs[i]? = some v ∧ At K H v d
  | _, _, _, _, .nil, h => by simp at h
  | _, _, 0, _, .cons a r, h => by simp at h; subst h; exact ⟨_, rfl, a⟩
  | _, _, i + 1, _, .cons a r, h => by
    obtain ⟨v, e, q⟩ := Ats.get (i := i) r (by simpa using h)
    exact ⟨v, by simpa using e, q⟩
theorem Ats.getV {K : PySem.W.Frag} {H : Hp} : ∀ {vs : List V} {ds : List PyData} {i : Nat} {v : V}, Ats K H vs ds → vs[i]? = some v → ∃ d, ds[i]? = some d ∧ At K H v d
  | _, _, _, _, .nil, h => by simp at h
  | _, _, 0, _, .cons a r, h => by simp at h; subst h; exact ⟨_, rfl, a⟩
  | _, _, i + 1, _, .cons a r, h => by
    obtain ⟨v, e, q⟩ := Ats.getV (i := i) r (by simpa using h)
    exact ⟨v, by simpa using e, q⟩
theorem Ats.app {K : PySem.W.Frag} {H : Hp} : ∀ {vs ws : List V} {ds es : List PyData}, Ats K H vs ds → Ats K H ws es → Ats K H (vs ++ ws) (ds ++ es)
  | _, _, _, _, .nil, b => b
  | _, _, _, _, .cons x r, b => .cons x (r.app b)
theorem Ats.take {K : PySem.W.Frag} {H : Hp} : ∀ {vs : List V} {ds : List PyData} (n : Nat), Ats K H vs ds → Ats K H (vs.take n) (ds.take n)
  | _, _, 0, _ => .nil
  | _, _, _ + 1, .nil => .nil
  | _, _, n + 1, .cons x r => .cons x (r.take n)
theorem Ats.drop {K : PySem.W.Frag} {H : Hp} : ∀ {vs : List V} {ds : List PyData} (n : Nat), Ats K H vs ds → Ats K H (vs.drop n) (ds.drop n)
  | _, _, 0, h => h
  | _, _, _ + 1, .nil => .nil
  | _, _, n + 1, .cons x r => r.drop n
theorem Ats.dropLast {K : PySem.W.Frag} {H : Hp} {vs : List V} {ds : List PyData} (h : Ats K H vs ds) : Ats K H vs.dropLast ds.dropLast := by
  rw [List.dropLast_eq_take, List.dropLast_eq_take, h.len]
  exact h.take _
theorem ats_ints {K : PySem.W.Frag} {H : Hp} : ∀ ns : List Int, Ats K H (ns.map V.int) (ns.map PyData.int)
  | [] => .nil
  | n :: ns => .cons (.int n) (ats_ints ns)
theorem ats_strs {K : PySem.W.Frag} {H : Hp} : ∀ ns : List PySem.Str, Ats K H (ns.map V.str) (ns.map PyData.str)
  | [] => .nil
  | n :: ns => .cons (.str n) (ats_strs ns)
theorem of_ints {K : PySem.W.Frag} {H : Hp} : ∀ {ns : List Int} {vs : List V}, Ats K H vs (ns.map PyData.int) → vs = ns.map V.int
  | [], _, .nil => rfl
  | n :: ns, _, .cons a r => by
    cases a
    rw [of_ints r]
    rfl
theorem of_strs {K : PySem.W.Frag} {H : Hp} : ∀ {ns : List PySem.Str} {vs : List V}, Ats K H vs (ns.map PyData.str) → vs = ns.map V.str
  | [], _, .nil => rfl
  | n :: ns, _, .cons a r => by
    cases a
    rw [of_strs r]
    rfl
/-- lists and tuples of ints -/
abbrev lI (ns : List Int) : PyData := .list (ns.map PyData.int)
abbrev tI (ns : List Int) : PyData := .tuple (ns.map PyData.int)
theorem imm_ints : ∀ ns : List Int, imm.immAll (ns.map PyData.int) = true := fun ns => imm_all fun d hd => by
  obtain ⟨n, _, rfl⟩ := List.mem_map.mp hd
  rfl
theorem imm_tI (ns : List Int) : imm (tI ns) = true := by simp only [tI, imm]; exact imm_ints ns
theorem at_int {K : PySem.W.Frag} {H : Hp} {v : V} {i : Int} (h : At K H v (.int i)) : v = .int i := by cases h; rfl
theorem at_str {K : PySem.W.Frag} {H : Hp} {v : V} {i : PySem.Str} (h : At K H v (.str i)) : v = .str i := by cases h; rfl
theorem at_bl {K : PySem.W.Frag} {H : Hp} {v : V} {i : Bool} (h : At K H v (.bool i)) : v = .bl i := by cases h; rfl
theorem at_non {K : PySem.W.Frag} {H : Hp} {v : V} (h : At K H v .none) : v = .non := by cases h; rfl
theorem at_lI {K : PySem.W.Frag} {H : Hp} {v : V} {ns : List Int} (h : At K H v (lI ns)) : ∃ a, v = .ref a ∧ H a = some (.lst (ns.map V.int)) := by
  cases h with
  | lst h r => rw [of_ints r] at h; exact ⟨_, rfl, h⟩
theorem at_tI {K : PySem.W.Frag} {H : Hp} {v : V} {ns : List Int} (h : At K H v (tI ns)) : ∃ a, v = .ref a ∧ SqT K H a (ns.map V.int) := by
  cases h with
  | tup h r => rw [of_ints r] at h; exact ⟨_, rfl, h⟩
theorem lI_at {K : PySem.W.Frag} {H : Hp} {a : Addr} {ns : List Int} (h : H a = some (.lst (ns.map V.int))) : At K H (.ref a) (lI ns) := .lst h (ats_ints ns)
theorem tI_at {K : PySem.W.Frag} {H : Hp} {a : Addr} {ns : List Int} (h : SqT K H a (ns.map V.int)) : At K H (.ref a) (tI ns) := .tup h (ats_ints ns)
theorem same_new {H : Hp} {p : Addr} {o : HO} (h : H p = none) : Same H (L2.upd H p o) := fun a u e => by
  rw [upd_ne (ne_of_none e h)]
  exact e

/-! ### what evaluates to what -/
def Ev (K : PySem.W.Frag) (te : TE) (σ : L2.St) (H : Hp) (d : PyData) : Prop := ∀ H1, Same H H1 → ∀ Q : VK, (∀ v H2, Same H1 H2 → At K H2 v d → Q v H2) → te σ H1 Q
def EvT (tt : TT) (σ : L2.St) (H : Hp) (b : Bool) : Prop := ∀ H1, Same H H1 → ∀ Q : Bool → Hp → Prop, (∀ H2, Same H1 H2 → Q b H2) → tt σ H1 Q
def EvA (K : PySem.W.Frag) (ta : TA) (σ : L2.St) (H : Hp) (ds : List PyData) : Prop := ∀ H1, Same H H1 → ∀ Q : List V → Hp → Prop, (∀ vs H2, Same H1 H2 → Ats K H2 vs ds → Q vs H2) → ta σ H1 Q
def EvO (to : TO) (σ : L2.St) (H : Hp) (o : Option Int) : Prop := ∀ H1, Same H H1 → ∀ Q : Option Int → Hp → Prop, (∀ H2, Same H1 H2 → Q o H2) → to σ H1 Q
/-- a two-place operation, a one-place one, a call, by data -/
def RO (K : PySem.W.Frag) (r : R2) (a b z : PyData) : Prop := ∀ (H : Hp) (x y : V), At K H x a → At K H y b → ∀ Q : VK, (∀ v H2, Same H H2 → At K H2 v z → Q v H2) → r x y H Q
def RC (K : PySem.W.Frag) (r : List V → Hp → VK → Prop) (ds : List PyData) (z : PyData) : Prop := ∀ (H : Hp) (vs : List V), Ats K H vs ds → ∀ Q : VK, (∀ v H2, Same H H2 → At K H2 v z → Q v H2) → r vs H Q
def RM (K : PySem.W.Frag) (r : V → List V → Hp → VK → Prop) (a : PyData) (ds : List PyData) (z : PyData) : Prop := ∀ (H : Hp) (x : V) (vs : List V), At K H x a → Ats K H vs ds → ∀ Q : VK, (∀ v H2, Same H H2 → At K H2 v z → Q v H2) → r x vs H Q
/-- a walk over data: the items come in their order, and the walk ends behind them -/
def Wk (K : PySem.W.Frag) (J : It) (ds : List PyData) (H : Hp) : Prop := ∀ H1, Same H H1 → (∀ i, ds.length ≤ i → i ≤ ds.length → J.stop i H1) ∧ ∀ i d, ds[i]? = some d → J.go i H1 ∧ ∀ x H2, J.yld i H1 x H2 → Same H1 H2 ∧ At K H2 x d
def EvI (K : PySem.W.Frag) (wi : TI) (σ : L2.St) (H : Hp) (ds : List PyData) : Prop := ∀ H1, Same H H1 → ∀ R : It → Hp → Prop, (∀ J H2, Same H1 H2 → Wk K J ds H2 → R J H2) → wi σ H1 R

section
variable {K : PySem.W.Frag} {σ : L2.St} {H H' : Hp} {ta tb te tc : TE} {t u : TT} {a b c d z : PyData}
theorem Ev.mono (e : Same H H') (h : Ev K te σ H d) : Ev K te σ H' d := fun H1 x Q q => h H1 (e.trans x) Q q
theorem EvT.mono {b : Bool} (e : Same H H') (h : EvT t σ H b) : EvT t σ H' b := fun H1 x Q q => h H1 (e.trans x) Q q
theorem EvI.mono {wi : TI} {ds : List PyData} (e : Same H H') (h : EvI K wi σ H ds) : EvI K wi σ H' ds := fun H1 x Q q => h H1 (e.trans x) Q q
theorem ev_var {i : Nat} {v : V} (h : σ[i]? = some (some v)) (q : At K H v d) : Ev K (tVar i) σ H d := fun H1 e Q k => ⟨v, h, k v H1 (Same.refl H1) (q.mono e)⟩
theorem ev_int {i : Int} : Ev K (tC (.int i)) σ H (.int i) := fun H1 _ _ q => q _ H1 (Same.refl H1) (.int i)
theorem ev_bl {i : Bool} : Ev K (tC (.bl i)) σ H (.bool i) := fun H1 _ _ q => q _ H1 (Same.refl H1) (.bl i)
theorem ev_str {i : PySem.Str} : Ev K (tC (.str i)) σ H (.str i) := fun H1 _ _ q => q _ H1 (Same.refl H1) (.str i)
theorem ev_non : Ev K (tC .non) σ H .none := fun H1 _ _ q => q _ H1 (Same.refl H1) .non
theorem ev_is {d' : PyData} (h : Ev K te σ H d) (e : d = d') : Ev K te σ H d' := by rw [← e]; exact h
theorem et_is {b b' : Bool} (h : EvT t σ H b) (e : b = b') : EvT t σ H b' := by rw [← e]; exact h
theorem ev_op {r : R2} (ha : Ev K ta σ H a) (hb : Ev K tb σ H b) (hr : RO K r a b z) : Ev K (tOp r ta tb) σ H z := fun H1 e Q q =>
  ha H1 e _ fun x H2 e2 ax => hb H2 (e.trans e2) _ fun y H3 e3 ay => hr H3 x y (ax.mono e3) ay Q fun v H4 e4 av => q v H4 ((e2.trans e3).trans e4) av
theorem ev_B {b : Bool} (h : Ev K te σ H (.bool b)) : EvT (tB te) σ H b := fun H1 e Q q => h H1 e _ fun v H2 e2 av => by
  rw [at_bl av]
  exact ⟨b, rfl, q H2 e2⟩
theorem ev_test {b : Bool} (h : Ev K te σ H (.bool b)) : EvT (tTest te) σ H b := fun H1 e Q q => h H1 e _ fun v H2 e2 av => by
  rw [at_bl av]
  exact ⟨b, rfl, q H2 e2⟩
theorem et_and {a b : Bool} (h1 : EvT t σ H a) (h2 : a = true → EvT u σ H b) : EvT (tAnd t u) σ H (a && b) := fun H1 e Q q => h1 H1 e _ fun H2 e2 => by
  cases a with
  | true =>
    show u σ H2 Q
    exact h2 rfl H2 (e.trans e2) Q fun H3 e3 => q H3 (e2.trans e3)
  | false =>
    show Q false H2
    exact q H2 e2
theorem et_or {a b : Bool} (h1 : EvT t σ H a) (h2 : a = false → EvT u σ H b) : EvT (tOr t u) σ H (a || b) := fun H1 e Q q => h1 H1 e _ fun H2 e2 => by
  cases a with
  | true =>
    show Q true H2
    exact q H2 e2
  | false =>
    show u σ H2 Q
    exact h2 rfl H2 (e.trans e2) Q fun H3 e3 => q H3 (e2.trans e3)
theorem et_not {a : Bool} (h1 : EvT t σ H a) : EvT (tNot t) σ H (!a) := fun H1 e _ q => h1 H1 e _ fun H2 e2 => q H2 e2
theorem et_yes : EvT tYes σ H true := fun H1 _ _ q => q H1 (Same.refl H1)
theorem ev_andV {a b : Bool} (h1 : Ev K ta σ H (.bool a)) (h2 : a = true → Ev K tb σ H (.bool b)) : Ev K (tAndV ta tb) σ H (.bool (a && b)) := fun H1 e Q q => h1 H1 e _ fun v H2 e2 av => by
  rw [at_bl av]
  refine ⟨a, rfl, ?_⟩
  cases a with
  | true =>
    show tb σ H2 Q
    exact h2 rfl H2 (e.trans e2) Q fun v H3 e3 av => q v H3 (e2.trans e3) av
  | false =>
    show Q (.bl false) H2
    exact q _ H2 e2 (.bl false)
theorem ev_orV {a b : Bool} (h1 : Ev K ta σ H (.bool a)) (h2 : a = false → Ev K tb σ H (.bool b)) : Ev K (tOrV ta tb) σ H (.bool (a || b)) := fun H1 e Q q => h1 H1 e _ fun v H2 e2 av => by
  rw [at_bl av]
  refine ⟨a, rfl, ?_⟩
  cases a with
  | true =>
    show Q (.bl true) H2
    exact q _ H2 e2 (.bl true)
  | false =>
    show tb σ H2 Q
    exact h2 rfl H2 (e.trans e2) Q fun v H3 e3 av => q v H3 (e2.trans e3) av
theorem ev_notV {a : Bool} (h1 : Ev K ta σ H (.bool a)) : Ev K (tNotV ta) σ H (.bool (!a)) := fun H1 e _ q => h1 H1 e _ fun v H2 e2 av => by
  rw [at_bl av]
  exact ⟨a, rfl, q _ H2 e2 (.bl _)⟩
theorem ev_if {b : Bool} (h : EvT t σ H b) (h1 : b = true → Ev K ta σ H d) (h2 : b = false → Ev K tb σ H d) : Ev K (tIf t ta tb) σ H d := fun H1 e Q q => h H1 e _ fun H2 e2 => by
  cases b with
  | true =>
    show ta σ H2 Q
    exact h1 rfl H2 (e.trans e2) Q fun v H3 e3 av => q v H3 (e2.trans e3) av
  | false =>
    show tb σ H2 Q
    exact h2 rfl H2 (e.trans e2) Q fun v H3 e3 av => q v H3 (e2.trans e3) av
/-- a < b < c -/
theorem ev_chain {r r' : R2} {k : Bool} {z : Bool} (ha : Ev K ta σ H a) (hb : Ev K tb σ H b) (hr : RO K r a b (.bool k)) (hc : k = true → Ev K tc σ H c) (hr' : k = true → RO K r' b c (.bool z)) : Ev K (tChain r r' ta tb tc) σ H (.bool (k && z)) := fun H1 e Q q =>
  ha H1 e _ fun x H2 e2 ax => hb H2 (e.trans e2) _ fun y H3 e3 ay => hr H3 x y (ax.mono e3) ay _ fun v H4 e4 av => by
    rw [at_bl av]
    refine ⟨k, rfl, ?_⟩
    cases k with
    | true =>
      show tc σ H4 fun w' H4 => r' y w' H4 Q
      exact hc rfl H4 (((e.trans e2).trans e3).trans e4) _ fun w H5 e5 aw => hr' rfl H5 y w (ay.mono (e4.trans e5)) aw Q fun v H6 e6 av => q v H6 ((((e2.trans e3).trans e4).trans e5).trans e6) av
    | false =>
      show Q (.bl false) H4
      exact q _ H4 ((e2.trans e3).trans e4) (.bl false)
theorem ea_nil : EvA K tNil σ H [] := fun H1 _ _ q => q [] H1 (Same.refl H1) .nil
theorem ea_cons {tr : TA} {ds : List PyData} (h : Ev K ta σ H a) (hr : EvA K tr σ H ds) : EvA K (tCons ta tr) σ H (a :: ds) := fun H1 e _ q =>
  h H1 e _ fun v H2 e2 av => hr H2 (e.trans e2) _ fun vs H3 e3 avs => q _ H3 (e2.trans e3) (.cons (av.mono e3) avs)
theorem Ats.small {vs : List V} {ds : List PyData} (h : Ats K H vs ds) (hl : ds.length ≤ 100000) : vs.length ≤ sizeLine := by
  rw [h.len]
  exact Nat.le_trans hl (by decide)
theorem ev_tup {tr : TA} {ds : List PyData} (h : EvA K tr σ H ds) (hl : ds.length ≤ 100000 := by exact Nat.le_of_ble_eq_true rfl) : Ev K (tTup tr) σ H (.tuple ds) := fun H1 e _ q =>
  h H1 e _ fun vs H2 e2 avs => ⟨avs.small hl, fun p hp => q _ _ (e2.trans (same_new hp)) (.tup (.inl (.inl upd_same)) (avs.mono (same_new hp)))⟩
theorem ev_lst {tr : TA} {ds : List PyData} (h : EvA K tr σ H ds) (hl : ds.length ≤ 100000 := by exact Nat.le_of_ble_eq_true rfl) : Ev K (tLst tr) σ H (.list ds) := fun H1 e _ q =>
  h H1 e _ fun vs H2 e2 avs => ⟨avs.small hl, fun p hp => q _ _ (e2.trans (same_new hp)) (.lst upd_same (avs.mono (same_new hp)))⟩
theorem ev_cb {r : List V → Hp → VK → Prop} {tr : TA} {ds : List PyData} (h : EvA K tr σ H ds) (hr : RC K r ds z) : Ev K (tCB r tr) σ H z := fun H1 e Q q =>
  h H1 e _ fun vs H2 e2 avs => hr H2 vs avs Q fun v H3 e3 av => q v H3 (e2.trans e3) av
theorem eo_none : EvO tNoPart σ H none := fun H1 _ _ q => q H1 (Same.refl H1)
theorem eo_some {i : Int} (h : Ev K te σ H (.int i)) : EvO (tPart te) σ H (some i) := fun H1 e _ q => h H1 e _ fun v H2 e2 av => by
  rw [at_int av]
  exact ⟨i, rfl, q H2 e2⟩

/-! ### promises by data -/
/-- a promise: from data ds (Pre) a datum z that R tells comes back, the heap only grown -/
def spG (K : PySem.W.Frag) (R : List PyData → PyData → Prop) : Sp := fun vs H Q _ => ∃ ds z, R ds z ∧ Ats K H vs ds ∧ ∀ v H2, Same H H2 → At K H2 v z → Q v H2
theorem ev_call {R : List PyData → PyData → Prop} {E : XK} {tr : TA} {ds : List PyData} (h : EvA K tr σ H ds) (hr : R ds z) : Ev K (tCall (spG K R) [] E tr) σ H z := fun H1 e Q q =>
  h H1 e _ fun vs H2 e2 avs => by
    rw [List.append_nil]
    exact ⟨ds, z, hr, avs, fun v H3 e3 av => q v H3 (e2.trans e3) av⟩

/-! ### statements -/
variable {D : Ends} {t1 t2 : TS}
theorem s_set {i : Nat} (h : Ev K te σ H d) (k : ∀ v H1, Same H H1 → At K H1 v d → D.nx (σ.set i (some v)) H1) : tAsg te (gName i) D σ H := h H (Same.refl H) _ fun v H1 e av => k v H1 e av
theorem s_ret (h : Ev K te σ H d) (k : ∀ v H1, Same H H1 → At K H1 v d → D.rt v H1) : tRet te D σ H := h H (Same.refl H) _ fun v H1 e av => k v H1 e av
theorem s_drop (h : Ev K te σ H d) (k : ∀ H1, Same H H1 → D.nx σ H1) : tDrop te D σ H := h H (Same.refl H) _ fun v H1 e av => k H1 e
theorem s_if {b : Bool} (h : EvT t σ H b) (h1 : b = true → ∀ H1, Same H H1 → t1 D σ H1) (h2 : b = false → ∀ H1, Same H H1 → t2 D σ H1) : tIfS t t1 t2 D σ H := h H (Same.refl H) _ fun H1 e => by
  cases b with
  | true => exact h1 rfl H1 e
  | false => exact h2 rfl H1 e
theorem s_par {i j : Nat} {tr : TA} {d1 d2 : PyData} (h : EvA K tr σ H [d1, d2]) (k : ∀ v w H1, Same H H1 → At K H1 v d1 → At K H1 w d2 → D.nx ((σ.set i (some v)).set j (some w)) H1) : tPar i j tr D σ H :=
  h H (Same.refl H) _ fun vs H1 e avs => by
    cases avs with
    | cons a1 r =>
      cases r with
      | cons a2 r =>
        cases r
        exact ⟨_, _, rfl, k _ _ H1 e a1 a2⟩
/-- (a, b) = e -/
theorem s_unp {i j : Nat} {d1 d2 : PyData} (h : Ev K te σ H (.tuple [d1, d2])) (k : ∀ v w H1, Same H H1 → At K H1 v d1 → At K H1 w d2 → D.nx ((σ.set i (some v)).set j (some w)) H1) : tAsg te (gTup K 2 (gCons (gName i) (gCons (gName j) gNil))) D σ H :=
  h H (Same.refl H) _ fun v H1 e av => by
    cases av with
    | tup hs r =>
      rename_i xs
      cases r with
      | cons a1 r =>
        cases r with
        | cons a2 r =>
          cases r
          exact ⟨_, _, rfl, hs, rfl, _, _, rfl, _, _, rfl, rfl, k _ _ H1 e a1 a2⟩
end

/-! ### walks -/
section
variable {K : PySem.W.Frag} {σ : L2.St} {H : Hp} {te : TE} {ds : List PyData}
theorem ei_list (h : Ev K te σ H (.list ds)) : EvI K (iList K te) σ H ds := fun H1 e R q => h H1 e _ fun v H2 e2 av => by
  cases av with
  | lst hs r =>
    rename_i a xs
    refine ⟨a, rfl, ⟨xs, SqL.of hs⟩, q _ H2 e2 fun H3 e3 => ⟨fun i hi _ => ⟨xs, SqL.of (e3 _ _ hs), by rw [r.len]; exact hi⟩, fun i d hd => ?_⟩⟩
    obtain ⟨v, hv, av⟩ := r.get hd
    refine ⟨⟨xs, v, SqL.of (e3 _ _ hs), hv⟩, fun x H4 y => ?_⟩
    obtain ⟨eH, y⟩ := y
    subst eH
    have hx := y xs (SqL.of (e3 _ _ hs))
    rw [hv] at hx
    cases hx
    exact ⟨Same.refl _, av.mono e3⟩
theorem ei_tup (h : Ev K te σ H (.tuple ds)) : EvI K (iTup K te) σ H ds := fun H1 e R q => h H1 e _ fun v H2 e2 av => by
  cases av with
  | tup hs r =>
    rename_i a xs
    refine ⟨a, rfl, ⟨xs, hs⟩, q _ H2 e2 fun H3 e3 => ⟨fun i hi _ => ⟨xs, same_t e3 hs, by rw [r.len]; exact hi⟩, fun i d hd => ?_⟩⟩
    obtain ⟨v, hv, av⟩ := r.get hd
    refine ⟨⟨xs, v, same_t e3 hs, hv⟩, fun x H4 y => ?_⟩
    obtain ⟨eH, y⟩ := y
    subst eH
    have hx := y xs (same_t e3 hs)
    rw [hv] at hx
    cases hx
    exact ⟨Same.refl _, av.mono e3⟩
theorem getElem?_rng {n i : Nat} {d : PyData} (h : ((rng n).map PyData.int)[i]? = some d) : i < n ∧ d = .int (i : Int) := by
  rw [List.getElem?_map] at h
  unfold rng at h
  rw [List.getElem?_map] at h
  by_cases hi : i < n
  · rw [List.getElem?_range hi] at h
    exact ⟨hi, (Option.some.inj h).symm⟩
  · rw [List.getElem?_eq_none (by rw [List.length_range]; omega)] at h
    cases h
theorem ei_rng {tr : TA} {n : Nat} {i : Int} (h : EvA K tr σ H [.int i]) (hi : i = (n : Int)) (hn : n ≤ 100000) : EvI K (iRng1 tr) σ H ((rng n).map PyData.int) := fun H1 e R q => h H1 e _ fun vs H2 e2 av => by
  subst hi
  cases av with
  | cons a r =>
    cases r
    cases a
    refine ⟨(n : Int), rfl, by omega, by omega, q _ H2 e2 fun H3 e3 => ⟨fun i hi _ => ?_, fun i d hd => ?_⟩⟩
    · rw [List.length_map, rng_len] at hi
      show ((n : Int)).toNat ≤ i
      omega
    · obtain ⟨h1, h2⟩ := getElem?_rng hd
      refine ⟨by show i < ((n : Int)).toNat; omega, fun x H4 y => ?_⟩
      obtain ⟨eH, y⟩ := y
      subst eH y h2
      rw [Int.zero_add]
      exact ⟨Same.refl _, .int _⟩

/-! ### comprehensions -/
/-- one item: the targets take it, the test answers p, the element is f -/
def Item (K : PySem.W.Frag) (g : TG) (tt : TT) (te : TE) (ws : List Nat) (σ : L2.St) (H : Hp) (v : V) (p : Bool) (f : PyData) : Prop :=
  ∃ σ2 : L2.St, (∀ Q : L2.St → Hp → Prop, (∀ H2, Same H H2 → Q σ2 H2) → g v (wipe σ ws) H Q) ∧ wipe σ2 ws = wipe σ ws ∧ EvT tt σ2 H p ∧ (p = true → Ev K te σ2 H f)
theorem filter_snoc {α β : Type} (p : α → Bool) (f : α → β) (l : List α) (x : α) : ((l ++ [x]).filter p).map f = (l.filter p).map f ++ if p x = true then [f x] else [] := by
  rw [List.filter_append, List.map_append, List.filter_cons, List.filter_nil]
  by_cases h : p x = true
  · rw [if_pos h, if_pos h]; rfl
  · rw [if_neg h, if_neg h]; rfl
theorem take_snoc {α : Type} {l : List α} {i : Nat} {x : α} (h : l[i]? = some x) : l.take (i + 1) = l.take i ++ [x] := by
  rw [List.take_add_one, h]
  rfl
theorem ev_lc {α : Type} {wi : TI} {g : TG} {tt : TT} {ws : List Nat} (xs : List α) (enc : α → PyData) (p : α → Bool) (f : α → PyData) (hi : EvI K wi σ H (xs.map enc)) (hl : xs.length ≤ 100000) (him : ∀ x ∈ xs, p x = true → imm (f x) = true)
    (hs : ∀ x ∈ xs, ∀ v H1, Same H H1 → At K H1 v (enc x) → Item K g tt te ws σ H1 v (p x) (f x)) : Ev K (tLc wi g tt te ws) σ H (.list ((xs.filter p).map f)) := fun H1 e Q q => by
  refine hi H1 e _ fun J H2 e2 w D hD => ?_
  refine ⟨fun i m Hi => m = xs.length - i ∧ i ≤ xs.length ∧ Same H2 Hi ∧ ∃ acc, Hi D = some (.lst acc) ∧ Ats K Hi acc (((xs.take i).filter p).map f), ⟨xs.length, by simp, Nat.zero_le _, same_new hD, [], upd_same, .nil⟩, ?_⟩
  rintro i m Hi ⟨rfl, hle, s2, acc, hacc, ra⟩
  have hD2 : ∀ b o, H2 b = some o → b ≠ D := fun b o hb => ne_of_none hb hD
  by_cases hlt : i < xs.length
  · right
    obtain ⟨x, hx⟩ : ∃ x, xs[i]? = some x := ⟨xs[i], by rw [List.getElem?_eq_getElem hlt]⟩
    have hxm : x ∈ xs := List.mem_of_getElem? hx
    have hd : (xs.map enc)[i]? = some (enc x) := by rw [List.getElem?_map, hx]; rfl
    obtain ⟨hgo, hy⟩ := (w Hi s2).2 i (enc x) hd
    have hacl : acc.length ≤ i := by
      rw [ra.len, List.length_map]
      refine Nat.le_trans (List.length_filter_le _ _) ?_
      rw [List.length_take]
      exact Nat.min_le_left _ _
    refine ⟨hgo, fun Hn => Same H2 Hn ∧ ∃ acc, Hn D = some (.lst acc) ∧ Ats K Hn acc (((xs.take (i + 1)).filter p).map f), fun Hn hn => ⟨xs.length - (i + 1), by omega, rfl, hlt, hn⟩, fun v H3 y => ?_⟩
    obtain ⟨s3, av⟩ := hy v H3 y
    obtain ⟨σ2, hg, hw, ht, he⟩ := hs x hxm v H3 (((e.trans e2).trans s2).trans s3) av
    refine hg _ fun H4 s4 => ⟨hw, ht H4 s4 _ fun H5 s5 => ?_⟩
    have s35 : Same Hi H5 := (s3.trans s4).trans s5
    rw [take_snoc hx, filter_snoc]
    cases hp : p x with
    | false =>
      rw [if_neg Bool.false_ne_true, if_neg Bool.false_ne_true, List.append_nil]
      exact ⟨s2.trans s35, acc, s35 _ _ hacc, ra.mono s35⟩
    | true =>
      rw [if_pos rfl, if_pos rfl]
      refine he hp H5 (s4.trans s5) _ fun yv H6 s6 ay => ?_
      have s36 : Same Hi H6 := s35.trans s6
      have tp : Tups H6 (L2.upd H6 D (.lst (acc ++ [yv]))) := Tups.lst (s36 _ _ hacc)
      refine ⟨acc, s36 _ _ hacc, Nat.lt_of_le_of_lt (Nat.le_trans hacl (Nat.le_of_lt (Nat.lt_of_lt_of_le hlt hl))) (by decide), fun b o hb => ?_, acc ++ [yv], upd_same, ?_⟩
      · rw [upd_ne (hD2 b o hb)]
        exact s36 _ _ (s2 _ _ hb)
      · have ia : imm.immAll (((xs.take i).filter p).map f) = true := imm_all fun d hd => by
          obtain ⟨z, hz, rfl⟩ := List.mem_map.mp hd
          obtain ⟨hz1, hz2⟩ := List.mem_filter.mp hz
          exact him z (List.mem_of_mem_take hz1) hz2
        exact ((ra.mono s36).tups tp ia).app (.cons (ay.tups tp (him x hxm hp)) .nil)
  · left
    have hi' : i = xs.length := by omega
    subst hi'
    refine ⟨(w Hi s2).1 _ (by rw [List.length_map]; exact Nat.le_refl _) (by rw [List.length_map]; exact Nat.le_refl _), q _ _ (e2.trans s2) (.lst hacc ?_)⟩
    rw [List.take_length] at ra
    exact ra
/-- the target a name -/
theorem item1 {tt : TT} {ws : List Nat} {i : Nat} {v : V} {p : Bool} {f : PyData} (hw : wipe ((wipe σ ws).set i (some v)) ws = wipe σ ws) (ht : EvT tt ((wipe σ ws).set i (some v)) H p) (he : p = true → Ev K te ((wipe σ ws).set i (some v)) H f) : Item K (gName i) tt te ws σ H v p f :=
  ⟨_, fun Q q => q H (Same.refl H), hw, ht, he⟩
/-- the target a pair of names -/
theorem item2 {tt : TT} {ws : List Nat} {i j : Nat} {v : V} {d1 d2 : PyData} {p : Bool} {f : PyData} (av : At K H v (.tuple [d1, d2])) (hk : ∀ v1 v2, At K H v1 d1 → At K H v2 d2 → wipe (((wipe σ ws).set i (some v1)).set j (some v2)) ws = wipe σ ws ∧ EvT tt (((wipe σ ws).set i (some v1)).set j (some v2)) H p ∧
    (p = true → Ev K te (((wipe σ ws).set i (some v1)).set j (some v2)) H f)) : Item K (gTup K 2 (gCons (gName i) (gCons (gName j) gNil))) tt te ws σ H v p f := by
  cases av with
  | tup hs r =>
    cases r with
    | cons a1 r =>
      cases r with
      | cons a2 r =>
        cases r
        obtain ⟨h1, h2, h3⟩ := hk _ _ a1 a2
        exact ⟨_, fun Q q => ⟨_, _, rfl, hs, rfl, _, _, rfl, _, _, rfl, rfl, q H (Same.refl H)⟩, h1, h2, h3⟩
end
/-! ### a for over data that the body leaves as they are -/
theorem s_for {K : PySem.W.Frag} {σ : L2.St} {H : Hp} {wi : TI} {g : TG} {tb : TS} {D : Ends} {ds : List PyData} (hi : EvI K wi σ H ds)
    (k : ∀ H2, Same H H2 → ∃ Pv : Nat → L2.St → Hp → Prop, Pv 0 σ H2 ∧
      (∀ i d v σ1 H0 H1, ds[i]? = some d → Pv i σ1 H0 → Same H2 H0 → Same H0 H1 → At K H1 v d → g v σ1 H1 fun σ2 H' => tb { D with nx := fun σ3 H3 => Pv (i + 1) σ3 H3 ∧ Same H2 H3, ct := fun σ3 H3 => Pv (i + 1) σ3 H3 ∧ Same H2 H3, bk := D.nx } σ2 H') ∧
      ∀ σ1 H1, Pv ds.length σ1 H1 → Same H2 H1 → D.nx σ1 H1) : tFor wi g tb D σ H := by
  refine hi H (Same.refl H) _ fun J H2 e2 w => ?_
  obtain ⟨Pv, h0, hs, hd⟩ := k H2 e2
  refine ⟨fun i m σ1 H1 => m = ds.length - i ∧ i ≤ ds.length ∧ Pv i σ1 H1 ∧ Same H2 H1, ⟨ds.length, by simp, Nat.zero_le _, h0, Same.refl _⟩, ?_⟩
  rintro i m σ1 H1 ⟨rfl, hle, p, s⟩
  by_cases hlt : i < ds.length
  · right
    have hx : ds[i]? = some ds[i] := List.getElem?_eq_getElem hlt
    obtain ⟨hgo, hy⟩ := (w H1 s).2 i _ hx
    refine ⟨hgo, fun σ3 H3 => Pv (i + 1) σ3 H3 ∧ Same H2 H3, fun σ3 H3 z => ⟨ds.length - (i + 1), by omega, rfl, hlt, z⟩, fun x H' y => ?_⟩
    obtain ⟨s3, av⟩ := hy x H' y
    exact hs i _ x σ1 H1 H' hx p s s3 av
  · left
    have hi' : i = ds.length := by omega
    subst hi'
    exact ⟨(w H1 s).1 _ (Nat.le_refl _) (Nat.le_refl _), hd σ1 H1 p s⟩
end Hd
set_option Elab.async false
set_option linter.all false
set_option maxRecDepth 100000
set_option maxHeartbeats 4000000
/-! Handons: rules that the hand layer lacks. -/
namespace Hd
open PySem PySem.Spec PyProof.Rows L2
section
variable {X : Cx}
/-! ### x in t, t a tuple of data -/
def rInT (K : PySem.W.Frag) : R2 := fun x y H Q => ∃ d ds, Dp K H x d ∧ Dp K H y (.tuple ds) ∧ SeqAt.shaped d = true ∧ SeqAt.shaped (.tuple ds) = true ∧ Q (.bl (ds.any fun z => PyData.eqv z d)) H
theorem op_inT (hu : X.A.units + 65 < cLine) : OpR X (compareOp .In) (rInT X.K) := fun pins s σ H x y v u Q I rx ry ⟨d, ds, hd, he, sd, se, q⟩ => by
  obtain ⟨_, r1⟩ := Dp.reads I d x v hd rx
  obtain ⟨_, r2⟩ := Dp.reads I (.tuple ds) y u he ry
  have hl : PyData.canLayAll0 ds = true := SeqAt.canLay_of_shaped se
  have hr : X.A.units + 1 + min (PyData.depthAll ds) d.depth < cLine := by
    have := SeqAt.depth_of_shaped sd
    have := Nat.min_le_right (PyData.depthAll ds) d.depth
    omega
  exact SeqAt.in_tuple_reads r2 r1 hl (SeqAt.canLay_of_shaped sd) hr ⟨.bl _, H, I, rfl, q⟩

/-! ### a list against an empty one -/
def rEq0 (K : PySem.W.Frag) : R2 := fun x y H Q => ∃ a b xs, x = .ref a ∧ y = .ref b ∧ SqL K H a xs ∧ SqL K H b [] ∧ Q (.bl xs.isEmpty) H
def rNe0 (K : PySem.W.Frag) : R2 := fun x y H Q => ∃ a b xs, x = .ref a ∧ y = .ref b ∧ SqL K H a xs ∧ SqL K H b [] ∧ Q (.bl (!xs.isEmpty)) H
theorem op_eq0 (hu : X.A.units + 1 < cLine) : OpR X (compareOp .Eq) (rEq0 X.K) := fun pins s σ H x y v u Q I rx ry ⟨a, b, xs, ex, ey, ha, hb, q⟩ => by
  subst ex ey
  obtain rfl : v = Value.ref a := rx
  obtain rfl : u = Value.ref b := ry
  obtain ⟨its, r1, p1, _⟩ := I.list ha
  obtain ⟨jts, r2, p2, _⟩ := I.list hb
  cases r2
  have l1 := r1.length
  cases xs with
  | nil =>
    cases r1
    exact SeqAt.eq_listAt (e := fun _ => true) p1.isList p2.isList rfl (Nat.lt_of_succ_lt hu) (fun j h1 => absurd h1 (by simp)) ⟨.bl _, H, I, rfl, q⟩
  | cons z zs =>
    refine SeqAt.eq_list_lengthsAt p1.isList p2.isList ?_ (Nat.lt_of_succ_lt hu) ⟨.bl _, H, I, rfl, q⟩
    rw [List.size_toArray, ← l1]
    rfl
theorem op_ne0 (hu : X.A.units + 1 < cLine) : OpR X (compareOp .NotEq) (rNe0 X.K) := fun pins s σ H x y v u Q I rx ry ⟨a, b, xs, ex, ey, ha, hb, q⟩ => by
  subst ex ey
  obtain rfl : v = Value.ref a := rx
  obtain rfl : u = Value.ref b := ry
  obtain ⟨its, r1, p1, _⟩ := I.list ha
  obtain ⟨jts, r2, p2, _⟩ := I.list hb
  cases r2
  have l1 := r1.length
  cases xs with
  | nil =>
    cases r1
    exact SeqAt.RcNeAt.lists (e := fun _ => true) p1.isList p2.isList rfl (Nat.lt_of_succ_lt hu) (fun j h1 => absurd h1 (by simp)) _ _ _ _ ⟨.bl _, H, I, rfl, q⟩
  | cons z zs =>
    refine SeqAt.RcNeAt.lists_lengths p1.isList p2.isList ?_ (Nat.lt_of_succ_lt hu) _ _ _ _ ⟨.bl _, H, I, rfl, q⟩
    rw [List.size_toArray, ← l1]
    rfl

/-! ### sorted(t), t a tuple of ints -/
def rSrtT (K : PySem.W.Frag) : List V → Hp → VK → Prop := fun vs H Q => ∃ (a : Addr) (ns : List Int), vs = [V.ref a] ∧ SqT K H a (ns.map V.int) ∧ ns.length < 64 ∧
  ∀ (ms : List Int) (p : Addr), ms.Perm ns → ms.Pairwise (· ≤ ·) → H p = none → Q (.ref p) (L2.upd H p (.lst (ms.map V.int)))
theorem cr_srtT : CallR X (.builtin "sorted") (rSrtT X.K) := fun pins s σ H vs us Q I r ⟨a, ns, ev, ht, h64, q⟩ => by
  subst ev
  rw [Vals.ref1 r]
  obtain ⟨its, rv, ⟨o, ho, hc, n, hd⟩, hz⟩ := I.tuple ht
  have hi : IntsAre its ns := rv.ints
  have hlen : its.length = ns.length := hi.length
  refine Calls.call_function_entry kind_sorted plain_sorted entry_sorted (args_sorted1 _) ?_
  unfold Builtin.«sorted»
  refine wpAny_bind (m := checkCount "sorted" 1 1 _) (wpAny_pure (wpAny_bind (wpAny_collect_seq a (.inr rfl) ho hc hd (fun h1 k1 => ?_) (by rw [List.size_toArray, hlen]; exact small64 h64))))
  have J : Inv X pins σ H { s with heap := h1 } := I.kept (t' := s.toks) k1
  refine wpAny_bind (wpAny_newList ?_ (by simp only [List.toList_toArray]; rw [hlen]; exact small64 h64))
  have hL : (h1.push (seqObj "list" its.toArray 0)).get? h1.objs.size = some (seqObj "list" its.toArray 0) := Heap.get?_push_size _ rfl
  refine wpAny_bind (wpAny_holding (wpAny_call_entry slot_list_sort ⟨_, hL, rfl⟩ entry_list_sort
    (list_sort_tree (s := { s with heap := h1.push (seqObj "list" its.toArray 0) }) hL hi (by rw [hlen]; exact h64) fun out ms g1 g2 g3 => ⟨_, rfl, ?_⟩) (args_list_sort _)))
  obtain ⟨e, he⟩ := sortedHeap_at (vs := its) (out := out) hL
  have hs : (ms.map V.int).length ≤ sizeLine := by
    rw [List.length_map, g2.length_eq]
    exact small64 h64
  refine wpAny_pure ⟨_, rfl, .ref h1.objs.size, L2.upd H h1.objs.size (.lst (ms.map V.int)), J.laid (t' := s.toks) (fun b u hb => ?_) (Nat.le_refl _) ⟨hs, out.toList, e, vals_of_ints g1, by rw [Array.toArray_toList]; exact he⟩, rfl, q ms _ g2 g3 (J.hok.fresh (Nat.le_refl _))⟩
  have lt : b < h1.objs.size := Heap.lt_size hb
  exact (sortedHeap_old (Nat.ne_of_lt lt) (Nat.lt_trans lt (by rw [Heap.size_push]; exact Nat.lt_succ_self _))).trans (Heap.get?_push_of_some _ hb)

/-! ### xs.count(b), truth values -/
def eqB (k : Bool) : Value → Bool
  | .bool b => b == k
  | _ => false
theorem bls_of : ∀ {bs : List Bool} {us : List Value}, Vals (bs.map V.bl) us → us = bs.map Value.bool
  | [], _, .nil => rfl
  | b :: bs, _, .cons r t => by
    have e := bls_of t
    obtain rfl := (r : _ = Value.bool b)
    rw [e]
    rfl
def rCntB (K : PySem.W.Frag) : V → List V → Hp → VK → Prop := fun x xs H Q => ∃ (p : Addr) (bs : List Bool) (k : Bool), x = .ref p ∧ xs = [.bl k] ∧ SqL K H p (bs.map V.bl) ∧ Q (.int (bs.count k : Nat)) H
theorem mt_cntB : MtR X "list.count" (rCntB X.K) := fun pins s σ H x xs v us Q I rx rxs ⟨p, bs, k, ex, exs, hs, q⟩ => by
  subst ex exs
  obtain rfl : v = Value.ref p := rx
  obtain ⟨u, rfl, ru⟩ := Vals.one rxs
  obtain rfl : u = Value.bool k := ru
  obtain ⟨its, rv, ⟨⟨cls, dd, data, sl⟩, n, ho, hc, hdn, hd⟩, _⟩ := I.list hs
  simp only at hc hd
  subst hc hd
  have e := bls_of rv
  subst e
  refine call_meets PySem.F.slot_list_count ⟨_, ho, rfl⟩ PySem.F.entry_list_count (PySem.F.args_list_count_2 _ _) (SeqAt.list_countAt p _ n dd sl (.bool k) (eqB k)) ⟨ho, fun y hy => ?_, ?_⟩
  · have hy' : y ∈ bs.map Value.bool := by simpa using hy
    obtain ⟨b, _, rfl⟩ := List.mem_map.mp hy'
    exact SeqAt.EqAt.bool_bool b k
  · have ec : (bs.map Value.bool).toArray.toList.countP (eqB k) = bs.count k := by
      rw [List.toList_toArray, List.countP_map]
      rfl
    refine ⟨.int (bs.count k : Nat), H, I.tok _, ⟨s.toks, ?_⟩, q⟩
    rw [ec]
end
end Hd
set_option Elab.async false
set_option linter.all false
set_option maxRecDepth 100000
set_option maxHeartbeats 4000000
/-! Handons: set(xs) of a list of ints; enumerate(t) of a tuple. -/
namespace Hd
open PySem PySem.Spec PyProof.Rows L2
/-! ### set(xs) -/
section
variable {P : Program} {w : World} {A : Around} {E : Value → Shared → Prop} {s : Shared}
/-- the empty set as it is laid -/
abbrev setO (w : World) : Obj := { cls := .type "set", dict := none, data := .set #[] 0 (.fresh 0 0 (!w.params.followText "set-order")) }
set_option maxHeartbeats 8000000 in
theorem set_of_list {l : Addr} {xs : Array Value} (ns : List Int) {Q : Value → Shared → Prop} (hh : A.handled = none) (hl : s.heap.IsList l xs) (hi : IntsAre xs.toList ns) (hb : ns.length + 1 < scanBound)
    (h : ∀ (h2 : Heap) (tk c : Nat), SetR w h2 s.heap.objs.size (fun j => decide (j ∈ ns)) c → c ≤ ns.length → (∀ b o, s.heap.get? b = some o → h2.get? b = some o) → Q (.ref s.heap.objs.size) { s with heap := h2, toks := tk }) :
    wpAny (model P w) A (call (.type "set") [.ref l]) Q E s := by
  have sz : xs.size = ns.length := by
    rw [← Array.length_toList]
    exact hi.length
  obtain ⟨_, _, f1⟩ := F.called_set.mro
  have f2 := F.called_set.made
  have f3 := F.called_set.sub
  have f4 := F.called_set.notType
  have f5 := F.called_set.canCreate
  have f6 := F.typeCall_set_1 (.ref l)
  refine wpAny_call (codeAny_of_tree ?_)
  show wpAny (model P w) A.in1 (callAny (.type "set") ⟨[.ref l], []⟩) _ _ s
  refine wpAny_pure ⟨Code.quiet_builtin _ (by decide +kernel), codeAny_builtin F.entry_type_call ?_⟩
  rw [Around.under_plain (weight_type_call_type "set" [.ref l] []) rfl]
  repeat (any_goals (first | assumption | wp_step))
  refine codeAny_mono (code_set_led1 (.ref l) (E := E) (Q₁ := fun o s1 => o = .ref s.heap.objs.size ∧ s1 = { s with heap := s.heap.push (setO w) }) ⟨rfl, rfl⟩) fun r s1 hr => ?_
  cases r with
  | error e => exact hr
  | ok fl =>
    cases fl with
    | next => exact hr.elim
    | brk => exact hr.elim
    | cont => exact hr.elim
    | ret o =>
      obtain ⟨rfl, rfl⟩ := hr
      have hS : (s.heap.push (setO w)).get? s.heap.objs.size = some (setO w) := Heap.get?_push_size _ rfl
      have hT : Shared.TypeIs { s with heap := s.heap.push (setO w) } (.ref s.heap.objs.size) "set" := ⟨_, hS, rfl⟩
      have f7 := F.called_set.init.lookup
      have f8 := F.called_set.init.bind (.ref s.heap.objs.size)
      repeat (any_goals (first | assumption | wp_step))
      refine codeAny_mono (codeAny_call_builtin (R := wants (fun r s2 => r = .none ∧ ∃ h2 tk c, s2 = { s with heap := h2, toks := tk } ∧ SetR w h2 s.heap.objs.size (fun j => decide (j ∈ ns)) c ∧ c ≤ ns.length ∧ ∀ b o, s.heap.get? b = some o → h2.get? b = some o) E)
        F.called_set.init.plain F.entry_set_init (check_set_init_1 hT ?_)) fun r2 s2 hr2 => ?_
      · obtain ⟨⟨oc, od, odt, osl⟩, ho, hcl, n, hdt⟩ := hl
        simp only at hcl hdt
        subst hcl hdt
        have ho2 : (s.heap.push (setO w)).get? l = some { cls := .type "list", dict := od, data := .seq xs n, slots := osl } := Heap.get?_push_of_some _ ho
        have g1 := F.sub_list_set
        have g2 := F.sub_list_frozenset
        have g3 : (Value.type "list" == Value.type "dict") = false := by decide
        have il : (s.heap.push (setO w)).IsList l xs := ⟨_, ho2, rfl, n, rfl⟩
        unfold Builtin.«set.__init__» noKeywords Builtin.Frozenset.updateFrom
        generalize hPI : pyIter = PI
        wp_walk
        subst hPI
        refine wpAny_pyIter_list il (wpAny_bind (wpAny_runValue ?_))
        have lt : l < s.heap.objs.size := Heap.lt_size ho
        have zz : (s.heap.push (setO w)).objs.size = s.heap.objs.size + 1 := Heap.size_push ..
        have ne : l ≠ (s.heap.push (setO w)).objs.size := by rw [zz]; exact Nat.ne_of_lt (Nat.lt_succ_of_lt lt)
        have out : s.heap.objs.size ∉ [(s.heap.push (setO w)).objs.size, l] := fun hm => by
          rw [zz] at hm
          rcases List.mem_cons.mp hm with z | z
          · exact absurd z (Nat.ne_of_lt (Nat.lt_succ_self _))
          · exact absurd (List.mem_singleton.mp z) (Nat.ne_of_gt lt)
        refine set_update_ints ((Walks.list (show A.in1.in1.in1.handled = none by simp [hh]) _ l ne xs).toS) s.heap.objs.size out ns sz hb (fun i v hv => ?_) (xs.size - 0) 0 _ (by omega) (Nat.zero_le _)
          ⟨⟨_, Heap.get?_push_size _ rfl, rfl, rfl⟩, il.push _⟩ ⟨0, Nat.le_refl 0, setR_new_at (Heap.get?_push_of_some _ hS)⟩ fun s3 c mv hc hS3 => ?_
        · have hv' : xs[i]? = some v := hv
          have lti : i < ns.length := by
            rw [← sz]
            exact (Array.getElem?_eq_some_iff.mp hv').1
          obtain ⟨t, e⟩ := IntsAre.int_at hi i v (by rw [Array.getElem?_toList]; exact hv')
          refine ⟨ns[i], t, List.getElem?_eq_getElem lti, ?_⟩
          rw [e, List.getD_eq_getElem?_getD, List.getElem?_eq_getElem lti]
          rfl
        · obtain ⟨h3, g3', d3, tk3, os3⟩ := s3
          obtain rfl : g3' = s.gens := mv.gens
          obtain rfl : d3 = s.drawn := mv.drawn
          obtain rfl : os3 = s.os := mv.os
          show wpAny _ _ _ _ _ _
          refine wpAny_pure ?_
          show wpAny _ _ (ret Value.none) _ _ _
          refine wpAny_pure ⟨rfl, h3, tk3, c, rfl, hS3, by rw [← sz]; exact hc, fun b o e => ?_⟩
          have lb : b < s.heap.objs.size := Heap.lt_size e
          refine mv.heap b o (fun hm => ?_) (Heap.get?_push_of_some _ (Heap.get?_push_of_some _ e))
          rcases List.mem_cons.mp hm with z | z
          · exact absurd z (Nat.ne_of_lt lb)
          · exact absurd (List.mem_singleton.mp z) (by rw [zz]; exact Nat.ne_of_lt (Nat.lt_succ_of_lt lb))
      · cases r2 with
        | error e => exact hr2
        | ok f2 =>
          cases f2 with
          | next => exact hr2.elim
          | brk => exact hr2.elim
          | cont => exact hr2.elim
          | ret r =>
            obtain ⟨rfl, h2, tk, c, rfl, a1, a2, a3⟩ := hr2
            repeat (any_goals (first | assumption | wp_step))
            exact h _ _ _ a1 a2 a3
end
section
variable {X : Cx}
def rSetL (K : PySem.W.Frag) (w : World) : List V → Hp → VK → Prop := fun vs H Q => ∃ (a : Addr) (ns : List Int), vs = [V.ref a] ∧ SqL K H a (ns.map V.int) ∧ ns.length < 1000 ∧
  ∀ (p : Addr) (c : Nat), c ≤ ns.length → H p = none → Q (.ref p) (L2.upd H p (SetO w p (fun j => decide (j ∈ ns)) c))
theorem cr_setL (hc : X.calm = true) : CallR X (.type "set") (rSetL X.K X.w) := fun pins s σ H vs us Q I r ⟨a, ns, ev, hs, hn, q⟩ => by
  subst ev
  rw [Vals.ref1 r]
  obtain ⟨its, rv, pl, _⟩ := I.list hs
  refine set_of_list ns (I.ok.hd hc) pl.isList (by simpa using rv.ints) (by unfold scanBound; omega) fun h2 tk c R hcl k => ?_
  exact ⟨.ref _, _, I.laid (t' := tk) k (Nat.le_refl _) (setO_new R), rfl, q _ c hcl (I.hok.fresh (Nat.le_refl _))⟩
end
end Hd
set_option Elab.async false
set_option linter.all false
set_option maxRecDepth 100000
set_option maxHeartbeats 4000000
/-! Handons: enumerate(t) of a tuple. -/
namespace Hd
open PySem PySem.Spec PyProof.Rows L2
/-! ### enumerate(t) -/
section
variable {prog : Program} {w : World} {A : Around} {E : Value → Shared → Prop} {s : Shared}
set_option maxHeartbeats 8000000 in
theorem enum_new1 {v : Value} {o : Obj} {G : Heap → Prop} (B : Begins v o G) :
    Meets (Builtin.«enumerate.__new__» ⟨[.type "enumerate", v], []⟩) (fun _ R s => G s.heap ∧
      R (.ok (.ret (.ref (s.heap.push o).objs.size))) { s with heap := (s.heap.push o).push { cls := .type "enumerate", data := .fields #[.none, .bool false, .ref s.heap.objs.size, rawInt 0, .none, .none] } }) :=
  .of_wp fun prog w A R s h => by
    obtain ⟨hp, g, d, tk, os⟩ := s
    obtain ⟨hG, hR⟩ := h
    have hsub := sub_enumerate
    have it : ∀ {A2 : Around} {E : Value → Shared → Prop} {Q : Value → Shared → Prop}, Q (.ref hp.objs.size) ⟨hp.push o, g, d, tk, os⟩ → wpAny (model prog w) A2 (pyIter v) Q E ⟨hp, g, d, tk, os⟩ := fun q => B.iter prog w _ _ ⟨hp, g, d, tk, os⟩ _ hG q
    wp_walk using it
    refine wpAny_stack_any fun st => wpAny_pure ?_
    split
    · rename_i c _ _ _ _ _
      cases (c == Value.type "enumerate") <;> (wp_walk using it; exact ⟨_, rfl, hR⟩)
    · wp_walk using it
      exact ⟨_, rfl, hR⟩
theorem call_enum1 {v : Value} {o : Obj} {G : Heap → Prop} {Q : Value → Shared → Prop} (B : Begins v o G) (hG : G s.heap)
    (h : ∀ h2, IsEnum h2 (s.heap.objs.size + 1) s.heap.objs.size 0 .none → h2.get? s.heap.objs.size = some o → (∀ b u, s.heap.get? b = some u → h2.get? b = some u) → Q (.ref (s.heap.objs.size + 1)) { s with heap := h2 }) :
    wpAny (model prog w) A (call (.type "enumerate") [v]) Q E s := by
  refine callType_new F.called_enumerate (by decide) (F.typeCall_enumerate_1 _) (F.newCall_enumerate_1 _) (fun obj => F.args_object_init_2 obj _) F.entry_enumerate_new (enum_new1 B) ⟨hG, ?_⟩
  have z : (s.heap.push o).objs.size = s.heap.objs.size + 1 := Heap.size_push ..
  have he := Heap.get?_push_size (s.heap.push o) (o := { cls := .type "enumerate", data := .fields #[.none, .bool false, .ref s.heap.objs.size, rawInt 0, .none, .none] }) rfl
  rw [z] at he
  show _ ∧ _
  rw [z]
  exact ⟨⟨_, he, rfl⟩, h _ he (Heap.get?_push_of_some _ (Heap.get?_push_size _ B.free)) fun b u e => Heap.get?_push_of_some _ (Heap.get?_push_of_some _ e)⟩
end
section
/-- the tuple at a, each item in a new pair with its place -/
def ItE (K : PySem.W.Frag) (a : Addr) : It :=
  ⟨fun i H => ∃ xs x, SqT K H a xs ∧ xs[i]? = some x, fun i H v H2 => ∃ T x, v = .ref T ∧ H T = none ∧ H2 = L2.upd H T (.tup [.int (i : Nat), x]) ∧ ∀ xs, SqT K H a xs → xs[i]? = some x, fun i H => ∃ xs, SqT K H a xs ∧ xs.length = i⟩
/-- how the enumerate object and its iterator stand at turn i -/
def EnAt (a e it : Addr) (i : Nat) (h : Heap) : Prop := (∃ old, IsEnum h e it ((i : Nat) : Int) old) ∧ h.IsTupleIter it a i ∧ e ≠ it ∧ a ≠ it ∧ a ≠ e
theorem turn_en {P : Program} {w : World} {K : PySem.W.Frag} {elts : List Expr} {kk : Nat} {tpos : Pos} (a e it : Addr) : Turn P w K (.Tuple elts kk tpos) (ItE K a) [e, it] e (EnAt a e it) where
  mem := List.mem_cons_self
  obj := fun i h st b hb => by
    obtain ⟨⟨old, he⟩, ⟨o, ho, hc, hd⟩, _⟩ := st
    rcases List.mem_cons.mp hb with z | z
    · refine ⟨_, by rw [z]; exact he, fun v q => ?_⟩
      cases q
    · exact ⟨o, by rw [List.mem_singleton.mp z]; exact ho, fun v q => by rw [hd] at q; cases q⟩
  keep := fun i h h2 st k => by
    have st2 : (∃ old, IsEnum h e it ((i : Nat) : Int) old) ∧ h.IsTupleIter it a i ∧ e ≠ it ∧ a ≠ it ∧ a ≠ e := st
    obtain ⟨⟨old, he⟩, hi, r⟩ := st2
    exact ⟨⟨old, k e (by simp) _ he⟩, hi.at fun o q => k it (by simp) o q, r⟩
  item := by
    intro X hP hw hK hc i pins s σ H E I hf st hg
    subst hP hw hK
    obtain ⟨⟨old, he⟩, hit, hne, hai, hae⟩ := st
    obtain ⟨xs, x, hq, hx⟩ := hg
    obtain ⟨its, rv, p, _⟩ := I.tuple hq
    obtain ⟨u, hu, ru⟩ := rv.get hx
    have p2 : s.heap.IsTuple a its.toArray := p
    have le : e < s.heap.objs.size := Heap.lt_size he
    have li : it < s.heap.objs.size := by
      obtain ⟨_, q, _⟩ := hit
      exact Heap.lt_size q
    have D := Draws.tuple (prog := X.prog) (w := X.w) (A := X.A.in1) (show X.A.in1.handled = none by simp [I.ok.hd hc]) it a hai its.toArray
    have hil : i < its.toArray.size := by
      rw [List.size_toArray]
      exact (List.getElem?_eq_some_iff.mp hu).1
    refine wpAny_pyNext_enum_itemD D he ⟨hit, p2⟩ hil hne (by simp [hne, Ne.symm hae]) fun z h2 tk hz ho st2 hT hsz hk => ?_
    obtain rfl : u = z := by
      have hz' : its.toArray[i]? = some z := hz
      rw [List.getElem?_toArray, hu] at hz'
      exact Option.some.inj hz'
    refine ⟨_, rfl, wpAny_letOwnedTupleGo_enum (s := { s with heap := h2, toks := tk + 1 }) ho fun h3 he3 sb => ?_⟩
    have hT3 : h3.get? s.heap.objs.size = some { cls := .type "tuple", data := .seq #[.int i tk, u] } := (sb.2 _ (Nat.ne_of_gt le)).trans hT
    have new : ObjOk X.prog X.w (L2.upd H s.heap.objs.size (.tup [.int (i : Nat), x])) h3 s.heap.objs.size (.tup [.int (i : Nat), x]) :=
      ⟨by show 2 ≤ sizeLine; decide, [.int i tk, u], .cons ⟨_, rfl⟩ (.cons ru .nil), ⟨_, hT3, rfl, _, rfl⟩⟩
    have J : Inv X pins σ (L2.upd H s.heap.objs.size (.tup [.int (i : Nat), x])) { s with heap := h3, toks := tk + 1 } :=
      I.turnedNew (ch := [e, it]) (fun b ob hb q => (sb.2 b (fun z => hb (by simp [z]))).trans (hk b ob (fun z => hb (by simp [z])) (fun z => hb (by simp [z])) q)) hf (Nat.le_refl _) new
    refine ⟨.ref s.heap.objs.size, _, J, rfl, ⟨_, x, rfl, I.hok.fresh (Nat.le_refl _), rfl, fun ys hy => by rw [I.tuple_inj hy hq]; exact hx⟩, ⟨⟨u, ?_⟩, st2.1.at fun o q => (sb.2 it (Ne.symm hne)).trans q, hne, hai, hae⟩, fun b hb => ?_⟩
    · rw [show ((i + 1 : Nat) : Int) = (i : Int) + 1 by omega]
      exact he3
    · have lb : b < s.heap.objs.size := by
        rcases List.mem_cons.mp hb with z | z
        · rw [z]; exact le
        · rw [List.mem_singleton.mp z]; exact li
      rw [upd_ne (Nat.ne_of_lt lb)]
      exact (hf b hb).1
  done := by
    intro X hP hw hK hc i pins s σ H E I hf st hg
    subst hP hw hK
    obtain ⟨⟨old, he⟩, hit, hne, hai, hae⟩ := st
    obtain ⟨xs, hq, hx⟩ := hg
    obtain ⟨its, rv, p, _⟩ := I.tuple hq
    have p2 : s.heap.IsTuple a its.toArray := p
    have D := Draws.tuple (prog := X.prog) (w := X.w) (A := X.A.in1) (show X.A.in1.handled = none by simp [I.ok.hd hc]) it a hai its.toArray
    obtain ⟨f0, f1, f2, f3, f4, f5⟩ := hf it (by simp)
    have hn : i = its.toArray.size := by rw [List.size_toArray, ← rv.length, hx]
    subst hn
    exact wpAny_pyNext_enum_endD D he ⟨hit, p2⟩ fun h2 eb => ⟨rfl, I.turned (t' := s.toks) (fun b o hb q => eb b o hb q) f0 f1 f3 f4 f5⟩
  self := fun A i s Q E st h => by
    obtain ⟨⟨_, he⟩, _⟩ := st
    exact wpAny_pyIter_enum he h
def iEnT (K : PySem.W.Frag) (ta : TA) : TI := fun σ H R => ta σ H fun vs H1 => ∃ a xs, vs = [.ref a] ∧ SqT K H1 a xs ∧ R (ItE K a) H1
theorem pi_enT {X : Cx} {e : Expr} {ta : TA} {p pos tpos : Pos} {elts : List Expr} {kk : Nat} (hg : Gl X "enumerate") (hm : X.mg "enumerate" = none) (ha : PA X [e] ta) (hs : starEach [e] X.env = [(false, eval e X.env)] := by rfl) :
    PI X (.Tuple elts kk tpos) (.Call (.Name "enumerate" p) [e] [] pos) (iEnT X.K ta) := by
  refine ⟨fun pins s σ H R I h => Call_ (ld_blt I hg hm boot_enumerate (callWith_type1 (thn (ha.run pos pins s σ H _ I h) fun us s1 ⟨vs, H1, I1, r1, q1⟩ => ?_) hs rfl))⟩
  obtain ⟨a, xs, ex, hq, q⟩ := q1
  subst ex
  rw [Vals.ref1 r1]
  obtain ⟨its, rv, p2, _⟩ := I1.tuple hq
  have tu : s1.heap.IsTuple a its.toArray := p2
  have la : a < s1.heap.objs.size := by
    obtain ⟨o, ho, _⟩ := p2
    exact Heap.lt_size ho
  refine call_enum1 (begins_tuple a its.toArray) tu fun h2 he hit hk => wpAny_pyIter_enum he ?_
  have J : Inv X pins σ H1 { s1 with heap := h2 } := I1.kept (t' := s1.toks) hk
  refine ⟨s1.heap.objs.size + 1, [s1.heap.objs.size + 1, s1.heap.objs.size], _, _, H1, rfl, J, turn_en a (s1.heap.objs.size + 1) s1.heap.objs.size, ⟨⟨.none, he⟩, ⟨_, hit, rfl, rfl⟩, Nat.succ_ne_self _, Nat.ne_of_lt la, Nat.ne_of_lt (Nat.lt_succ_of_lt la)⟩, fun b hb => ?_, q⟩
  have hle : s1.heap.objs.size ≤ b := by
    rcases List.mem_cons.mp hb with z | z
    · rw [z]; exact Nat.le_succ _
    · rw [List.mem_singleton.mp z]; exact Nat.le_refl _
  exact I1.fpOk hle (I1.hok.fresh hle)
end
end Hd
set_option Elab.async false
set_option linter.all false
set_option maxRecDepth 100000
set_option maxHeartbeats 4000000
/-! Handons: min(xs) of a list of pairs (int, bool). -/
namespace Hd
open PySem PySem.Spec PyProof.Rows L2
section
variable {prog : Program} {w : World} {A : Around} {R : Result → Shared → Prop} {I S : Addr} {fp wr : List Addr} {n : Nat} {P : Nat → Value → Prop} {Sv : Nat → Heap → Prop} {C : Heap → Prop} {bt : Nat → Nat → Bool}
/-- all but the iterator's own and the cell S stand -/
abbrev But (wr : List Addr) (S : Addr) (h h2 : Heap) : Prop := ∀ b o, b ∉ wr → b ≠ S → h.get? b = some o → h2.get? b = some o
/-- the cell of the best so far -/
abbrev cellO (vs : Array Value) (c : Nat) : Obj := { cls := .type "list", dict := none, data := .seq vs c, slots := #[] }
/-- the comparison may look at the heap, as long as C stands -/
theorem min_turns (W : Walks prog w A.in1 I fp wr n P Sv) (hS : S ∉ fp) (hC : ∀ h h2, C h → But wr S h h2 → C h2)
    (lt : ∀ i j vi vj (s : Shared) (Q E : Value → Shared → Prop), C s.heap → P i vi → P j vj → Q (.bool (bt i j)) s → wpAny (model prog w) A.in1 (richCompare .Lt vi vj) Q E s) :
    ∀ (m j : Nat) (s : Shared) (best : Value) (c : Nat), n - (j + 1) = m → j + 1 ≤ n → Sv (j + 1) s.heap → C s.heap → P (argBest bt j) best → s.heap.get? S = some (cellO #[best, best] c) →
      (∀ v h2 tk, P (argBest bt (n - 1)) v → But wr S s.heap h2 → R (.ok (.ret v)) { s with heap := h2, toks := tk }) → codeAny (model prog w) A (.builtin "min.loop" ⟨[.ref I, .none, .ref S], []⟩) R s := by
  have nS : S ∉ wr := fun z => hS (W.sub _ z)
  have nm : (toString "min" ++ toString ".loop" : String) = "min.loop" := by decide
  intro m
  induction m with
  | zero =>
    intro j s best c e hj hst hc hb hs hR
    obtain rfl : n = j + 1 := by omega
    refine codeAny_builtin F.entry_min_loop ?_
    rw [Around.under_plainId F.plain_min_loop _]
    show wpAny _ A.in1 (seqItems? (.ref S) >>= _) _ _ s
    refine wpAny_bind (wpAny_seqItems hs rfl ?_)
    show wpAny _ A.in1 (tryCatch (pyNext (.ref I)) _ >>= _) _ _ s
    refine wpAny_bind (wpAny_tryCatch (W.done s _ _ hst fun h2 tk k2 => ?_))
    show wpAny _ A.in1 (updateSeq S (fun _ => #[]) >>= _) _ _ _
    refine wpAny_bind (wpAny_updateSeq (k2 S _ nS hs) rfl (wpAny_bind (wpAny_letGo (wpAny_pure (hR best _ tk hb fun b o hw hS2 q => ?_)))))
    exact (Heap.get?_update_other _ _ (Ne.symm hS2)).trans (k2 b o hw q)
  | succ m ih =>
    intro j s best c e hj hst hc hb hs hR
    have lj : j + 1 < n := by omega
    refine codeAny_builtin F.entry_min_loop ?_
    rw [Around.under_plainId F.plain_min_loop _]
    show wpAny _ A.in1 (seqItems? (.ref S) >>= _) _ _ s
    refine wpAny_bind (wpAny_seqItems hs rfl ?_)
    show wpAny _ A.in1 (tryCatch (pyNext (.ref I)) _ >>= _) _ _ s
    refine wpAny_bind (wpAny_tryCatch (W.item (j + 1) s _ _ lj hst fun v h2 tk pv st2 k2 => ?_))
    have hs2 := k2 S _ nS hs
    have b2 : But wr S s.heap h2 := fun b o hw _ q => k2 b o hw q
    have hc2 : C h2 := hC _ _ hc b2
    show wpAny _ A.in1 (tryCatch (holding [v, v] (richCompare .Lt v best >>= _)) _ >>= _) _ _ _
    refine wpAny_bind (wpAny_tryCatch (wpAny_holding (wpAny_bind (lt (j + 1) (argBest bt j) v best _ _ _ hc2 pv hb (wpAny_bind (wpAny_holding (wpAny_truthy_bool (wpAny_bind (wpAny_letGo (wpAny_pure ?_))))))))))
    cases hbt : bt (j + 1) (argBest bt j) with
    | false =>
      simp only [Bool.false_eq_true, if_false]
      refine wpAny_bind (wpAny_letGo ?_)
      rw [nm]
      exact wpAny_pure ⟨plainId_quiet F.plain_min_loop _, ih (j + 1) _ best c (by omega) lj st2 hc2 (by unfold argBest; rw [hbt]; exact hb) hs2 fun v3 h3 tk3 p3 b3 => hR v3 h3 tk3 p3 fun b o hw hS2 q => b3 b o hw hS2 (k2 b o hw q)⟩
    | true =>
      simp only [if_true]
      refine wpAny_bind (wpAny_updateSeq hs2 rfl (wpAny_bind (wpAny_letGo ?_)))
      rw [nm]
      have b4 : But wr S h2 (h2.update S (Obj.mapSeq fun _ => #[v, v])) := fun b o hw hS2 q => (Heap.get?_update_other _ _ (Ne.symm hS2)).trans q
      refine wpAny_pure ⟨plainId_quiet F.plain_min_loop _, ih (j + 1) _ v _ (by omega) lj (W.frame _ _ _ st2 fun b hf o q => ?_) (hC _ _ hc2 b4) (by unfold argBest; rw [hbt]; exact pv) (Heap.get?_update_self _ hs2 rfl) fun v3 h3 tk3 p3 b3 => ?_⟩
      · exact (Heap.get?_update_other _ _ fun z : S = b => hS (by rw [z]; exact hf)).trans q
      · exact hR v3 h3 tk3 p3 fun b o hw hS2 q => b3 b o hw hS2 (b4 b o hw hS2 (k2 b o hw q))
theorem min_first (W : Walks prog w A.in1 I fp wr n P Sv) (hS : S ∉ fp) (hC : ∀ h h2, C h → But wr S h h2 → C h2)
    (lt : ∀ i j vi vj (s : Shared) (Q E : Value → Shared → Prop), C s.heap → P i vi → P j vj → Q (.bool (bt i j)) s → wpAny (model prog w) A.in1 (richCompare .Lt vi vj) Q E s) {s : Shared} {c : Nat} (hn : 0 < n) (hst : Sv 0 s.heap) (hc : C s.heap)
    (hs : s.heap.get? S = some (cellO #[] c)) (hR : ∀ v h2 tk, P (argBest bt (n - 1)) v → But wr S s.heap h2 → R (.ok (.ret v)) { s with heap := h2, toks := tk }) : codeAny (model prog w) A (.builtin "min.loop" ⟨[.ref I, .none, .ref S], []⟩) R s := by
  have nS : S ∉ wr := fun z => hS (W.sub _ z)
  have nm : (toString "min" ++ toString ".loop" : String) = "min.loop" := by decide
  refine codeAny_builtin F.entry_min_loop ?_
  rw [Around.under_plainId F.plain_min_loop _]
  show wpAny _ A.in1 (seqItems? (.ref S) >>= _) _ _ s
  refine wpAny_bind (wpAny_seqItems hs rfl ?_)
  show wpAny _ A.in1 (tryCatch (pyNext (.ref I)) _ >>= _) _ _ s
  refine wpAny_bind (wpAny_tryCatch (W.item 0 s _ _ hn hst fun v h2 tk pv st2 k2 => ?_))
  have hs2 := k2 S _ nS hs
  have b4 : But wr S s.heap (h2.update S (Obj.mapSeq fun _ => #[v, v])) := fun b o hw hS2 q => (Heap.get?_update_other _ _ (Ne.symm hS2)).trans (k2 b o hw q)
  show wpAny _ A.in1 (updateSeq S (fun _ => #[v, v]) >>= _) _ _ _
  refine wpAny_bind (wpAny_updateSeq hs2 rfl ?_)
  rw [nm]
  refine wpAny_pure ⟨plainId_quiet F.plain_min_loop _, min_turns W hS hC lt _ 0 _ v _ rfl hn (W.frame _ _ _ st2 fun b hf o q => ?_) (hC _ _ hc b4) pv (Heap.get?_update_self _ hs2 rfl) fun v3 h3 tk3 p3 b3 => ?_⟩
  · exact (Heap.get?_update_other _ _ fun z : S = b => hS (by rw [z]; exact hf)).trans q
  · exact hR v3 h3 tk3 p3 fun b o hw hS2 q => b3 b o hw hS2 (b4 b o hw hS2 q)
/-- min(xs): the first best -/
theorem call_min_at {s : Shared} {E Q : Value → Shared → Prop} {l : Addr} {its : Array Value} (hh : A.handled = none) (hl : s.heap.IsList l its) (hn : 0 < its.size) (hC : ∀ h h2 : Heap, C h → (∀ b o, b < s.heap.objs.size → h.get? b = some o → h2.get? b = some o) → C h2) (hc : C s.heap)
    (lt : ∀ (i j : Nat) vi vj (s : Shared) (Q E : Value → Shared → Prop), C s.heap → its[i]? = some vi → its[j]? = some vj → Q (.bool (bt i j)) s → wpAny (model prog w) A.in1 (richCompare .Lt vi vj) Q E s)
    (h : ∀ v h2 tk, its[argBest bt (its.size - 1)]? = some v → (∀ b o, s.heap.get? b = some o → h2.get? b = some o) → Q v { s with heap := h2, toks := tk }) : wpAny (model prog w) A (call (.builtin "min") [.ref l]) Q E s := by
  have nm : (toString "min" ++ toString ".loop" : String) = "min.loop" := by decide
  refine call_function_tree F.kind_min F.plain_min F.entry_min (F.args_min1 _) ?_
  show wpAny _ A.in1 (Builtin.Builtins.bindParams "min" ["key", "default"] 0 ⟨[], []⟩ >>= _) _ _ s
  refine wpAny_bind (wpAny_of_eq (show Builtin.Builtins.bindParams "min" ["key", "default"] 0 ⟨[], []⟩ = pure [none, none] from rfl) (wpAny_bind (wpAny_pure (wpAny_bind (wpAny_pyIter_list hl (wpAny_bind (wpAny_newObj_type ?_)))))))
  rw [nm]
  have ll : l < s.heap.objs.size := by
    obtain ⟨o, ho, _⟩ := hl
    exact Heap.lt_size ho
  have z1 : (s.heap.push { cls := .type "list_iterator", data := .fields #[.ref l, .int 0 0] }).objs.size = s.heap.objs.size + 1 := Heap.size_push ..
  have old : ∀ b o, s.heap.get? b = some o → ((s.heap.push { cls := .type "list_iterator", data := .fields #[.ref l, .int 0 0] }).push (cellO #[] 0)).get? b = some o := fun b o q => Heap.get?_push_of_some _ (Heap.get?_push_of_some _ q)
  show wpAny _ _ (again (.builtin "min.loop" ⟨[.ref s.heap.objs.size, .none, .ref (s.heap.push { cls := .type "list_iterator", data := .fields #[.ref l, .int 0 0] }).objs.size], []⟩)) _ _ { s with heap := (s.heap.push { cls := .type "list_iterator", data := .fields #[.ref l, .int 0 0] }).push (cellO #[] 0) }
  rw [z1]
  refine wpAny_pure ⟨plainId_quiet F.plain_min_loop _, min_first (s := { s with heap := (s.heap.push { cls := .type "list_iterator", data := .fields #[.ref l, .int 0 0] }).push (cellO #[] 0) }) (C := C) (bt := bt) (Walks.list (show A.in1.handled = none by simp [hh]) s.heap.objs.size l (Nat.ne_of_lt ll) its) (S := s.heap.objs.size + 1) ?_ (fun h1 h2 c k => hC _ _ c fun b o hb q => k b o ?_ ?_ q) lt hn
    ⟨⟨_, Heap.get?_push_of_some _ (Heap.get?_push_size _ rfl), rfl, rfl⟩, hl.at fun o q => old _ _ q⟩ (hC _ _ hc fun b o _ q => old b o q) (c := 0) ?_ fun v h2 tk pv k => h v h2 tk pv fun b o q => k b o ?_ ?_ (old b o q)⟩
  · intro hm
    rcases List.mem_cons.mp hm with z | z
    · exact absurd z (Nat.succ_ne_self _)
    · exact absurd (List.mem_singleton.mp z) (Nat.ne_of_gt (Nat.lt_succ_of_lt ll))
  · exact fun hm => absurd (List.mem_singleton.mp hm) (Nat.ne_of_lt hb)
  · exact Nat.ne_of_lt (Nat.lt_succ_of_lt hb)
  · have := Heap.get?_push_size (s.heap.push { cls := .type "list_iterator", data := .fields #[.ref l, .int 0 0] }) (o := cellO #[] 0) rfl
    rw [z1] at this
    exact this
  · exact fun hm => absurd (List.mem_singleton.mp hm) (Nat.ne_of_lt (Heap.lt_size q))
  · exact Nat.ne_of_lt (Nat.lt_succ_of_lt (Heap.lt_size q))
end
/-! ### pairs (int, bool) -/
def lt2 (p q : Int × Bool) : Bool := decide (p.1 < q.1) || (decide (p.1 = q.1) && (!p.2 && q.2))
def d2 (p : Int × Bool) : PyData := .tuple [.int p.1, .bool p.2]
theorem dataLt_d2 (p q : Int × Bool) : PySem.W.dataLt (d2 p) (d2 q) = lt2 p q := by
  obtain ⟨a, x⟩ := p
  obtain ⟨b, y⟩ := q
  unfold d2
  rw [PySem.W.dataLt_pair rfl rfl, PySem.W.dataLt_int, PySem.W.dataLt_bool]
  simp only [PyData.eqv, lt2]
  by_cases h : a = b
  · subst h
    cases x <;> cases y <;> simp [b2i]
  · have : (a == b) = false := by simpa using h
    simp [this, h]
theorem best_least (ps : List (Int × Bool)) : ∀ k i : Nat, i ≤ k → ∀ p q, ps[i]? = some p → ps[argBest (fun i j => match ps[i]?, ps[j]? with | some a, some b => lt2 a b | _, _ => false) k]? = some q → q.1 ≤ p.1
  | 0, i, hi, p, q, hp, hq => by
    obtain rfl : i = 0 := by omega
    unfold argBest at hq
    rw [hp] at hq
    cases hq
    exact Int.le_refl _
  | k + 1, i, hi, p, q, hp, hq => by
    have ih := best_least ps k
    unfold argBest at hq
    cases hb : ps[argBest (fun i j => match ps[i]?, ps[j]? with | some a, some b => lt2 a b | _, _ => false) k]? with
    | none =>
      simp only [hb] at hq
      cases hk : ps[k + 1]? with
      | none => simp [hk, hb] at hq
      | some z => simp [hk, hb] at hq
    | some b =>
      simp only [hb] at hq
      cases hk : ps[k + 1]? with
      | none =>
        simp only [hk, Bool.false_eq_true, if_false, hb] at hq
        cases hq
        have : i ≠ k + 1 := fun e => by rw [e, hk] at hp; cases hp
        exact ih i (by omega) p _ hp hb
      | some z =>
        simp only [hk] at hq
        by_cases hl : lt2 z b = true
        · rw [if_pos hl, hk] at hq
          have zb : z.1 ≤ b.1 := by
            unfold lt2 at hl
            simp only [Bool.or_eq_true, Bool.and_eq_true, decide_eq_true_eq] at hl
            rcases hl with h | ⟨h, _⟩ <;> omega
          cases hq
          by_cases e : i = k + 1
          · rw [e, hk] at hp
            cases hp
            exact Int.le_refl _
          · have := ih i (by omega) p _ hp hb
            omega
        · rw [if_neg hl, hb] at hq
          cases hq
          by_cases e : i = k + 1
          · rw [e, hk] at hp
            cases hp
            unfold lt2 at hl
            simp only [Bool.or_eq_true, Bool.and_eq_true, decide_eq_true_eq, not_or] at hl
            omega
          · exact ih i (by omega) p _ hp hb
theorem reads_at {h : Heap} : ∀ {us : List Value} {ds : List PyData} {as : List Addr} {i : Nat} {u : Value} {d : PyData}, ReadsAll h us ds as → us[i]? = some u → ds[i]? = some d → ∃ bs, Reads h u d bs
  | _, _, _, i, _, _, .nil, e, _ => by simp at e
  | _, _, _, 0, _, _, .cons r rs, e, e2 => by
    simp at e e2
    subst e e2
    exact ⟨_, r⟩
  | _, _, _, i + 1, _, _, .cons r rs, e, e2 => reads_at (i := i) rs (by simpa using e) (by simpa using e2)
theorem vals_back : ∀ {xs : List V} {us : List Value} {i : Nat} {u : Value}, Vals xs us → us[i]? = some u → ∃ x, xs[i]? = some x ∧ RelV x u
  | _, _, i, _, .nil, e => by simp at e
  | _, _, 0, _, .cons r rs, e => by
    simp at e
    subst e
    exact ⟨_, rfl, r⟩
  | _, _, i + 1, _, .cons r rs, e => by
    obtain ⟨x, a, b⟩ := vals_back (i := i) rs (by simpa using e)
    exact ⟨x, by simpa using a, b⟩
theorem dp_at {K : PySem.W.Frag} {H : Hp} : ∀ {xs : List V} {ds : List PyData} {i : Nat} {x : V} {d : PyData}, DpAll K H xs ds → xs[i]? = some x → ds[i]? = some d → Dp K H x d
  | _, _, i, _, _, .nil, e, _ => by simp at e
  | _, _, 0, _, _, .cons r rs, e, e2 => by
    simp at e e2
    subst e e2
    exact r
  | _, _, i + 1, _, _, .cons r rs, e, e2 => dp_at (i := i) rs (by simpa using e) (by simpa using e2)
section
variable {X : Cx}
def rMin2 (K : PySem.W.Frag) : List V → Hp → VK → Prop := fun vs H Q => ∃ (a : Addr) (xs : List V) (ps : List (Int × Bool)), vs = [V.ref a] ∧ SqL K H a xs ∧ DpAll K H xs (ps.map d2) ∧ ps ≠ [] ∧
  ∀ x p, x ∈ xs → Dp K H x (d2 p) → p ∈ ps → (∀ q ∈ ps, p.1 ≤ q.1) → Q x H
theorem cr_min2 (hc : X.calm = true) (hu : X.A.units + 70 < cLine) : CallR X (.builtin "min") (rMin2 X.K) := fun pins s σ H vs us Q I r ⟨a, xs, ps, ev, hs, hd, hne, q⟩ => by
  subst ev
  rw [Vals.ref1 r]
  obtain ⟨its, rv, pl, _⟩ := I.list hs
  obtain ⟨as, hr⟩ := Dp.readsAll I _ _ _ hd rv
  have l1 := rv.length
  have l2 : its.length = ps.length := by
    have := SeqAt.ReadsAll.length _ _ _ hr
    rw [List.length_map] at this
    exact this
  have lp : 0 < ps.length := List.length_pos_iff.mpr hne
  have rd : ∀ (h : Heap), (∀ b o, b < s.heap.objs.size → s.heap.get? b = some o → h.get? b = some o) → ∀ (i : Nat) u p, its[i]? = some u → ps[i]? = some p → ∃ as, Reads h u (d2 p) as := fun h k i u p hi hp => by
    obtain ⟨as, r⟩ := reads_at hr hi (show (ps.map d2)[i]? = some (d2 p) by rw [List.getElem?_map, hp]; rfl)
    exact ⟨as, Reads.keeps (fun b o e => k b o (Heap.lt_size e) e) r⟩
  refine call_min_at (C := fun h => ∀ b o, b < s.heap.objs.size → s.heap.get? b = some o → h.get? b = some o) (bt := fun i j => match ps[i]?, ps[j]? with | some a, some b => lt2 a b | _, _ => false) (I.ok.hd hc) pl.isList (by rw [List.size_toArray, l2]; exact lp)
    (fun h h2 c k b o hb e => k b o hb (c b o hb e)) (fun _ _ _ e => e) (fun i j vi vj s2 Q2 E2 c hi hj hq => ?_) fun v h2 tk hv k => ?_
  · rw [List.getElem?_toArray] at hi hj
    have li : i < ps.length := by rw [← l2]; exact (List.getElem?_eq_some_iff.mp hi).1
    have lj : j < ps.length := by rw [← l2]; exact (List.getElem?_eq_some_iff.mp hj).1
    have ei : ps[i]? = some ps[i] := List.getElem?_eq_getElem li
    have ej : ps[j]? = some ps[j] := List.getElem?_eq_getElem lj
    obtain ⟨_, r1⟩ := rd _ c i vi _ hi ei
    obtain ⟨_, r2⟩ := rd _ c j vj _ hj ej
    have al : PySem.W.alike (d2 ps[i]) (d2 ps[j]) = true := rfl
    refine PySem.W.rcLt_alike _ _ _ _ _ _ _ _ r1 r2 al (by unfold d2; intro z; cases z) ?_ _ _ _ _ ?_
    · have e1 : (d2 ps[i]).depth = 1 := by simp [d2, PyData.depth, PyData.depthAll]
      have := Nat.min_le_left (d2 ps[i]).depth (d2 ps[j]).depth
      show X.A.units + 1 + min (d2 ps[i]).depth (d2 ps[j]).depth < cLine
      omega
    · rw [dataLt_d2]
      simp only [ei, ej] at hq
      exact hq
  · rw [List.getElem?_toArray, List.size_toArray, l2] at hv
    generalize hbst : argBest (fun i j => match ps[i]?, ps[j]? with | some a, some b => lt2 a b | _, _ => false) (ps.length - 1) = m at hv
    obtain ⟨x, hx, rx⟩ := vals_back rv hv
    have lm : m < ps.length := by rw [← l2]; exact (List.getElem?_eq_some_iff.mp hv).1
    have em : ps[m]? = some ps[m] := List.getElem?_eq_getElem lm
    refine ⟨x, H, I.kept (t' := tk) k, rx, q x ps[m] (List.mem_of_getElem? hx) (dp_at hd hx (by rw [List.getElem?_map, em]; rfl)) (List.getElem_mem lm) fun z hz => ?_⟩
    obtain ⟨i, hi, ez⟩ := List.mem_iff_getElem.mp hz
    have ei : ps[i]? = some z := by rw [List.getElem?_eq_getElem hi, ez]
    exact best_least ps (ps.length - 1) i (by omega) z _ ei (by rw [hbst]; exact em)
end
end Hd
set_option Elab.async false
set_option linter.all false
set_option maxRecDepth 100000
set_option maxHeartbeats 4000000
/-! Handons: what the operators do, by data. -/
namespace Hd
open PySem PySem.Spec PyProof.Rows L2
theorem room65 {k : Nat} {A : Around} (r : Room k A) : A.units + 65 < cLine := by have := r.un; omega
theorem room70 {k : Nat} {A : Around} (r : Room k A) : A.units + 70 < cLine := by have := r.un; omega
section
variable {K : PySem.W.Frag} {σ : L2.St} {H : Hp} {te : TE}
/-! ### ints -/
theorem ro_int {g : Int → Int → Int} {a b : Int} : RO K (rI0 fun i j => .int (g i j)) (.int a) (.int b) (.int (g a b)) := fun H x y hx hy Q q => by
  rw [at_int hx, at_int hy]
  exact ⟨a, b, rfl, rfl, q _ H (Same.refl H) (.int _)⟩
theorem ro_cmp {g : Int → Int → Bool} {a b : Int} : RO K (rI0 fun i j => .bl (g i j)) (.int a) (.int b) (.bool (g a b)) := fun H x y hx hy Q q => by
  rw [at_int hx, at_int hy]
  exact ⟨a, b, rfl, rfl, q _ H (Same.refl H) (.bl _)⟩
theorem ro_intC {C : Int → Int → Prop} {g : Int → Int → Int} {a b : Int} (c : C a b) : RO K (rI C fun i j => .int (g i j)) (.int a) (.int b) (.int (g a b)) := fun H x y hx hy Q q => by
  rw [at_int hx, at_int hy]
  exact ⟨a, b, rfl, rfl, c, q _ H (Same.refl H) (.int _)⟩
/-! ### == of flat data -/
theorem dec_str {i j : PySem.Str} : decide (V.str i = V.str j) = decide (i = j) := by
  rw [Bool.eq_iff_iff]
  simp
theorem ro_eqI {a b : Int} : RO K rEq (.int a) (.int b) (.bool (a == b)) := fun H x y hx hy Q q => by
  rw [at_int hx, at_int hy]
  exact ⟨rfl, by rw [dec_int]; exact q _ H (Same.refl H) (.bl _)⟩
theorem ro_neI {a b : Int} : RO K rNe (.int a) (.int b) (.bool (!(a == b))) := fun H x y hx hy Q q => by
  rw [at_int hx, at_int hy]
  exact ⟨rfl, by rw [dec_int]; exact q _ H (Same.refl H) (.bl _)⟩
theorem ro_eqB {a b : Bool} : RO K rEq (.bool a) (.bool b) (.bool (a == b)) := fun H x y hx hy Q q => by
  rw [at_bl hx, at_bl hy]
  exact ⟨rfl, by rw [dec_bl]; exact q _ H (Same.refl H) (.bl _)⟩
theorem ro_neB {a b : Bool} : RO K rNe (.bool a) (.bool b) (.bool (!(a == b))) := fun H x y hx hy Q q => by
  rw [at_bl hx, at_bl hy]
  exact ⟨rfl, by rw [dec_bl]; exact q _ H (Same.refl H) (.bl _)⟩
theorem ro_eqS {a b : PySem.Str} : RO K rEq (.str a) (.str b) (.bool (decide (a = b))) := fun H x y hx hy Q q => by
  rw [at_str hx, at_str hy]
  exact ⟨rfl, by rw [dec_str]; exact q _ H (Same.refl H) (.bl _)⟩
theorem ro_neS {a b : PySem.Str} : RO K rNe (.str a) (.str b) (.bool (!decide (a = b))) := fun H x y hx hy Q q => by
  rw [at_str hx, at_str hy]
  exact ⟨rfl, by rw [dec_str]; exact q _ H (Same.refl H) (.bl _)⟩
/-! ### == of data -/
theorem ro_eqD {d e : PyData} (sd : SeqAt.shaped d = true) (se : SeqAt.shaped e = true) : RO K (rEqD K) d e (.bool (PyData.eqv d e)) := fun H x y hx hy Q q =>
  ⟨d, e, hx.dp, hy.dp, sd, se, q _ H (Same.refl H) (.bl _)⟩
theorem ro_neD {d e : PyData} (sd : SeqAt.shaped d = true) (se : SeqAt.shaped e = true) : RO K (rNeD K) d e (.bool (!PyData.eqv d e)) := fun H x y hx hy Q q =>
  ⟨d, e, hx.dp, hy.dp, sd, se, q _ H (Same.refl H) (.bl _)⟩
theorem ro_eq0 {ds : List PyData} : RO K (rEq0 K) (.list ds) (.list []) (.bool ds.isEmpty) := fun H x y hx hy Q q => by
  cases hx with
  | lst h1 r1 =>
    cases hy with
    | lst h2 r2 =>
      rename_i xs _ ys
      cases r2
      refine ⟨_, _, xs, rfl, rfl, SqL.of h1, SqL.of h2, ?_⟩
      have e : xs.isEmpty = ds.isEmpty := by cases r1 <;> rfl
      rw [e]
      exact q _ H (Same.refl H) (.bl _)
theorem ro_ne0 {ds : List PyData} : RO K (rNe0 K) (.list ds) (.list []) (.bool (!ds.isEmpty)) := fun H x y hx hy Q q => by
  cases hx with
  | lst h1 r1 =>
    cases hy with
    | lst h2 r2 =>
      rename_i xs _ ys
      cases r2
      refine ⟨_, _, xs, rfl, rfl, SqL.of h1, SqL.of h2, ?_⟩
      have e : xs.isEmpty = ds.isEmpty := by cases r1 <;> rfl
      rw [e]
      exact q _ H (Same.refl H) (.bl _)
/-! ### in -/
theorem inV_ints (a : Int) : ∀ ns : List Int, inV (.int a) (ns.map V.int) = has ns a
  | [] => by simp [inV, has]
  | n :: ns => by
    have ih := inV_ints a ns
    unfold inV at ih ⊢
    rw [List.map_cons, List.any_cons, ih]
    unfold has
    rw [Bool.eq_iff_iff]
    simp [eqV]
    constructor
    · rintro (h | h)
      · exact .inl h.symm
      · exact .inr h
    · rintro (h | h)
      · exact .inl h.symm
      · exact .inr h
theorem inV_strs (a : PySem.Str) : ∀ ns : List PySem.Str, inV (.str a) (ns.map V.str) = decide (a ∈ ns)
  | [] => by simp [inV]
  | n :: ns => by
    have ih := inV_strs a ns
    unfold inV at ih ⊢
    rw [List.map_cons, List.any_cons, ih]
    rw [Bool.eq_iff_iff]
    simp [eqV]
    constructor
    · rintro (h | h)
      · exact .inl h.symm
      · exact .inr h
    · rintro (h | h)
      · exact .inl h.symm
      · exact .inr h
theorem flat_ints (ns : List Int) : (ns.map V.int).all flatV = true := by
  rw [List.all_eq_true]
  intro v hv
  obtain ⟨n, _, rfl⟩ := List.mem_map.mp hv
  rfl
theorem flat_strs (ns : List PySem.Str) : (ns.map V.str).all flatV = true := by
  rw [List.all_eq_true]
  intro v hv
  obtain ⟨n, _, rfl⟩ := List.mem_map.mp hv
  rfl
theorem ro_inL {a : Int} {ns : List Int} {neg : Bool} : RO K (rIn K neg) (.int a) (lI ns) (.bool (if neg then !has ns a else has ns a)) := fun H x y hx hy Q q => by
  obtain ⟨p, rfl, hp⟩ := at_lI hy
  rw [at_int hx]
  exact ⟨p, _, rfl, .inl (SqL.of hp), rfl, flat_ints ns, by rw [inV_ints]; exact q _ H (Same.refl H) (.bl _)⟩
theorem ro_inT' {a : Int} {ns : List Int} {neg : Bool} : RO K (rIn K neg) (.int a) (tI ns) (.bool (if neg then !has ns a else has ns a)) := fun H x y hx hy Q q => by
  obtain ⟨p, rfl, hp⟩ := at_tI hy
  rw [at_int hx]
  exact ⟨p, _, rfl, .inr hp, rfl, flat_ints ns, by rw [inV_ints]; exact q _ H (Same.refl H) (.bl _)⟩
theorem ro_in1 {a : Int} {ns : List Int} : RO K (rIn K false) (.int a) (tI ns) (.bool (has ns a)) := ro_inT' (neg := false)
theorem ro_no1 {a : Int} {ns : List Int} : RO K (rIn K true) (.int a) (tI ns) (.bool (!has ns a)) := ro_inT' (neg := true)
theorem ro_in2 {a : Int} {ns : List Int} : RO K (rIn K false) (.int a) (lI ns) (.bool (has ns a)) := ro_inL (neg := false)
theorem ro_no2 {a : Int} {ns : List Int} : RO K (rIn K true) (.int a) (lI ns) (.bool (!has ns a)) := ro_inL (neg := true)
theorem ro_inSL {a : PySem.Str} {ns : List PySem.Str} {neg : Bool} : RO K (rIn K neg) (.str a) (.list (ns.map PyData.str)) (.bool (if neg then !decide (a ∈ ns) else decide (a ∈ ns))) := fun H x y hx hy Q q => by
  rw [at_str hx]
  cases hy with
  | lst h r =>
    rw [of_strs r] at h
    exact ⟨_, _, rfl, .inl (SqL.of h), rfl, flat_strs ns, by rw [inV_strs]; exact q _ H (Same.refl H) (.bl _)⟩
theorem ro_inST {a : PySem.Str} {ns : List PySem.Str} {neg : Bool} : RO K (rIn K neg) (.str a) (.tuple (ns.map PyData.str)) (.bool (if neg then !decide (a ∈ ns) else decide (a ∈ ns))) := fun H x y hx hy Q q => by
  rw [at_str hx]
  cases hy with
  | tup h r =>
    rw [of_strs r] at h
    exact ⟨_, _, rfl, .inr h, rfl, flat_strs ns, by rw [inV_strs]; exact q _ H (Same.refl H) (.bl _)⟩
/-! ### + -/
theorem ro_cat {ds es : List PyData} (h : ds.length + es.length ≤ 100000) : RO K rCat (.list ds) (.list es) (.list (ds ++ es)) := fun H x y hx hy Q q => by
  cases hx with
  | lst h1 r1 =>
    cases hy with
    | lst h2 r2 =>
      exact ⟨_, _, _, _, rfl, rfl, h1, h2, by rw [r1.len, r2.len]; exact Nat.le_trans h (by decide), fun p hp => q _ _ (same_new hp) (.lst upd_same ((r1.app r2).mono (same_new hp)))⟩
theorem ro_catA {ds es : List PyData} (h : ds.length + es.length ≤ 100000) : RO K (rCatA K) (.tuple ds) (.tuple es) (.tuple (ds ++ es)) := fun H x y hx hy Q q => by
  cases hx with
  | tup h1 r1 =>
    cases hy with
    | tup h2 r2 =>
      refine ⟨_, _, _, _, rfl, rfl, h1, h2, by rw [r1.len, r2.len]; exact Nat.le_trans h (by decide), fun e => ?_, fun _ e => ?_, fun _ _ p hp => q _ _ (same_new hp) (.tup (.inl (.inl upd_same)) ((r1.app r2).mono (same_new hp)))⟩
      · subst e
        cases r1
        exact q _ H (Same.refl H) (.tup h2 r2)
      · subst e
        cases r2
        exact q _ H (Same.refl H) (by rw [List.append_nil]; exact .tup h1 r1)
theorem ats_rep {H : Hp} {vs : List V} {ds : List PyData} (h : Ats K H vs ds) : ∀ n, Ats K H (List.replicate n vs).flatten (List.replicate n ds).flatten
  | 0 => .nil
  | n + 1 => by
    rw [List.replicate_succ, List.replicate_succ, List.flatten_cons, List.flatten_cons]
    exact h.app (ats_rep h n)
theorem ro_rep {ds : List PyData} {k : Nat} (h : ds.length * k ≤ 100000) (hk : k ≤ 100000) : RO K rRep (.list ds) (.int (k : Nat)) (.list (List.replicate k ds).flatten) := fun H x y hx hy Q q => by
  rw [at_int hy]
  cases hx with
  | lst h1 r1 =>
    refine ⟨_, (k : Int), _, rfl, rfl, h1, by omega, by omega, ?_, fun p hp => q _ _ (same_new hp) (.lst upd_same ?_)⟩
    · rw [r1.len, Int.toNat_natCast]
      exact Nat.le_trans h (by decide)
    · rw [Int.toNat_natCast]
      exact (ats_rep r1 k).mono (same_new hp)
theorem ro_addS {a b : PySem.Str} (h : a.length + b.length ≤ 100000) : RO K (fun x y H Q => ∃ i j, x = .str i ∧ y = .str j ∧ i.length + j.length ≤ sizeLine ∧ Q (.str (i ++ j)) H) (.str a) (.str b) (.str (a ++ b)) := fun H x y hx hy Q q => by
  rw [at_str hx, at_str hy]
  exact ⟨a, b, rfl, rfl, Nat.le_trans h (by decide), q _ H (Same.refl H) (.str _)⟩
/-! ### x[i] -/
theorem ro_ixL {ds : List PyData} {i : Int} {d : PyData} {k : Nat} (e : i = (k : Int)) (h : ds[k]? = some d) : RO K (rIxL K) (.list ds) (.int i) d := fun H x y hx hy Q q => by
  rw [at_int hy]
  cases hx with
  | lst h1 r1 =>
    obtain ⟨v, hv, av⟩ := r1.get h
    exact ⟨_, _, i, v, rfl, rfl, SqL.of h1, by rw [e]; exact atI_nat hv, q _ H (Same.refl H) av⟩
theorem ro_ixT {ds : List PyData} {i : Int} {d : PyData} {k : Nat} (e : i = (k : Int)) (h : ds[k]? = some d) : RO K (rIxT K) (.tuple ds) (.int i) d := fun H x y hx hy Q q => by
  rw [at_int hy]
  cases hx with
  | tup h1 r1 =>
    obtain ⟨v, hv, av⟩ := r1.get h
    exact ⟨_, _, i, v, rfl, rfl, h1, by rw [e]; exact atI_nat hv, q _ H (Same.refl H) av⟩
theorem ro_ix0 {d : PyData} {ds : List PyData} : RO K (rIxT K) (.tuple (d :: ds)) (.int 0) d := ro_ixT (k := 0) rfl rfl
theorem ro_ix1 {c d : PyData} {ds : List PyData} : RO K (rIxT K) (.tuple (c :: d :: ds)) (.int 1) d := ro_ixT (k := 1) rfl rfl
theorem ro_ixl0 {d : PyData} {ds : List PyData} : RO K (rIxL K) (.list (d :: ds)) (.int 0) d := ro_ixL (k := 0) rfl rfl
theorem ro_ixl1 {c d : PyData} {ds : List PyData} : RO K (rIxL K) (.list (c :: d :: ds)) (.int 1) d := ro_ixL (k := 1) rfl rfl
theorem Ats.snoc_inv {H : Hp} : ∀ {vs : List V} {ds : List PyData} {d : PyData}, Ats K H vs (ds ++ [d]) → ∃ us v, vs = us ++ [v] ∧ Ats K H us ds ∧ At K H v d
  | _, [], _, .cons a r => by
    cases r
    exact ⟨[], _, rfl, .nil, a⟩
  | _, _ :: _, _, .cons a r => by
    obtain ⟨us, v, rfl, h1, h2⟩ := Ats.snoc_inv r
    exact ⟨_ :: us, v, rfl, .cons a h1, h2⟩
theorem ro_ixLast {ds : List PyData} {d : PyData} : RO K (rIxL K) (.list (ds ++ [d])) (.int (-1)) d := fun H x y hx hy Q q => by
  rw [at_int hy]
  cases hx with
  | lst h1 r1 =>
    obtain ⟨us, v, rfl, _, av⟩ := r1.snoc_inv
    exact ⟨_, _, -1, v, rfl, rfl, SqL.of h1, atI_last us v, q _ H (Same.refl H) av⟩
/-! ### calls -/
theorem rc_lenL {ds : List PyData} : RC K (fun xs H Q => ∃ p ys, xs = [.ref p] ∧ (SqL K H p ys ∨ SqT K H p ys) ∧ Q (.int ys.length) H) [.list ds] (.int ds.length) := fun H vs hv Q q => by
  cases hv with
  | cons a r =>
    cases r
    cases a with
    | lst h r =>
      refine ⟨_, _, rfl, .inl (SqL.of h), ?_⟩
      rw [r.len]
      exact q _ H (Same.refl H) (.int _)
theorem rc_lenT {ds : List PyData} : RC K (fun xs H Q => ∃ p ys, xs = [.ref p] ∧ (SqL K H p ys ∨ SqT K H p ys) ∧ Q (.int ys.length) H) [.tuple ds] (.int ds.length) := fun H vs hv Q q => by
  cases hv with
  | cons a r =>
    cases r
    cases a with
    | tup h r =>
      refine ⟨_, _, rfl, .inr h, ?_⟩
      rw [r.len]
      exact q _ H (Same.refl H) (.int _)
theorem rc_tup {ds : List PyData} : RC K (fun xs H Q => ∃ p ys, xs = [.ref p] ∧ ((SqL K H p ys ∧ ∀ l, H l = none → Q (.ref l) (L2.upd H l (.tup ys))) ∨ (SqT K H p ys ∧ Q (.ref p) H))) [.list ds] (.tuple ds) := fun H vs hv Q q => by
  cases hv with
  | cons a r =>
    cases r
    cases a with
    | lst h r => exact ⟨_, _, rfl, .inl ⟨SqL.of h, fun l hl => q _ _ (same_new hl) (.tup (.inl (.inl upd_same)) (r.mono (same_new hl)))⟩⟩
theorem rc_list {ds : List PyData} : RC K (fun xs H Q => ∃ p ys, xs = [.ref p] ∧ (SqL K H p ys ∨ SqT K H p ys) ∧ ∀ l, H l = none → Q (.ref l) (L2.upd H l (.lst ys))) [.tuple ds] (.list ds) := fun H vs hv Q q => by
  cases hv with
  | cons a r =>
    cases r
    cases a with
    | tup h r => exact ⟨_, _, rfl, .inr h, fun l hl => q _ _ (same_new hl) (.lst upd_same (r.mono (same_new hl)))⟩
theorem srt_eq {ns ms xs : List Int} (hn : ns.Nodup) (h1 : xs.Perm ns) (h2 : xs.Pairwise (· ≤ ·)) (h3 : ms.Pairwise (· < ·)) (h4 : ∀ k, k ∈ ms ↔ k ∈ ns) : xs = ms := by
  refine asc_ext ?_ h3 fun k => by rw [h4, h1.mem_iff]
  have hx : xs.Nodup := h1.nodup_iff.mpr hn
  exact (List.pairwise_and_iff.mpr ⟨h2, hx⟩).imp fun ⟨a, b⟩ => by omega
theorem rc_srt {ns ms : List Int} (hn : ns.Nodup) (hl : ns.length < 64) (h3 : ms.Pairwise (· < ·)) (h4 : ∀ k, k ∈ ms ↔ k ∈ ns) : RC K (rSorted K) [lI ns] (lI ms) := fun H vs hv Q q => by
  cases hv with
  | cons a r =>
    cases r
    obtain ⟨p, rfl, hp⟩ := at_lI a
    refine ⟨p, ns, rfl, SqL.of hp, hl, fun xs l g1 g2 hn' => ?_⟩
    rw [srt_eq hn g1 g2 h3 h4]
    exact q _ _ (same_new hn') (lI_at upd_same)
theorem rc_srtT {ns ms : List Int} (hn : ns.Nodup) (hl : ns.length < 64) (h3 : ms.Pairwise (· < ·)) (h4 : ∀ k, k ∈ ms ↔ k ∈ ns) : RC K (rSrtT K) [tI ns] (lI ms) := fun H vs hv Q q => by
  cases hv with
  | cons a r =>
    cases r
    obtain ⟨p, rfl, hp⟩ := at_tI a
    refine ⟨p, ns, rfl, hp, hl, fun xs l g1 g2 hn' => ?_⟩
    rw [srt_eq hn g1 g2 h3 h4]
    exact q _ _ (same_new hn') (lI_at upd_same)
/-- sorted(set(e)) -/
theorem ev_sset {w : World} {ns ms : List Int} (h : Ev K te σ H (lI ns)) (hl : ns.length < 64) (h3 : ms.Pairwise (· < ·)) (h4 : ∀ k, k ∈ ms ↔ k ∈ ns) : Ev K (tCB (rSortedSet w) (tCons (tCB (rSetL K w) (tCons te tNil)) tNil)) σ H (lI ms) := fun H1 e Q q =>
  h H1 e _ fun v H2 e2 av => by
    obtain ⟨p, rfl, hp⟩ := at_lI av
    refine ⟨p, ns, rfl, SqL.of hp, by omega, fun s c hc hs => ⟨s, _, c, rfl, upd_same, by omega, fun xs l g1 g2 g3 hl => ?_⟩⟩
    have e3 : xs = ms := asc_ext g1 h3 fun k => by rw [h4, g2, decide_eq_true_iff]
    subst e3
    exact q _ _ ((e2.trans (same_new hs)).trans (same_new hl)) (lI_at upd_same)
theorem small_log {i : Int} (h0 : 0 ≤ i) (h : i < 100000) : i.natAbs.log2 < 1920 := by
  rcases Nat.eq_zero_or_pos i.natAbs with z | z
  · rw [z]; decide
  · exact (Nat.log2_lt (by omega)).mpr (Nat.lt_of_lt_of_le (show i.natAbs < 2 ^ 17 by omega) (Nat.pow_le_pow_right (by decide) (by decide)))
theorem rc_str {i : Int} (h0 : 0 ≤ i) (h : i < 100000) : RC K (fun xs H Q => ∃ i, xs = [.int i] ∧ i.natAbs.log2 < 1920 ∧ Q (.str (toString i)) H) [.int i] (.str (toString i)) := fun H vs hv Q q => by
  cases hv with
  | cons a r =>
    cases r
    cases a
    exact ⟨i, rfl, small_log h0 h, q _ H (Same.refl H) (.str _)⟩
theorem rc_int {i : Int} : RC K (fun xs H Q => (∃ i, xs = [.int i] ∧ Q (.int i) H) ∨ ∃ k, xs = [.bl k] ∧ Q (.int (if k then 1 else 0)) H) [.int i] (.int i) := fun H vs hv Q q => by
  cases hv with
  | cons a r =>
    cases r
    cases a
    exact .inl ⟨i, rfl, q _ H (Same.refl H) (.int _)⟩
theorem rc_intS {a : PySem.Str} {n : Int} (h : PySem.intText? a = some n) (hl : a.length ≤ 640) : RC K (fun xs H Q => ∃ a n, xs = [.str a] ∧ PySem.intText? a = some n ∧ a.length ≤ 640 ∧ Q (.int n) H) [.str a] (.int n) := fun H vs hv Q q => by
  cases hv with
  | cons x r =>
    cases r
    cases x
    exact ⟨a, n, rfl, h, hl, q _ H (Same.refl H) (.int _)⟩
/-! ### the first of a list -/
theorem ev_first {ds : List PyData} (h : Ev K te σ H (.list ds)) : Ev K (tSl (rSlL K) te tNoPart (tPart (tC (.int 1)))) σ H (.list (ds.take 1)) := fun H1 e Q q =>
  h H1 e _ fun v H2 e2 av => by
    cases av with
    | lst hs r =>
      rename_i a xs
      refine ⟨1, rfl, a, xs, rfl, SqL.of hs, fun p hp => ?_⟩
      have ec : cutV xs none (some 1) = xs.take 1 := by
        cases xs with
        | nil => rfl
        | cons x xs =>
          have h0 : HT.sIx (x :: xs).length 0 none = 0 := rfl
          have h1 : HT.sIx (x :: xs).length (x :: xs).length (some 1) = 1 := by
            unfold HT.sIx
            simp
          unfold cutV
          rw [h0, h1]
          rfl
      rw [ec]
      exact q _ _ (e2.trans (same_new hp)) (.lst upd_same ((r.take 1).mono (same_new hp)))
end
end Hd
set_option Elab.async false
set_option linter.all false
set_option maxRecDepth 100000
set_option maxHeartbeats 4000000
/-! Handons: callees, names, the plain defs of the text, walked. -/
namespace Hd
open PySem PySem.Spec PyProof.Rows L2
def top (i : Nat) : Stmt := PySem.Challenge.pw_handons_k63_whole_desks.main.body.getD i (.Pass ⟨0, 0, 0, 0⟩)
abbrev FnP (K : PySem.W.Frag) (x : PySem.Str) (st : Stmt) (f : Addr) (fd : FuncData) : Prop := FunD K x x (defArgs st) (defBody st) (defScope st) [] [] f fd
/-- a def of the top that keeps a promise -/
def Cal (P : Program) (w : World) (K : PySem.W.Frag) (mg : PySem.Str → Option Value) (base : Heap) (k : Nat) (x : PySem.Str) (ps : List PySem.Str) (sp : Sp) : Prop :=
  ∃ f fd, FnOk P w K mg base CX0 k f fd ps sp ∧ mg x = some (.ref f) ∧ PySem.W.keepIn K (.ref f) = true ∧ Binds K fd ps []
theorem Cal.call {X : Cx} {k j : Nat} {x : PySem.Str} {ps : List PySem.Str} {sp : Sp} {e : Expr} {es : List Expr} {t : TA} {p pos : Pos} (C : Cal X.prog X.w X.K X.mg X.base k x ps sp) (hr : Room j X.A) (hg : Gl X x) (ha : PA X (e :: es) t) (hx : Passes CX0 X E0) (hk : k ≤ j := by decide)
    (hdb : (x == ("__debug__" : PySem.Str)) = false := by decide) (he : starEach (e :: es) X.env = (false, eval e X.env) :: starEach es X.env := by rfl) (hpl : (backTo pos (starEach es X.env)).any (·.1) = false := by rfl) :
    PE X (.Call (.Name x p) (e :: es) [] pos) (tCall sp [] E0 t) := by
  obtain ⟨f, fd, F, hm, kp, b⟩ := C
  exact pe_call F (hr.mono hk) hg hm kp b .nil hx ha hdb he hpl
/-- the built-in names -/
structure Fre (mg : PySem.Str → Option Value) : Prop where
  f_len : mg "len" = none
  f_range : mg "range" = none
  f_tuple : mg "tuple" = none
  f_list : mg "list" = none
  f_sorted : mg "sorted" = none
  f_set : mg "set" = none
  f_min : mg "min" = none
  f_str : mg "str" = none
  f_int : mg "int" = none
  f_bool : mg "bool" = none
  f_dict : mg "dict" = none
  f_isinstance : mg "isinstance" = none
  f_enumerate : mg "enumerate" = none
section
variable {X : Cx} {pos : Pos}
theorem Fre.n_int (T : Fre X.mg) (hg : Gl X "int" := by rfl) : PE X (.Name "int" pos) (tC (.ty "int")) := pe_bltn hg T.f_int (by decide +kernel) rfl
theorem Fre.n_bool (T : Fre X.mg) (hg : Gl X "bool" := by rfl) : PE X (.Name "bool" pos) (tC (.ty "bool")) := pe_bltn hg T.f_bool (by decide +kernel) rfl
theorem Fre.n_tuple (T : Fre X.mg) (hg : Gl X "tuple" := by rfl) : PE X (.Name "tuple" pos) (tC (.ty "tuple")) := pe_bltn hg T.f_tuple (by decide +kernel) rfl
theorem Fre.n_list (T : Fre X.mg) (hg : Gl X "list" := by rfl) : PE X (.Name "list" pos) (tC (.ty "list")) := pe_bltn hg T.f_list (by decide +kernel) rfl
theorem Fre.n_str (T : Fre X.mg) (hg : Gl X "str" := by rfl) : PE X (.Name "str" pos) (tC (.ty "str")) := pe_bltn hg T.f_str (by decide +kernel) rfl
end
/-! ### rules whose reading names the written part: K said -/
section
variable {X : Cx} {K : PySem.W.Frag}
theorem k_in (e : X.K = K) : OpR X (compareOp .In) (rIn K false) := by subst e; exact op_in_seq
theorem k_no (e : X.K = K) : OpR X (compareOp .NotIn) (rIn K true) := by subst e; exact op_notIn_seq
theorem k_inT (e : X.K = K) (hu : X.A.units + 65 < cLine) : OpR X (compareOp .In) (rInT K) := by subst e; exact op_inT hu
theorem k_inD (e : X.K = K) (hu : X.A.units + 65 < cLine) : OpR X (compareOp .In) (rInD K) := by subst e; exact op_inD hu
theorem k_eqD (e : X.K = K) (hu : X.A.units + 64 < cLine) : OpR X (compareOp .Eq) (rEqD K) := by subst e; exact op_eqD hu
theorem k_neD (e : X.K = K) (hu : X.A.units + 64 < cLine) : OpR X (compareOp .NotEq) (rNeD K) := by subst e; exact op_neD hu
theorem k_eq0 (e : X.K = K) (hu : X.A.units + 1 < cLine) : OpR X (compareOp .Eq) (rEq0 K) := by subst e; exact op_eq0 hu
theorem k_ne0 (e : X.K = K) (hu : X.A.units + 1 < cLine) : OpR X (compareOp .NotEq) (rNe0 K) := by subst e; exact op_ne0 hu
theorem k_ixt (e : X.K = K) : IxR X (rIxT K) := by subst e; exact ix_tup
theorem k_ixl (e : X.K = K) : IxR X (rIxL K) := by subst e; exact ix_list
end
/-! ### webs -/
abbrev prD (p : Int × Int) : PyData := .tuple [.int p.1, .int p.2]
abbrev webD (n : Nat) (A : List (Int × Int)) : PyData := .tuple [.int n, .tuple (A.map prD)]
section
variable {P : Program} {w : World} {K : PySem.W.Frag} {mg : PySem.Str → Option Value} {base : Heap} {f : Addr} {fd : FuncData}
/-- THE RULE for a def that answers by data -/
theorem okG {x : PySem.Str} {st : Stmt} {N ps : List PySem.Str} {k : Nat} {R : List PyData → PyData → Prop} (F : FnP K x st f fd) (S : FnScope N ps (defScope st)) (hl : ∀ ds z, R ds z → ds.length = ps.length)
    (hb : ∀ (cdv : Value) (A : Around) (outer : List Env) (s : Shared) (H : Hp) (vs : List V) (Q : VK) (E : XK), Room k (A.deeper (envOfC x (defScope st) s.heap.objs.size f cdv)) → ∀ ds z, R ds z → Ats K H vs ds → (∀ v H2, Same H H2 → At K H2 v z → Q v H2) →
      ∃ t, PSs (cxOf CX0 P w K mg base N x (defScope st) f cdv A outer s H E).nox (defBody st) t ∧ t { nx := fun _ H' => Q .non H', rt := Q } (start N vs) H) : FnOk P w K mg base CX0 (k + 1) f fd ps (spG K R) :=
  F.ok S (fun vs H Q E ⟨ds, z, hR, hv, _⟩ => hv.len.trans (hl ds z hR)) fun cdv A outer s H vs Q E hr ⟨ds, z, hR, hv, q⟩ => by
    obtain ⟨t, h1, h2⟩ := hb cdv A outer s H vs Q E hr ds z hR hv q
    exact ⟨t, h1.nox, h2⟩
end
section
variable {K : PySem.W.Frag} {σ : L2.St} {H : Hp} {te : TE} {a b c d : PyData} {vs : List V}
theorem ats1 (h : Ats K H vs [a]) : ∃ v, vs = [v] ∧ At K H v a := by
  cases h with
  | cons h1 r => cases r; exact ⟨_, rfl, h1⟩
theorem ats2 (h : Ats K H vs [a, b]) : ∃ v1 v2, vs = [v1, v2] ∧ At K H v1 a ∧ At K H v2 b := by
  cases h with
  | cons h1 r => obtain ⟨v2, rfl, h2⟩ := ats1 r; exact ⟨_, _, rfl, h1, h2⟩
theorem ats3 (h : Ats K H vs [a, b, c]) : ∃ v1 v2 v3, vs = [v1, v2, v3] ∧ At K H v1 a ∧ At K H v2 b ∧ At K H v3 c := by
  cases h with
  | cons h1 r => obtain ⟨v2, v3, rfl, h2, h3⟩ := ats2 r; exact ⟨_, _, _, rfl, h1, h2, h3⟩
theorem ats4 (h : Ats K H vs [a, b, c, d]) : ∃ v1 v2 v3 v4, vs = [v1, v2, v3, v4] ∧ At K H v1 a ∧ At K H v2 b ∧ At K H v3 c ∧ At K H v4 d := by
  cases h with
  | cons h1 r => obtain ⟨v2, v3, v4, rfl, h2, h3, h4⟩ := ats3 r; exact ⟨_, _, _, _, rfl, h1, h2, h3, h4⟩
/-! ### isinstance -/
def tyN : PyData → String
  | .none => "NoneType" | .bool _ => "bool" | .int _ => "int" | .str _ => "str" | .list _ => "list" | .tuple _ => "tuple" | .dict _ => "dict"
theorem at_ty {v : V} (h : At K H v d) : TyX K H v (.type (tyN d)) := by
  cases h with
  | non => exact .base .non
  | bl b => exact .base (.bl b)
  | int i => exact .base (.int i)
  | str x => exact .base (.str x)
  | lst h _ => exact .base (.lst h)
  | tup h _ =>
    rcases h with (h | ⟨o, h⟩) | ⟨o, its, n, h, hc, _⟩
    · exact .base (.tup h)
    · exact .fTuple h
    · exact .kTuple h hc
theorem ev_isi {T : String} {r : Bool} (h : Ev K te σ H d) (hk : kitB (tyN d) T = some r) : Ev K (tCB (rIsi K) (tCons te (tCons (tC (.ty T)) tNil))) σ H (.bool r) := fun H1 e Q q => h H1 e _ fun v H2 e2 av =>
  ⟨v, .ty T, _, _, r, rfl, .ty T, at_ty av, kit_ty hk, q _ H2 e2 (.bl r)⟩
/-- isinstance(e, (S, T)) -/
theorem ev_isi2 {S T : String} {r1 r2 : Bool} (h : Ev K te σ H d) (h1 : kitB (tyN d) S = some r1) (h2 : kitB (tyN d) T = some r2) : Ev K (tCB (rIsiT K) (tCons te (tCons (tTup (tCons (tC (.ty S)) (tCons (tC (.ty T)) tNil))) tNil))) σ H (.bool (r1 || r2)) := fun H1 e Q q => h H1 e _ fun v H2 e2 av => by
  refine ⟨by show 2 ≤ sizeLine; decide, fun p hp => ⟨v, p, _, _, _, r1 || r2, rfl, upd_same, .cons (.ty S) (.cons (.ty T) .nil), at_ty (av.mono (same_new hp)), ?_, q _ _ (e2.trans (same_new hp)) (.bl _)⟩⟩
  refine kitAny_cons (kit_ty h1) (fun e1 => ?_) fun e1 => by rw [e1]; rfl
  rw [e1, Bool.false_or]
  exact kitAny_cons (kit_ty h2) (fun e2 => by rw [e2]; rfl) id
/-! ### a walk over enumerate(t) -/
def enD (ds : List PyData) : List PyData := ds.mapIdx fun i d => .tuple [.int (i : Nat), d]
theorem ei_enT {ds : List PyData} (h : Ev K te σ H (.tuple ds)) : EvI K (iEnT K (tCons te tNil)) σ H (enD ds) := fun H1 e R q => h H1 e _ fun v H2 e2 av => by
  cases av with
  | tup hs r =>
    rename_i a xs
    refine ⟨a, xs, rfl, hs, q _ H2 e2 fun H3 e3 => ⟨fun i h1 h2 => ?_, fun i d hd => ?_⟩⟩
    · unfold enD at h1 h2
      rw [List.length_mapIdx] at h1 h2
      exact ⟨xs, same_t e3 hs, by rw [r.len]; omega⟩
    · unfold enD at hd
      rw [List.getElem?_mapIdx] at hd
      cases hz : ds[i]? with
      | none => rw [hz] at hd; cases hd
      | some z =>
        rw [hz] at hd
        obtain rfl : PyData.tuple [.int (i : Nat), z] = d := Option.some.inj hd
        obtain ⟨u, hu, au⟩ := r.get hz
        refine ⟨⟨xs, u, same_t e3 hs, hu⟩, fun x H4 y => ?_⟩
        obtain ⟨T, x', rfl, hT, rfl, hx'⟩ := y
        have hx := hx' xs (same_t e3 hs)
        rw [hu] at hx
        cases hx
        exact ⟨same_new hT, .tup (.inl (.inl upd_same)) (.cons (.int _) (.cons (au.mono (e3.trans (same_new hT))) .nil))⟩
theorem enD_get {ds : List PyData} {i : Nat} {d : PyData} (h : (enD ds)[i]? = some d) : ∃ z, ds[i]? = some z ∧ d = .tuple [.int (i : Nat), z] := by
  unfold enD at h
  rw [List.getElem?_mapIdx] at h
  cases hz : ds[i]? with
  | none => rw [hz] at h; cases h
  | some z => rw [hz] at h; exact ⟨z, rfl, (Option.some.inj h).symm⟩
theorem enD_len (ds : List PyData) : (enD ds).length = ds.length := by unfold enD; rw [List.length_mapIdx]
end
end Hd
set_option Elab.async false
set_option linter.all false
set_option maxRecDepth 100000
set_option maxHeartbeats 4000000
/-! Handons: the plain defs, 1. -/
namespace Hd
open PySem PySem.Spec PyProof.Rows L2
/-! ### mathematics -/
def ar (A : List (Int × Int)) : Int → Int → Bool := fun j k => decide ((j, k) ∈ A)
def lexl (p q : Int × Int) : Prop := p.1 < q.1 ∨ (p.1 = q.1 ∧ p.2 < q.2)
structure Wb (n : Nat) (A : List (Int × Int)) : Prop where
  n1 : 1 ≤ n
  n5 : n ≤ 5
  up : ∀ p ∈ A, 0 ≤ p.1 ∧ p.1 < p.2 ∧ p.2 < n
  asc : A.Pairwise lexl
  len : A.length ≤ 30
theorem ar_iff {A : List (Int × Int)} {j k : Int} : ar A j k = true ↔ (j, k) ∈ A := by simp [ar]
theorem Wb.ar {n : Nat} {A : List (Int × Int)} (h : Wb n A) : Up n (ar A) := fun j k e => h.up _ (ar_iff.mp e)
def lightP (n : Nat) (a : Int → Int → Bool) (p : Pr) : Pr := fun k => !p k && !ex n fun j => a j k && !p j
def quenchP (n : Nat) (a : Int → Int → Bool) (p : Pr) : Pr := fun k => p k && !ex n fun j => a k j && !p j
theorem has_barred {n : Nat} {A : List (Int × Int)} (h : Wb n A) (p : Pr) (k : Int) : has ((A.filter fun q => !p q.1).map fun q => q.2) k = ex n fun j => ar A j k && !p j := by
  rw [Bool.eq_iff_iff, has_iff, ex_iff, List.mem_map]
  constructor
  · rintro ⟨q, hq, rfl⟩
    obtain ⟨hq, hp⟩ := List.mem_filter.mp hq
    have u := h.up q hq
    exact ⟨q.1, ⟨by omega, by omega⟩, by rw [Bool.and_eq_true]; exact ⟨ar_iff.mpr hq, hp⟩⟩
  · rintro ⟨j, _, hj⟩
    rw [Bool.and_eq_true] at hj
    exact ⟨(j, k), List.mem_filter.mpr ⟨ar_iff.mp hj.1, hj.2⟩, rfl⟩
theorem has_barred2 {n : Nat} {A : List (Int × Int)} (h : Wb n A) (p : Pr) (k : Int) : has ((A.filter fun q => !p q.2).map fun q => q.1) k = ex n fun j => ar A k j && !p j := by
  rw [Bool.eq_iff_iff, has_iff, ex_iff, List.mem_map]
  constructor
  · rintro ⟨q, hq, rfl⟩
    obtain ⟨hq, hp⟩ := List.mem_filter.mp hq
    have u := h.up q hq
    exact ⟨q.2, ⟨by omega, by omega⟩, by rw [Bool.and_eq_true]; exact ⟨ar_iff.mpr hq, hp⟩⟩
  · rintro ⟨j, _, hj⟩
    rw [Bool.and_eq_true] at hj
    exact ⟨(k, j), List.mem_filter.mpr ⟨ar_iff.mp hj.1, hj.2⟩, rfl⟩
theorem light_eq {n : Nat} {A : List (Int × Int)} (h : Wb n A) (b : List Int) : ((rng n).filter fun k => !has b k && !has ((A.filter fun q => !has b q.1).map fun q => q.2) k) = sel n (lightP n (ar A) (has b)) := by
  unfold Hd.sel
  refine List.filter_congr fun k _ => ?_
  rw [has_barred h]
  rfl
theorem quench_eq {n : Nat} {A : List (Int × Int)} {b : List Int} (h : Wb n A) (s : St n b) : (b.filter fun k => !has ((A.filter fun q => !has b q.2).map fun q => q.1) k) = sel n (quenchP n (ar A) (has b)) := by
  rw [s.filter_eq]
  refine sel_congr fun k _ _ => ?_
  rw [has_barred2 h]
  rfl
theorem sel_nodup (n : Nat) (p : Pr) : (sel n p).Nodup := (St.sel n p).nodup
theorem sel_len (n : Nat) (p : Pr) : (sel n p).length ≤ n := (St.sel n p).len
/-- two selections without common members, one behind the other -/
theorem app_nodup {n : Nat} {p q : Pr} (h : ∀ k, p k = true → q k = false) : (sel n p ++ sel n q).Nodup := by
  refine List.nodup_append.mpr ⟨sel_nodup n p, sel_nodup n q, fun a ha b hb e => ?_⟩
  subst e
  have := h a (mem_sel.mp ha).2
  rw [(mem_sel.mp hb).2] at this
  cases this
theorem mem_app {n : Nat} {p q : Pr} {k : Int} : k ∈ sel n (fun k => p k || q k) ↔ k ∈ sel n p ++ sel n q := by
  rw [List.mem_append, mem_sel, mem_sel, mem_sel, Bool.or_eq_true]
  constructor
  · rintro ⟨h, a | a⟩
    · exact .inl ⟨h, a⟩
    · exact .inr ⟨h, a⟩
  · rintro (⟨h, a⟩ | ⟨h, a⟩)
    · exact ⟨h, .inl a⟩
    · exact ⟨h, .inr a⟩
theorem doab_eq (n : Nat) (a : Int → Int → Bool) (p : Pr) : doab n a p = fun k => lightP n a p k || quenchP n a p k := rfl
theorem chg_out {n : Nat} {b : List Int} {k : Int} (s : St n b) (h : k ∈ b) : (b.filter fun j => !(j == k)) = sel n (chg (has b) k) := by
  rw [s.filter_eq]
  refine sel_congr fun j _ _ => ?_
  unfold chg
  by_cases e : j = k
  · rw [if_pos e, e, has_iff.mpr h]
    simp
  · rw [if_neg e]
    simp [e]
theorem chg_mem {n : Nat} {b : List Int} {k : Int} (s : St n b) (h : k ∉ b) (h0 : 0 ≤ k) (h1 : k < n) (j : Int) : j ∈ sel n (chg (has b) k) ↔ j ∈ b ++ [k] := by
  rw [mem_sel, List.mem_append, List.mem_singleton]
  unfold chg
  by_cases e : j = k
  · rw [if_pos e, e, has_false.mpr h]
    simp [h0, h1]
  · rw [if_neg e, has_iff]
    constructor
    · rintro ⟨_, hb⟩; exact .inl hb
    · rintro (hb | hb)
      · exact ⟨s.inr j hb, hb⟩
      · exact absurd hb e
theorem filter_yes {α : Type} (l : List α) : l.filter (fun _ => true) = l := List.filter_eq_self.mpr fun _ _ => rfl
/-- the text of a number -/
abbrev sI (k : Int) : PySem.Str := PySem.Str.ofString (toString k)
theorem sI_len {k : Int} (h0 : 0 ≤ k) (h1 : k < 10) : (sI k).length = 1 := by
  have : k = 0 ∨ k = 1 ∨ k = 2 ∨ k = 3 ∨ k = 4 ∨ k = 5 ∨ k = 6 ∨ k = 7 ∨ k = 8 ∨ k = 9 := by omega
  rcases this with h | h | h | h | h | h | h | h | h | h <;> subst h <;> decide +kernel
def lstS (ns : List Int) : PySem.Str := if ns.isEmpty then "none" else Txt.join " " (ns.map sI)
theorem ar_map {α : Type} (f : α → Int) (l : List α) : l.map (fun x => PyData.int (f x)) = (l.map f).map PyData.int := by rw [List.map_map]; rfl
section
variable {P : Program} {w : World} {K : PySem.W.Frag} {mg : PySem.Str → Option Value} {base : Heap} {f : Addr} {fd : FuncData}
theorem ro_leP {p q : Int × Int} (h : lexl q p) : RO K (rLeT K) (prD p) (prD q) (.bool false) := fun H x y hx hy Q k => by
  obtain ⟨a, rfl, ha⟩ := at_tI (ns := [p.1, p.2]) hx
  obtain ⟨b, rfl, hb⟩ := at_tI (ns := [q.1, q.2]) hy
  refine ⟨a, b, [p.1, p.2], [q.1, q.2], rfl, rfl, ha, hb, ?_⟩
  have e : Ob.lexAt (fun j => decide ([p.1, p.2].getD j 0 = [q.1, q.2].getD j 0)) (fun j => decide ([p.1, p.2].getD j 0 ≤ [q.1, q.2].getD j 0)) (decide ([p.1, p.2].length ≤ [q.1, q.2].length)) 0 (min [p.1, p.2].length [q.1, q.2].length) = false := by
    rcases (show q.1 < p.1 ∨ (q.1 = p.1 ∧ q.2 < p.2) from h) with h | ⟨h1, h2⟩
    · have a1 : ¬ p.1 = q.1 := by omega
      have a2 : ¬ p.1 ≤ q.1 := by omega
      simp [Ob.lexAt, a1, a2]
    · have a1 : p.1 = q.1 := h1.symm
      have a2 : ¬ p.2 = q.2 := by omega
      have a3 : ¬ p.2 ≤ q.2 := by omega
      simp [Ob.lexAt, a1, a2, a3]
  rw [e]
  exact k _ H (Same.refl H) (.bl _)
/-! ### is_in, is_arrow -/
theorem k_ii : kitB "int" "int" = some true := by decide +kernel
theorem k_ib : kitB "int" "bool" = some false := by decide +kernel
theorem k_tt : kitB "tuple" "tuple" = some true := by decide +kernel
def R_is_in : List PyData → PyData → Prop := fun ds z => ∃ i l m : Int, ds = [.int i, .int l, .int m] ∧ z = .bool (decide (l ≤ i) && decide (i ≤ m))
theorem sc_is_in : FnScope ["value", "least", "most"] ["value", "least", "most"] (defScope (top 9)) := ⟨rfl, rfl, rfl, by decide +kernel, rfl, by decide +kernel, by decide +kernel⟩
theorem ok_is_in (F : FnP K "is_in" (top 9) f fd) (T : Fre mg) : FnOk P w K mg base CX0 1 f fd ["value", "least", "most"] (spG K R_is_in) := by
  have nd := sc_is_in.nd
  refine okG F sc_is_in (fun ds z ⟨i, l, m, e, _⟩ => by rw [e]; rfl) fun cdv A outer s H vs Q E hr ds z hR hv q => ?_
  obtain ⟨i, l, m, rfl, rfl⟩ := hR
  obtain ⟨v1, v2, v3, rfl, h1, h2, h3⟩ := ats3 hv
  refine ⟨_, (pss_one (ps_ret (pe_and (pe_callB call_isi (by rfl) T.f_isinstance (by decide +kernel) (pa_cons (pv 0) (pa_cons (T.n_int) pa_nil))) (pe_and (pe_not (pe_callB call_isi (by rfl) T.f_isinstance (by decide +kernel) (pa_cons (pv 0) (pa_cons (T.n_bool) pa_nil)))) (pe_one (pe_chain op_le op_le (pv 1) (pv 0) (pv 2))))))), ?_⟩
  refine s_ret (ev_is (ev_andV (ev_isi (ev_var rfl h1) k_ii) fun _ => ev_andV (ev_notV (ev_isi (ev_var rfl h1) k_ib)) fun _ => ev_chain (ev_var rfl h2) (ev_var rfl h1) ro_cmp (fun _ => ev_var rfl h3) fun _ => ro_cmp) rfl) q
def R_is_arrow : List PyData → PyData → Prop := fun ds z => ∃ (p : Int × Int) (n : Int), ds = [prD p, .int n] ∧ (0 ≤ p.1 ∧ p.1 < p.2 ∧ p.2 < n) ∧ z = .bool true
theorem sc_is_arrow : FnScope ["value", "many", "one"] ["value", "many"] (defScope (top 12)) := ⟨rfl, rfl, rfl, by decide +kernel, rfl, by decide +kernel, by decide +kernel⟩
theorem ok_is_arrow (F : FnP K "is_arrow" (top 12) f fd) (T : Fre mg) (c_is_in : Cal P w K mg base 1 "is_in" ["value", "least", "most"] (spG K R_is_in)) : FnOk P w K mg base CX0 2 f fd ["value", "many"] (spG K R_is_arrow) := by
  have nd := sc_is_arrow.nd
  refine okG F sc_is_arrow (fun ds z ⟨p, n, e, _⟩ => by rw [e]; rfl) fun cdv A outer s H vs Q E hr ds z hR hv q => ?_
  obtain ⟨p, n, rfl, hp, rfl⟩ := hR
  obtain ⟨v1, v2, rfl, h1, h2⟩ := ats2 hv
  refine ⟨_, (pss_cons (ps_if (PW.pt (pw_or (pt_not (pt_val (pe_callB call_isi (by rfl) T.f_isinstance (by decide +kernel) (pa_cons (pv 0) (pa_cons (T.n_tuple) pa_nil))))) (pw_or1 (pt_cmpR op_ne (pe_callB call_len_seq (by rfl) T.f_len (by decide +kernel) (pa_cons (pv 0) pa_nil)) pe_int (nomark _)))))
      (pss_one (ps_ret pe_bl))
      pss_nil)
    (pss_one (ps_ret (pe_and (pe_cmpR (k_eq0 (K := K) rfl (hu_of hr)) (pe_lc (own := [("one", 2)]) (g := (gName 2)) rfl nd (pi_tup (pv 0)) (blkOk_by (by kernel_rfl)) (fun _ _ _ _ _ => (pg_name (i := 2) nd rfl (.inl rfl))) (fun _ _ _ _ _ => pts_one (pt_not (pt_val (c_is_in.call hr rfl (pa_cons (pv 2) (pa_cons pe_int (pa_cons (pe_op op_sub (pv 1) pe_int) pa_nil))) pass0)))) (fun _ _ _ _ _ => (pv 2))) (pe_lst pa_nil) (nomark _)) (pe_one (pe_cmpR op_lt (pe_ix (k_ixt (K := K) rfl) (pv 0) pe_int (fun _ _ => rfl)) (pe_ix (k_ixt (K := K) rfl) (pv 0) pe_int (fun _ _ => rfl)) (nomark _))))))), ?_⟩
  refine s_if (b := false) (et_is (et_or (et_not (ev_B (ev_isi (ev_var rfl h1) k_tt))) fun _ => ev_test (ev_op (ev_cb (ea_cons (ev_var rfl h1) ea_nil) rc_lenT) ev_int ro_neI)) rfl) (fun e => nomatch e) fun _ H1 e1 => ?_
  refine s_ret (ev_is (ev_andV (ev_op (ev_lc [p.1, p.2] PyData.int (fun x => !(decide (0 ≤ x) && decide (x ≤ n - 1))) PyData.int (ei_tup (ev_var rfl (h1.mono e1))) (Nat.le_of_ble_eq_true rfl) (fun _ _ _ => rfl) fun x hx v H2 e2 av => item1 rfl (et_not (ev_B (ev_call (ea_cons (ev_var rfl av) (ea_cons ev_int (ea_cons (ev_op (ev_var rfl (h2.mono (e1.trans e2))) ev_int ro_int) ea_nil))) ⟨x, 0, n - 1, rfl, rfl⟩))) fun _ => ev_var rfl av) (ev_lst ea_nil) ro_eq0) fun _ => ev_op (ev_op (ev_var rfl (h1.mono e1)) ev_int ro_ix0) (ev_op (ev_var rfl (h1.mono e1)) ev_int ro_ix1) ro_cmp) ?_) fun v H2 e2 av => q v H2 (e1.trans e2) av
  obtain ⟨a, b⟩ := p
  have h1 : decide (0 ≤ a) = true := by simpa using hp.1
  have h2 : decide (a ≤ n - 1) = true := by simpa using (show a ≤ n - 1 by have := hp; simp at this; omega)
  have h3 : decide (0 ≤ b) = true := by simpa using (show 0 ≤ b by have := hp; simp at this; omega)
  have h4 : decide (b ≤ n - 1) = true := by simpa using (show b ≤ n - 1 by have := hp; simp at this; omega)
  have h5 : decide (a < b) = true := by simpa using hp.2.1
  simp only [List.filter_cons, List.filter_nil, h1, h2, h3, h4, h5, Bool.and_true, Bool.not_true, Bool.false_eq_true, if_false, List.map_nil, List.isEmpty_nil]
/-! ### need_web, need_burning .. -/
def R_need_web : List PyData → PyData → Prop := fun ds z => ∃ n A, ds = [webD n A] ∧ Wb n A ∧ z = .none
theorem sc_need_web : FnScope ["web", "index", "one"] ["web"] (defScope (top 13)) := ⟨rfl, rfl, rfl, by decide +kernel, rfl, by decide +kernel, by decide +kernel⟩
theorem ok_need_web (F : FnP K "need_web" (top 13) f fd) (T : Fre mg) {tm : Value} (g_MOST_LAMPS : mg "MOST_LAMPS" = some tm) (r_MOST_LAMPS : RelV (.int 9) tm) (c_is_in : Cal P w K mg base 1 "is_in" ["value", "least", "most"] (spG K R_is_in))
    (c_is_arrow : Cal P w K mg base 2 "is_arrow" ["value", "many"] (spG K R_is_arrow)) : FnOk P w K mg base CX0 3 f fd ["web"] (spG K R_need_web) := by
  have nd := sc_need_web.nd
  refine okG F sc_need_web (fun ds z ⟨n, A, e, _⟩ => by rw [e]; rfl) fun cdv A outer s H vs Q E hr ds z hR hv q => ?_
  obtain ⟨n, A, rfl, W, rfl⟩ := hR
  obtain ⟨v1, rfl, h1⟩ := ats1 hv
  refine ⟨_, (pss_cons (ps_if (PW.pt (pw_or (pt_not (pt_val (pe_callB call_isi (by rfl) T.f_isinstance (by decide +kernel) (pa_cons (pv 0) (pa_cons (T.n_tuple) pa_nil))))) (pw_or (pt_cmpR op_ne (pe_callB call_len_seq (by rfl) T.f_len (by decide +kernel) (pa_cons (pv 0) pa_nil)) pe_int (nomark _)) (pw_or1 (pt_not (pt_val (pe_callB call_isi (by rfl) T.f_isinstance (by decide +kernel) (pa_cons (pe_ix (k_ixt (K := K) rfl) (pv 0) pe_int (fun _ _ => rfl)) (pa_cons (T.n_tuple) pa_nil)))))))))
      (pss_one ps_never)
      pss_nil)
    (pss_cons (ps_if (pt_not (pt_val (c_is_in.call hr rfl (pa_cons (pe_ix (k_ixt (K := K) rfl) (pv 0) pe_int (fun _ _ => rfl)) (pa_cons pe_int (pa_cons (pe_glob rfl g_MOST_LAMPS r_MOST_LAMPS) pa_nil))) pass0)))
      (pss_one ps_never)
      pss_nil)
    (pss_one (ps_for PassesOwn.never rfl (pi_enT (by rfl) T.f_enumerate (pa_cons (pe_ix (k_ixt (K := K) rfl) (pv 0) pe_int (fun _ _ => rfl)) pa_nil)) (pg_tup rfl (pgs_cons (pg_name (i := 1) nd rfl (.inl rfl)) (pgs_cons (pg_name (i := 2) nd rfl (.inl rfl)) pgs_nil)))
      (pss_one (ps_if (PW.pt (pw_or (pt_not (pt_val (c_is_arrow.call hr rfl (pa_cons (pv 2) (pa_cons (pe_ix (k_ixt (K := K) rfl) (pv 0) pe_int (fun _ _ => rfl)) pa_nil)) pass0))) (pw_or1 (PW.pt (pw_and (pt_cmpR op_gt (pv 1) pe_int (nomark _)) (pw_and1 (pt_cmpR (op_leT hr.units0) (pv 2) (pe_ix (k_ixt (K := K) rfl) (pe_ix (k_ixt (K := K) rfl) (pv 0) pe_int (fun _ _ => rfl)) (pe_op op_sub (pv 1) pe_int) (fun _ _ => rfl)) (nomark _))))))))
        (pss_one ps_never)
        pss_nil)))))), ?_⟩
  have n1 := W.n1
  have n5 := W.n5
  refine s_if (b := false) (et_is (et_or (et_not (ev_B (ev_isi (ev_var rfl h1) k_tt))) fun _ => et_or (ev_test (ev_op (ev_cb (ea_cons (ev_var rfl h1) ea_nil) rc_lenT) ev_int ro_neI)) fun _ => et_not (ev_B (ev_isi (ev_op (ev_var rfl h1) ev_int ro_ix1) k_tt))) rfl) (fun e => nomatch e) fun _ H1 e1 => ?_
  refine s_if (b := false) (et_is (et_not (ev_B (ev_call (ea_cons (ev_op (ev_var rfl (h1.mono e1)) ev_int ro_ix0) (ea_cons ev_int (ea_cons ev_int ea_nil))) ⟨n, 1, 9, rfl, rfl⟩))) ?_) (fun e => nomatch e) fun _ H2 e2 => ?_
  · have a1 : decide ((1 : Int) ≤ (n : Int)) = true := by simpa using (show (1 : Int) ≤ (n : Int) by omega)
    have a2 : decide ((n : Int) ≤ 9) = true := by simpa using (show (n : Int) ≤ 9 by omega)
    rw [a1, a2]
    rfl
  refine s_for (ei_enT (ev_op (ev_var rfl (h1.mono (e1.trans e2))) ev_int ro_ix1)) fun H3 e3 => ?_
  have e123 := (e1.trans e2).trans e3
  refine ⟨fun _ σ _ => ∃ x y, σ = [some v1, x, y], ⟨_, _, rfl⟩, fun i d v σ1 H4 H5 hd hs s1 s2 av => ?_, fun σ1 H4 _ s4 => q _ _ (e123.trans s4) .non⟩
  obtain ⟨y1, y2, rfl⟩ := hs
  obtain ⟨z, hz, rfl⟩ := enD_get hd
  rw [List.getElem?_map] at hz
  obtain ⟨p, hp, rfl⟩ := Option.map_eq_some_iff.mp hz
  have hpA : p ∈ A := List.mem_of_getElem? hp
  cases av with
  | tup ht ra =>
    obtain ⟨x1, x2, rfl, b1, b2⟩ := ats2 ra
    refine ⟨_, _, rfl, ht, rfl, _, _, rfl, _, _, rfl, rfl, ?_⟩
    have h1' := h1.mono ((e123.trans s1).trans s2)
    refine s_if (b := false) (et_is (et_or (et_not (ev_B (ev_call (ea_cons (ev_var rfl b2) (ea_cons (ev_op (ev_var rfl h1') ev_int ro_ix0) ea_nil)) ⟨p, n, rfl, W.up p hpA, rfl⟩))) fun _ => et_and (b := false) (ev_test (ev_op (ev_var rfl b1) ev_int ro_cmp)) fun hi => ?_) ?_) (fun e => nomatch e) fun _ H6 e6 => ⟨⟨_, _, rfl⟩, s1.trans (s2.trans e6)⟩
    · have hi' : 0 < i := by simpa using hi
      obtain ⟨k, rfl⟩ : ∃ k, i = k + 1 := ⟨i - 1, by omega⟩
      have hk : k < A.length := by
        have := (List.getElem?_eq_some_iff.mp hp).1
        omega
      refine ev_test (ev_op (ev_var rfl b2) (ev_op (ev_op (ev_var rfl h1') ev_int ro_ix1) (ev_op (ev_var rfl b1) ev_int ro_int) (ro_ixT (k := k) (d := prD A[k]) (by simp) (by rw [List.getElem?_map, List.getElem?_eq_getElem hk]; rfl))) (ro_leP (K := K) ?_))
      have lx : lexl A[k] p := by
        have hk1 : k + 1 < A.length := (List.getElem?_eq_some_iff.mp hp).1
        have e := (List.getElem?_eq_some_iff.mp hp).2
        rw [← e]
        exact List.pairwise_iff_getElem.mp W.asc k (k + 1) hk hk1 (by omega)
      exact lx
    · simp
def R_need_burning : List PyData → PyData → Prop := fun ds z => ∃ n A b, ds = [webD n A, tI b] ∧ Wb n A ∧ St n b ∧ z = .none
theorem sc_need_burning : FnScope ["web", "burning", "index", "one"] ["web", "burning"] (defScope (top 14)) := ⟨rfl, rfl, rfl, by decide +kernel, rfl, by decide +kernel, by decide +kernel⟩
theorem ok_need_burning (F : FnP K "need_burning" (top 14) f fd) (T : Fre mg) (c_is_in : Cal P w K mg base 1 "is_in" ["value", "least", "most"] (spG K R_is_in)) : FnOk P w K mg base CX0 2 f fd ["web", "burning"] (spG K R_need_burning) := by
  have nd := sc_need_burning.nd
  refine okG F sc_need_burning (fun ds z ⟨n, A, b, e, _⟩ => by rw [e]; rfl) fun cdv A outer s H vs Q E hr ds z hR hv q => ?_
  obtain ⟨n, A, b, rfl, W, S, rfl⟩ := hR
  obtain ⟨v1, v2, rfl, h1, h2⟩ := ats2 hv
  refine ⟨_, (pss_cons (ps_if (pt_not (pt_val (pe_callB call_isi (by rfl) T.f_isinstance (by decide +kernel) (pa_cons (pv 1) (pa_cons (T.n_tuple) pa_nil)))))
      (pss_one ps_never)
      pss_nil)
    (pss_one (ps_for PassesOwn.never rfl (pi_enT (by rfl) T.f_enumerate (pa_cons (pv 1) pa_nil)) (pg_tup rfl (pgs_cons (pg_name (i := 2) nd rfl (.inl rfl)) (pgs_cons (pg_name (i := 3) nd rfl (.inl rfl)) pgs_nil)))
      (pss_one (ps_if (PW.pt (pw_or (pt_not (pt_val (c_is_in.call hr rfl (pa_cons (pv 3) (pa_cons pe_int (pa_cons (pe_op op_sub (pe_ix (k_ixt (K := K) rfl) (pv 0) pe_int (fun _ _ => rfl)) pe_int) pa_nil))) pass0))) (pw_or1 (PW.pt (pw_and (pt_cmpR op_gt (pv 2) pe_int (nomark _)) (pw_and1 (pt_cmpR op_le (pv 3) (pe_ix (k_ixt (K := K) rfl) (pv 1) (pe_op op_sub (pv 2) pe_int) (fun _ _ => rfl)) (nomark _))))))))
        (pss_one ps_never)
        pss_nil))))), ?_⟩
  refine s_if (b := false) (et_is (et_not (ev_B (ev_isi (ev_var rfl h2) k_tt))) rfl) (fun e => nomatch e) fun _ H1 e1 => ?_
  refine s_for (ei_enT (ev_var rfl (h2.mono e1))) fun H3 e3 => ?_
  have e123 := e1.trans e3
  refine ⟨fun _ σ _ => ∃ x y, σ = [some v1, some v2, x, y], ⟨_, _, rfl⟩, fun i d v σ1 H4 H5 hd hs s1 s2 av => ?_, fun σ1 H4 _ s4 => q _ _ (e123.trans s4) .non⟩
  obtain ⟨y1, y2, rfl⟩ := hs
  obtain ⟨z, hz, rfl⟩ := enD_get hd
  rw [List.getElem?_map] at hz
  obtain ⟨p, hp, rfl⟩ := Option.map_eq_some_iff.mp hz
  have hpA := S.inr p (List.mem_of_getElem? hp)
  cases av with
  | tup ht ra =>
    obtain ⟨x1, x2, rfl, b1, b2⟩ := ats2 ra
    refine ⟨_, _, rfl, ht, rfl, _, _, rfl, _, _, rfl, rfl, ?_⟩
    have h1' := h1.mono ((e123.trans s1).trans s2)
    have h2' := h2.mono ((e123.trans s1).trans s2)
    refine s_if (b := false) (et_is (et_or (et_not (ev_B (ev_call (ea_cons (ev_var rfl b2) (ea_cons ev_int (ea_cons (ev_op (ev_op (ev_var rfl h1') ev_int ro_ix0) ev_int ro_int) ea_nil))) ⟨p, 0, n - 1, rfl, rfl⟩))) fun _ => et_and (b := false) (ev_test (ev_op (ev_var rfl b1) ev_int ro_cmp)) fun hi => ?_) ?_) (fun e => nomatch e) fun _ H6 e6 => ⟨⟨_, _, rfl⟩, s1.trans (s2.trans e6)⟩
    · have hi' : 0 < i := by simpa using hi
      obtain ⟨k, rfl⟩ : ∃ k, i = k + 1 := ⟨i - 1, by omega⟩
      have hk : k < b.length := by
        have := (List.getElem?_eq_some_iff.mp hp).1
        omega
      refine ev_test (ev_is (ev_op (ev_var rfl b2) (ev_op (ev_var rfl h2') (ev_op (ev_var rfl b1) ev_int ro_int) (ro_ixT (k := k) (d := .int b[k]) (by simp) (by rw [List.getElem?_map, List.getElem?_eq_getElem hk]; rfl))) ro_cmp) ?_)
      have lx : b[k] < p := by
        have hk1 : k + 1 < b.length := (List.getElem?_eq_some_iff.mp hp).1
        have e := (List.getElem?_eq_some_iff.mp hp).2
        rw [← e]
        exact List.pairwise_iff_getElem.mp S.asc k (k + 1) hk hk1 (by omega)
      have z : decide (p ≤ b[k]) = false := by simpa using lx
      rw [z]
    · have a1 : decide ((0 : Int) ≤ p) = true := by simpa using hpA.1
      have a2 : decide (p ≤ (n : Int) - 1) = true := by simpa using (show p ≤ (n : Int) - 1 by omega)
      rw [a1, a2]
      simp
def R_need_both : List PyData → PyData → Prop := fun ds z => ∃ n A b, ds = [webD n A, tI b] ∧ Wb n A ∧ St n b ∧ z = .none
theorem sc_need_both : FnScope ["web", "burning"] ["web", "burning"] (defScope (top 15)) := ⟨rfl, rfl, rfl, by decide +kernel, rfl, by decide +kernel, by decide +kernel⟩
theorem ok_need_both (F : FnP K "need_both" (top 15) f fd) (T : Fre mg) (c_need_web : Cal P w K mg base 3 "need_web" ["web"] (spG K R_need_web)) (c_need_burning : Cal P w K mg base 2 "need_burning" ["web", "burning"] (spG K R_need_burning)) : FnOk P w K mg base CX0 4 f fd ["web", "burning"] (spG K R_need_both) := by
  have nd := sc_need_both.nd
  refine okG F sc_need_both (fun ds z ⟨n, A, b, e, _⟩ => by rw [e]; rfl) fun cdv A outer s H vs Q E hr ds z hR hv q => ?_
  obtain ⟨n, A, b, rfl, W, S, rfl⟩ := hR
  obtain ⟨v1, v2, rfl, h1, h2⟩ := ats2 hv
  refine ⟨_, (pss_cons (ps_expr (c_need_web.call hr rfl (pa_cons (pv 0) pa_nil) pass0))
    (pss_one (ps_expr (c_need_burning.call hr rfl (pa_cons (pv 0) (pa_cons (pv 1) pa_nil)) pass0)))), ?_⟩
  refine s_drop (ev_call (ea_cons (ev_var rfl h1) ea_nil) ⟨n, A, rfl, W, rfl⟩) fun H1 e1 => ?_
  exact s_drop (ev_call (ea_cons (ev_var rfl (h1.mono e1)) (ea_cons (ev_var rfl (h2.mono e1)) ea_nil)) ⟨n, A, b, rfl, W, S, rfl⟩) fun H2 e2 => q _ _ (e1.trans e2) .non
def R_need_two : List PyData → PyData → Prop := fun ds z => ∃ n A b c, ds = [webD n A, tI b, tI c] ∧ Wb n A ∧ St n b ∧ St n c ∧ z = .none
theorem sc_need_two : FnScope ["web", "one", "other"] ["web", "one", "other"] (defScope (top 16)) := ⟨rfl, rfl, rfl, by decide +kernel, rfl, by decide +kernel, by decide +kernel⟩
theorem ok_need_two (F : FnP K "need_two" (top 16) f fd) (T : Fre mg) (c_need_both : Cal P w K mg base 4 "need_both" ["web", "burning"] (spG K R_need_both)) (c_need_burning : Cal P w K mg base 2 "need_burning" ["web", "burning"] (spG K R_need_burning)) : FnOk P w K mg base CX0 5 f fd ["web", "one", "other"] (spG K R_need_two) := by
  have nd := sc_need_two.nd
  refine okG F sc_need_two (fun ds z ⟨n, A, b, c, e, _⟩ => by rw [e]; rfl) fun cdv A outer s H vs Q E hr ds z hR hv q => ?_
  obtain ⟨n, A, b, c, rfl, W, S, S', rfl⟩ := hR
  obtain ⟨v1, v2, v3, rfl, h1, h2, h3⟩ := ats3 hv
  refine ⟨_, (pss_cons (ps_expr (c_need_both.call hr rfl (pa_cons (pv 0) (pa_cons (pv 1) pa_nil)) pass0))
    (pss_one (ps_expr (c_need_burning.call hr rfl (pa_cons (pv 0) (pa_cons (pv 2) pa_nil)) pass0)))), ?_⟩
  refine s_drop (ev_call (ea_cons (ev_var rfl h1) (ea_cons (ev_var rfl h2) ea_nil)) ⟨n, A, b, rfl, W, S, rfl⟩) fun H1 e1 => ?_
  exact s_drop (ev_call (ea_cons (ev_var rfl (h1.mono e1)) (ea_cons (ev_var rfl (h3.mono e1)) ea_nil)) ⟨n, A, c, rfl, W, S', rfl⟩) fun H2 e2 => q _ _ (e1.trans e2) .non
/-! ### ahead_in, behind_in, light_in, quench_in, changed, doable -/
def R_ahead : List PyData → PyData → Prop := fun ds z => ∃ n A k, ds = [webD n A, .int k] ∧ A.length ≤ 1000 ∧ z = lI ((A.filter fun p => p.2 == k).map fun p => p.1)
theorem sc_ahead_in : FnScope ["web", "lamp", "one", "other"] ["web", "lamp"] (defScope (top 17)) := ⟨rfl, rfl, rfl, by decide +kernel, rfl, by decide +kernel, by decide +kernel⟩
theorem ok_ahead_in (F : FnP K "ahead_in" (top 17) f fd) (T : Fre mg) : FnOk P w K mg base CX0 1 f fd ["web", "lamp"] (spG K R_ahead) := by
  have nd := sc_ahead_in.nd
  refine okG F sc_ahead_in (fun ds z ⟨n, A, k, e, _⟩ => by rw [e]; rfl) fun cdv A outer s H vs Q E hr ds z hR hv q => ?_
  obtain ⟨n, A, k, rfl, hl, rfl⟩ := hR
  obtain ⟨v1, v2, rfl, h1, h2⟩ := ats2 hv
  refine ⟨_, (pss_one (ps_ret (pe_lc (own := [("one", 2), ("other", 3)]) (g := (gTup K 2 (gCons (gName 2) (gCons (gName 3) gNil)))) rfl nd (pi_tup (pe_ix (k_ixt (K := K) rfl) (pv 0) pe_int (fun _ _ => rfl))) (blkOk_by (by kernel_rfl)) (fun _ _ _ _ _ => (pg_tup rfl (pgs_cons (pg_name (i := 2) nd rfl (.inl rfl)) (pgs_cons (pg_name (i := 3) nd rfl (.inl rfl)) pgs_nil)))) (fun _ _ _ _ _ => pts_one (pt_cmpR op_eq (pv 3) (pv 1) (nomark _))) (fun _ _ _ _ _ => (pv 2))))), ?_⟩
  refine s_ret (ev_is (ev_lc A prD (fun p => p.2 == k) (fun p => .int p.1) (ei_tup (ev_op (ev_var rfl h1) ev_int ro_ix1)) (by omega) (fun _ _ _ => rfl) fun p hp v H1 e1 av => item2 av fun v1 v2 a1 a2 => ⟨rfl, ev_test (ev_op (ev_var rfl a2) (ev_var rfl (h2.mono e1)) ro_eqI), fun _ => ev_var rfl a1⟩) (by rw [ar_map])) q
def R_behind : List PyData → PyData → Prop := fun ds z => ∃ n A k, ds = [webD n A, .int k] ∧ A.length ≤ 1000 ∧ z = lI ((A.filter fun p => p.1 == k).map fun p => p.2)
theorem sc_behind_in : FnScope ["web", "lamp", "one", "other"] ["web", "lamp"] (defScope (top 18)) := ⟨rfl, rfl, rfl, by decide +kernel, rfl, by decide +kernel, by decide +kernel⟩
theorem ok_behind_in (F : FnP K "behind_in" (top 18) f fd) (T : Fre mg) : FnOk P w K mg base CX0 1 f fd ["web", "lamp"] (spG K R_behind) := by
  have nd := sc_behind_in.nd
  refine okG F sc_behind_in (fun ds z ⟨n, A, k, e, _⟩ => by rw [e]; rfl) fun cdv A outer s H vs Q E hr ds z hR hv q => ?_
  obtain ⟨n, A, k, rfl, hl, rfl⟩ := hR
  obtain ⟨v1, v2, rfl, h1, h2⟩ := ats2 hv
  refine ⟨_, (pss_one (ps_ret (pe_lc (own := [("one", 2), ("other", 3)]) (g := (gTup K 2 (gCons (gName 2) (gCons (gName 3) gNil)))) rfl nd (pi_tup (pe_ix (k_ixt (K := K) rfl) (pv 0) pe_int (fun _ _ => rfl))) (blkOk_by (by kernel_rfl)) (fun _ _ _ _ _ => (pg_tup rfl (pgs_cons (pg_name (i := 2) nd rfl (.inl rfl)) (pgs_cons (pg_name (i := 3) nd rfl (.inl rfl)) pgs_nil)))) (fun _ _ _ _ _ => pts_one (pt_cmpR op_eq (pv 2) (pv 1) (nomark _))) (fun _ _ _ _ _ => (pv 3))))), ?_⟩
  refine s_ret (ev_is (ev_lc A prD (fun p => p.1 == k) (fun p => .int p.2) (ei_tup (ev_op (ev_var rfl h1) ev_int ro_ix1)) (by omega) (fun _ _ _ => rfl) fun p hp v H1 e1 av => item2 av fun v1 v2 a1 a2 => ⟨rfl, ev_test (ev_op (ev_var rfl a1) (ev_var rfl (h2.mono e1)) ro_eqI), fun _ => ev_var rfl a2⟩) (by rw [ar_map])) q
theorem ints_id (l : List Int) : l.map (fun k => PyData.int k) = l.map PyData.int := rfl
def R_light : List PyData → PyData → Prop := fun ds z => ∃ n A b, ds = [webD n A, tI b] ∧ Wb n A ∧ St n b ∧ z = lI (sel n (lightP n (ar A) (has b)))
theorem sc_light_in : FnScope ["web", "burning", "barred", "one", "other", "k"] ["web", "burning"] (defScope (top 20)) := ⟨rfl, rfl, rfl, by decide +kernel, rfl, by decide +kernel, by decide +kernel⟩
theorem ok_light_in (F : FnP K "light_in" (top 20) f fd) (T : Fre mg) : FnOk P w K mg base CX0 1 f fd ["web", "burning"] (spG K R_light) := by
  have nd := sc_light_in.nd
  refine okG F sc_light_in (fun ds z ⟨n, A, b, e, _⟩ => by rw [e]; rfl) fun cdv A outer s H vs Q E hr ds z hR hv q => ?_
  obtain ⟨n, A, b, rfl, W, S, rfl⟩ := hR
  obtain ⟨v1, v2, rfl, h1, h2⟩ := ats2 hv
  have := W.len
  have := W.n5
  refine ⟨_, (pss_cons (ps_set (i := 2) nd rfl (.inr rfl) (pe_lc (own := [("one", 3), ("other", 4)]) (g := (gTup K 2 (gCons (gName 3) (gCons (gName 4) gNil)))) rfl nd (pi_tup (pe_ix (k_ixt (K := K) rfl) (pv 0) pe_int (fun _ _ => rfl))) (blkOk_by (by kernel_rfl)) (fun _ _ _ _ _ => (pg_tup rfl (pgs_cons (pg_name (i := 3) nd rfl (.inl rfl)) (pgs_cons (pg_name (i := 4) nd rfl (.inl rfl)) pgs_nil)))) (fun _ _ _ _ _ => pts_one (pt_cmpR (k_no (K := K) rfl) (pv 3) (pv 1) (by rfl))) (fun _ _ _ _ _ => (pv 4))))
    (pss_one (ps_ret (pe_lc (own := [("k", 5)]) (g := (gName 5)) rfl nd (pi_range1 (by rfl) T.f_range (pa_cons (pe_ix (k_ixt (K := K) rfl) (pv 0) pe_int (fun _ _ => rfl)) pa_nil)) (blkOk_by (by kernel_rfl)) (fun _ _ _ _ _ => (pg_name (i := 5) nd rfl (.inl rfl))) (fun _ _ _ _ _ => pts_one (PW.pt (pw_and (pt_cmpR (k_no (K := K) rfl) (pv 5) (pv 1) (by rfl)) (pw_and1 (pt_cmpR (k_no (K := K) rfl) (pv 5) (pv 2) (by rfl)))))) (fun _ _ _ _ _ => (pv 5)))))), ?_⟩
  refine s_set (ev_is (ev_lc A prD (fun p => !has b p.1) (fun p => .int p.2) (ei_tup (ev_op (ev_var rfl h1) ev_int ro_ix1)) (by omega) (fun _ _ _ => rfl) fun p hp v H1 e1 av => item2 av fun v1 v2 a1 a2 => ⟨rfl, ev_test (ev_op (ev_var rfl a1) (ev_var rfl (h2.mono e1)) ro_no1), fun _ => ev_var rfl a2⟩) (by rw [ar_map])) fun v3 H1 e1 h3 => ?_
  refine s_ret (ev_is (ev_lc (rng n) PyData.int (fun k => !has b k && !has ((A.filter fun q => !has b q.1).map fun q => q.2) k) PyData.int (ei_rng (ea_cons (ev_op (ev_var rfl (h1.mono e1)) ev_int ro_ix0) ea_nil) rfl (by omega)) (by rw [rng_len]; omega) (fun _ _ _ => rfl) fun k hk v H2 e2 av => item1 rfl (et_and (ev_test (ev_op (ev_var rfl av) (ev_var rfl (h2.mono (e1.trans e2))) ro_no1)) fun _ => ev_test (ev_op (ev_var rfl av) (ev_var rfl (h3.mono e2)) ro_no2)) fun _ => ev_var rfl av) (by rw [light_eq W])) fun v H2 e2 av => q v H2 (e1.trans e2) av
def R_quench : List PyData → PyData → Prop := fun ds z => ∃ n A b, ds = [webD n A, tI b] ∧ Wb n A ∧ St n b ∧ z = lI (sel n (quenchP n (ar A) (has b)))
theorem sc_quench_in : FnScope ["web", "burning", "barred", "one", "other", "k"] ["web", "burning"] (defScope (top 21)) := ⟨rfl, rfl, rfl, by decide +kernel, rfl, by decide +kernel, by decide +kernel⟩
theorem ok_quench_in (F : FnP K "quench_in" (top 21) f fd) (T : Fre mg) : FnOk P w K mg base CX0 1 f fd ["web", "burning"] (spG K R_quench) := by
  have nd := sc_quench_in.nd
  refine okG F sc_quench_in (fun ds z ⟨n, A, b, e, _⟩ => by rw [e]; rfl) fun cdv A outer s H vs Q E hr ds z hR hv q => ?_
  obtain ⟨n, A, b, rfl, W, S, rfl⟩ := hR
  obtain ⟨v1, v2, rfl, h1, h2⟩ := ats2 hv
  have := W.len
  have := W.n5
  have := S.len
  refine ⟨_, (pss_cons (ps_set (i := 2) nd rfl (.inr rfl) (pe_lc (own := [("one", 3), ("other", 4)]) (g := (gTup K 2 (gCons (gName 3) (gCons (gName 4) gNil)))) rfl nd (pi_tup (pe_ix (k_ixt (K := K) rfl) (pv 0) pe_int (fun _ _ => rfl))) (blkOk_by (by kernel_rfl)) (fun _ _ _ _ _ => (pg_tup rfl (pgs_cons (pg_name (i := 3) nd rfl (.inl rfl)) (pgs_cons (pg_name (i := 4) nd rfl (.inl rfl)) pgs_nil)))) (fun _ _ _ _ _ => pts_one (pt_cmpR (k_no (K := K) rfl) (pv 4) (pv 1) (by rfl))) (fun _ _ _ _ _ => (pv 3))))
    (pss_one (ps_ret (pe_lc (own := [("k", 5)]) (g := (gName 5)) rfl nd (pi_tup (pv 1)) (blkOk_by (by kernel_rfl)) (fun _ _ _ _ _ => (pg_name (i := 5) nd rfl (.inl rfl))) (fun _ _ _ _ _ => pts_one (pt_cmpR (k_no (K := K) rfl) (pv 5) (pv 2) (by rfl))) (fun _ _ _ _ _ => (pv 5)))))), ?_⟩
  refine s_set (ev_is (ev_lc A prD (fun p => !has b p.2) (fun p => .int p.1) (ei_tup (ev_op (ev_var rfl h1) ev_int ro_ix1)) (by omega) (fun _ _ _ => rfl) fun p hp v H1 e1 av => item2 av fun v1 v2 a1 a2 => ⟨rfl, ev_test (ev_op (ev_var rfl a2) (ev_var rfl (h2.mono e1)) ro_no1), fun _ => ev_var rfl a1⟩) (by rw [ar_map])) fun v3 H1 e1 h3 => ?_
  refine s_ret (ev_is (ev_lc b PyData.int (fun k => !has ((A.filter fun q => !has b q.2).map fun q => q.1) k) PyData.int (ei_tup (ev_var rfl (h2.mono e1))) (by omega) (fun _ _ _ => rfl) fun k hk v H2 e2 av => item1 rfl (ev_test (ev_op (ev_var rfl av) (ev_var rfl (h3.mono e2)) ro_no2)) fun _ => ev_var rfl av) (by rw [quench_eq W S])) fun v H2 e2 av => q v H2 (e1.trans e2) av
def R_changed : List PyData → PyData → Prop := fun ds z => ∃ (n : Nat) (b : List Int) (k : Int), ds = [tI b, .int k] ∧ n ≤ 50 ∧ St n b ∧ 0 ≤ k ∧ k < n ∧ z = tI (sel n (chg (has b) k))
theorem sc_changed : FnScope ["burning", "lamp", "k"] ["burning", "lamp"] (defScope (top 22)) := ⟨rfl, rfl, rfl, by decide +kernel, rfl, by decide +kernel, by decide +kernel⟩
theorem ok_changed (F : FnP K "changed" (top 22) f fd) (T : Fre mg) : FnOk P w K mg base CX0 1 f fd ["burning", "lamp"] (spG K R_changed) := by
  have nd := sc_changed.nd
  refine okG F sc_changed (fun ds z ⟨n, b, k, e, _⟩ => by rw [e]; rfl) fun cdv A outer s H vs Q E hr ds z hR hv q => ?_
  obtain ⟨n, b, k, rfl, n5, S, k0, k1, rfl⟩ := hR
  obtain ⟨v1, v2, rfl, h1, h2⟩ := ats2 hv
  have := S.len
  refine ⟨_, (pss_cons (ps_if (pt_cmpR (k_in (K := K) rfl) (pv 1) (pv 0) (by rfl))
      (pss_one (ps_ret (pe_callTy call_tuple_of (by rfl) T.f_tuple (by decide +kernel) (pa_cons (pe_lc (own := [("k", 2)]) (g := (gName 2)) rfl nd (pi_tup (pv 0)) (blkOk_by (by kernel_rfl)) (fun _ _ _ _ _ => (pg_name (i := 2) nd rfl (.inl rfl))) (fun _ _ _ _ _ => pts_one (pt_cmpR op_ne (pv 2) (pv 1) (nomark _))) (fun _ _ _ _ _ => (pv 2))) pa_nil))))
      pss_nil)
    (pss_one (ps_ret (pe_callTy call_tuple_of (by rfl) T.f_tuple (by decide +kernel) (pa_cons (pe_callB cr_srtT (by rfl) T.f_sorted (by decide +kernel) (pa_cons (pe_op op_catA (pv 0) (pe_tup (pa_cons (pv 1) pa_nil))) pa_nil)) pa_nil))))), ?_⟩
  refine s_if (ev_test (ev_op (ev_var rfl h2) (ev_var rfl h1) ro_in1)) (fun hb H1 e1 => ?_) fun hb H1 e1 => ?_
  · refine s_ret (ev_cb (ea_cons (ev_is (ev_lc b PyData.int (fun j => !(j == k)) PyData.int (ei_tup (ev_var rfl (h1.mono e1))) (by omega) (fun _ _ _ => rfl) fun j hj v H2 e2 av => item1 rfl (ev_test (ev_op (ev_var rfl av) (ev_var rfl (h2.mono (e1.trans e2))) ro_neI)) fun _ => ev_var rfl av) (by rw [chg_out S (has_iff.mp hb)])) ea_nil) rc_tup) fun v H2 e2 av => q v H2 (e1.trans e2) av
  · have hb := has_false.mp hb
    refine s_ret (ev_cb (ea_cons (ev_cb (ea_cons (ev_is (ev_op (ev_var rfl (h1.mono e1)) (ev_tup (ea_cons (ev_var rfl (h2.mono e1)) ea_nil)) (ro_catA (by simp; omega))) (d' := tI (b ++ [k])) (by simp)) ea_nil) (rc_srtT (ns := b ++ [k]) (ms := sel n (chg (has b) k)) ?_ ?_ (sel_asc _ _) (chg_mem S hb k0 k1))) ea_nil) rc_tup) fun v H2 e2 av => q v H2 (e1.trans e2) av
    · refine List.nodup_append.mpr ⟨S.nodup, by simp, fun a ha c hc e => ?_⟩
      rw [List.mem_singleton.mp hc] at e
      subst e
      exact hb ha
    · rw [List.length_append, List.length_singleton]
      omega
def R_doable : List PyData → PyData → Prop := fun ds z => ∃ n A b, ds = [webD n A, tI b] ∧ Wb n A ∧ St n b ∧ z = lI (sel n (doab n (ar A) (has b)))
theorem sc_doable : FnScope ["web", "burning"] ["web", "burning"] (defScope (top 23)) := ⟨rfl, rfl, rfl, by decide +kernel, rfl, by decide +kernel, by decide +kernel⟩
theorem lq_nodup (n : Nat) (a : Int → Int → Bool) (p : Pr) : (sel n (lightP n a p) ++ sel n (quenchP n a p)).Nodup := app_nodup fun k h => by
  unfold lightP at h
  unfold quenchP
  rw [Bool.and_eq_true, Bool.not_eq_true'] at h
  rw [h.1, Bool.false_and]
theorem ok_doable (F : FnP K "doable" (top 23) f fd) (T : Fre mg) (c_light_in : Cal P w K mg base 1 "light_in" ["web", "burning"] (spG K R_light)) (c_quench_in : Cal P w K mg base 1 "quench_in" ["web", "burning"] (spG K R_quench)) : FnOk P w K mg base CX0 2 f fd ["web", "burning"] (spG K R_doable) := by
  have nd := sc_doable.nd
  refine okG F sc_doable (fun ds z ⟨n, A, b, e, _⟩ => by rw [e]; rfl) fun cdv A outer s H vs Q E hr ds z hR hv q => ?_
  obtain ⟨n, A, b, rfl, W, S, rfl⟩ := hR
  obtain ⟨v1, v2, rfl, h1, h2⟩ := ats2 hv
  have := W.n5
  have l1 := sel_len n (lightP n (ar A) (has b))
  have l2 := sel_len n (quenchP n (ar A) (has b))
  refine ⟨_, (pss_one (ps_ret (pe_callB cr_sorted (by rfl) T.f_sorted (by decide +kernel) (pa_cons (pe_op op_cat (c_light_in.call hr rfl (pa_cons (pv 0) (pa_cons (pv 1) pa_nil)) pass0) (c_quench_in.call hr rfl (pa_cons (pv 0) (pa_cons (pv 1) pa_nil)) pass0)) pa_nil)))), ?_⟩
  exact s_ret (ev_cb (ea_cons (ev_is (ev_op (ev_call (ea_cons (ev_var rfl h1) (ea_cons (ev_var rfl h2) ea_nil)) ⟨n, A, b, rfl, W, S, rfl⟩) (ev_call (ea_cons (ev_var rfl h1) (ea_cons (ev_var rfl h2) ea_nil)) ⟨n, A, b, rfl, W, S, rfl⟩) (ro_cat (by rw [List.length_map, List.length_map]; omega))) (d' := lI (sel n (lightP n (ar A) (has b)) ++ sel n (quenchP n (ar A) (has b)))) (by rw [lI, List.map_append])) ea_nil) (rc_srt (lq_nodup _ _ _) (by rw [List.length_append]; omega) (sel_asc _ _) fun k => mem_app)) q
/-! ### listed -/
theorem ev_join {σ : L2.St} {H : Hp} {to te : TE} {a : PySem.Str} {ys : List PySem.Str} (h1 : Ev K to σ H (.str a)) (h2 : Ev K te σ H (.list (ys.map PyData.str))) (hl : (ys.map (·.length)).sum + ys.length * a.length ≤ 16777216) :
    Ev K (tM1 (fun x xs H Q => ∃ a p, ∃ ys : List PySem.Str, x = .str a ∧ xs = [.ref p] ∧ (SqL K H p (ys.map V.str) ∨ SqT K H p (ys.map V.str)) ∧ (ys.map (·.length)).sum + ys.length * a.length ≤ 16777216 ∧ Q (.str (Txt.join a ys)) H) to te) σ H (.str (Txt.join a ys)) := fun H1 e Q q => h1 H1 e _ fun x H2 e2 ax => by
  rw [at_str ax]
  refine ⟨⟨_, rfl⟩, h2 H2 (e.trans e2) _ fun y H3 e3 ay => ?_⟩
  cases ay with
  | lst h r =>
    rw [of_strs r] at h
    exact ⟨a, _, ys, rfl, rfl, .inl (SqL.of h), hl, q _ H3 (e2.trans e3) (.str _)⟩
theorem sI_sum : ∀ {ns : List Int}, (∀ k ∈ ns, 0 ≤ k ∧ k < 10) → ((ns.map sI).map (·.length)).sum = ns.length
  | [], _ => rfl
  | k :: ns, h => by
    have ih := sI_sum (ns := ns) fun j hj => h j (by simp [hj])
    have hk := h k (by simp)
    rw [List.map_cons, List.map_cons, List.sum_cons, ih, sI_len hk.1 hk.2, List.length_cons]
    omega
def R_listed : List PyData → PyData → Prop := fun ds z => ∃ ns : List Int, (ds = [lI ns] ∨ ds = [tI ns]) ∧ (∀ k ∈ ns, 0 ≤ k ∧ k < 10) ∧ ns.length ≤ 100 ∧ z = .str (lstS ns)
theorem sc_listed : FnScope ["lamps", "k"] ["lamps"] (defScope (top 40)) := ⟨rfl, rfl, rfl, by decide +kernel, rfl, by decide +kernel, by decide +kernel⟩
theorem ok_listed (F : FnP K "listed" (top 40) f fd) (T : Fre mg) : FnOk P w K mg base CX0 1 f fd ["lamps"] (spG K R_listed) := by
  have nd := sc_listed.nd
  refine okG F sc_listed (fun ds z ⟨ns, e, _⟩ => by rcases e with e | e <;> rw [e] <;> rfl) fun cdv A outer s H vs Q E hr ds z hR hv q => ?_
  obtain ⟨ns, e, hk, hl, rfl⟩ := hR
  have hj : ((ns.map sI).map (·.length)).sum + (ns.map sI).length * (" " : PySem.Str).length ≤ 16777216 := by
    rw [sI_sum hk, List.length_map, show (" " : PySem.Str).length = 1 by decide +kernel]
    omega
  rcases e with rfl | rfl
  · obtain ⟨v1, rfl, h1⟩ := ats1 hv
    refine ⟨_, (pss_one (ps_ret (pe_ifExp (pt_cmpR op_gt (pe_callB call_len_seq (by rfl) T.f_len (by decide +kernel) (pa_cons (pv 0) pa_nil)) pe_int (nomark _)) (pe_join pe_str (pe_lc (own := [("k", 1)]) (g := (gName 1)) rfl nd (pi_list (pv 0)) (blkOk_by (by kernel_rfl)) (fun _ _ _ _ _ => (pg_name (i := 1) nd rfl (.inl rfl))) (fun _ _ _ _ _ => pts_nil) (fun _ _ _ _ _ => (pe_callTy call_str_int (by rfl) T.f_str (by decide +kernel) (pa_cons (pv 1) pa_nil))))) pe_str))), ?_⟩
    refine s_ret (ev_if (ev_test (ev_op (ev_cb (ea_cons (ev_var rfl h1) ea_nil) rc_lenL) ev_int ro_cmp)) (fun hb => ?_) fun hb => ?_) q
    · have hn : ns ≠ [] := by
        intro z
        rw [z] at hb
        simp at hb
      refine ev_is (ev_join ev_str (ev_is (ev_lc ns PyData.int (fun _ => true) (fun k => .str (sI k)) (ei_list (ev_var rfl h1)) (by omega) (fun _ _ _ => rfl) fun k hkm v H2 e2 av => item1 rfl et_yes fun _ => ev_cb (ea_cons (ev_var rfl av) ea_nil) (rc_str (hk k hkm).1 (by have := (hk k hkm).2; omega))) (d' := .list ((ns.map sI).map PyData.str)) (by rw [filter_yes, List.map_map]; rfl)) hj) ?_
      unfold lstS
      rw [if_neg (by simpa using hn)]
    · have hn : ns = [] := by
        have : ¬ (0 : Int) < ((ns.map PyData.int).length : Int) := by simpa using hb
        rw [List.length_map] at this
        exact List.eq_nil_of_length_eq_zero (by omega)
      subst hn
      exact ev_str
  · obtain ⟨v1, rfl, h1⟩ := ats1 hv
    refine ⟨_, (pss_one (ps_ret (pe_ifExp (pt_cmpR op_gt (pe_callB call_len_seq (by rfl) T.f_len (by decide +kernel) (pa_cons (pv 0) pa_nil)) pe_int (nomark _)) (pe_join pe_str (pe_lc (own := [("k", 1)]) (g := (gName 1)) rfl nd (pi_tup (pv 0)) (blkOk_by (by kernel_rfl)) (fun _ _ _ _ _ => (pg_name (i := 1) nd rfl (.inl rfl))) (fun _ _ _ _ _ => pts_nil) (fun _ _ _ _ _ => (pe_callTy call_str_int (by rfl) T.f_str (by decide +kernel) (pa_cons (pv 1) pa_nil))))) pe_str))), ?_⟩
    refine s_ret (ev_if (ev_test (ev_op (ev_cb (ea_cons (ev_var rfl h1) ea_nil) rc_lenT) ev_int ro_cmp)) (fun hb => ?_) fun hb => ?_) q
    · have hn : ns ≠ [] := by
        intro z
        rw [z] at hb
        simp at hb
      refine ev_is (ev_join ev_str (ev_is (ev_lc ns PyData.int (fun _ => true) (fun k => .str (sI k)) (ei_tup (ev_var rfl h1)) (by omega) (fun _ _ _ => rfl) fun k hkm v H2 e2 av => item1 rfl et_yes fun _ => ev_cb (ea_cons (ev_var rfl av) ea_nil) (rc_str (hk k hkm).1 (by have := (hk k hkm).2; omega))) (d' := .list ((ns.map sI).map PyData.str)) (by rw [filter_yes, List.map_map]; rfl)) hj) ?_
      unfold lstS
      rw [if_neg (by simpa using hn)]
    · have hn : ns = [] := by
        have : ¬ (0 : Int) < ((ns.map PyData.int).length : Int) := by simpa using hb
        rw [List.length_map] at this
        exact List.eq_nil_of_length_eq_zero (by omega)
      subst hn
      exact ev_str
end
end Hd
set_option Elab.async false
set_option linter.all false
set_option maxRecDepth 100000
set_option maxHeartbeats 4000000
/-! Handons: the plain defs, 2: spare lamps. -/
namespace Hd
open PySem PySem.Spec PyProof.Rows L2
/-! ### data that can be compared -/
theorem sh_all : ∀ {ds : List PyData}, (∀ d ∈ ds, d.canLay0 = true ∧ d.depth ≤ 60) → PyData.canLayAll0 ds = true ∧ PyData.depthAll ds ≤ 60
  | [], _ => ⟨rfl, Nat.zero_le _⟩
  | d :: ds, h => by
    obtain ⟨h1, h2⟩ := sh_all (ds := ds) fun z hz => h z (by simp [hz])
    obtain ⟨h3, h4⟩ := h d (by simp)
    constructor
    · unfold PyData.canLayAll0
      rw [h1, h3]
      rfl
    · unfold PyData.depthAll
      omega
theorem sh_seq {ds : List PyData} (h : ∀ d ∈ ds, d.canLay0 = true ∧ d.depth ≤ 60) : SeqAt.shaped (.list ds) = true ∧ SeqAt.shaped (.tuple ds) = true := by
  obtain ⟨h1, h2⟩ := sh_all h
  constructor
  · unfold SeqAt.shaped
    rw [Bool.and_eq_true]
    exact ⟨by unfold PyData.canLay0; exact h1, decide_eq_true (by unfold PyData.depth; omega)⟩
  · unfold SeqAt.shaped
    rw [Bool.and_eq_true]
    exact ⟨by unfold PyData.canLay0; exact h1, decide_eq_true (by unfold PyData.depth; omega)⟩
theorem sh_ints (ns : List Int) : SeqAt.shaped (lI ns) = true := (sh_seq fun d hd => by
  obtain ⟨n, _, rfl⟩ := List.mem_map.mp hd
  exact ⟨rfl, Nat.zero_le _⟩).1
theorem eqv_ints : ∀ a b : List Int, PyData.eqvAll (a.map PyData.int) (b.map PyData.int) = decide (a = b)
  | [], [] => by simp [PyData.eqvAll]
  | [], _ :: _ => by simp [PyData.eqvAll]
  | _ :: _, [] => by simp [PyData.eqvAll]
  | x :: a, y :: b => by
    rw [List.map_cons, List.map_cons, PyData.eqvAll, eqv_ints a b, PyData.eqv]
    rw [Bool.eq_iff_iff]
    simp
theorem eqv_lI (a b : List Int) : PyData.eqv (lI a) (lI b) = decide (a = b) := by
  unfold PyData.eqv
  exact eqv_ints a b
/-! ### mathematics -/
theorem len_add {α : Type} {p q r : α → Bool} (h : ∀ a, r a = (p a || q a)) (hd : ∀ a, p a = true → q a = false) : ∀ l : List α, (l.filter r).length = (l.filter p).length + (l.filter q).length
  | [] => rfl
  | a :: l => by
    have ih := len_add h hd l
    rw [List.filter_cons, List.filter_cons, List.filter_cons]
    cases e : p a with
    | true =>
      have := hd a e
      simp [h a, e, this]
      omega
    | false =>
      cases e2 : q a with
      | true => simp [h a, e, e2]; omega
      | false => simp [h a, e, e2]; omega
theorem fl_len {α : Type} (key g : α → Int) (A : List α) : ∀ {L : List Int}, L.Nodup → (L.flatMap fun l => (A.filter fun p => key p == l).map g).length = (A.filter fun p => has L (key p)).length
  | [], _ => by
    have e : (fun p : α => has [] (key p)) = fun _ => false := funext fun p => by simp [has]
    have e2 : A.filter (fun _ => false) = [] := List.filter_eq_nil_iff.mpr fun _ _ z => by cases z
    rw [e, e2]
    rfl
  | l :: L, h => by
    rw [List.nodup_cons] at h
    have ih := fl_len key g A h.2
    rw [List.flatMap_cons, List.length_append, ih, List.length_map]
    refine (len_add (fun a => ?_) (fun a ha => ?_) A).symm
    · rw [Bool.eq_iff_iff]
      simp [has]
    · rw [has_false]
      intro z
      have : key a = l := by simpa using ha
      rw [this] at z
      exact h.1 z
theorem fl_le {α : Type} (key g : α → Int) (A : List α) {L : List Int} (h : L.Nodup) : (L.flatMap fun l => (A.filter fun p => key p == l).map g).length ≤ A.length := by
  rw [fl_len key g A h]
  exact List.length_filter_le _ _
theorem fl_take {α : Type} (key g : α → Int) (A : List α) {L : List Int} (h : L.Nodup) (i : Nat) : ((L.take i).flatMap fun l => (A.filter fun p => key p == l).map g).length ≤ A.length := fl_le key g A (h.sublist (List.take_sublist i L))
theorem cnt_lt {n : Nat} {p q : Pr} (h : ∀ k : Int, 0 ≤ k → k < n → p k = true → q k = true) {k : Int} (h0 : 0 ≤ k) (h1 : k < n) (hp : p k = false) (hq : q k = true) : cnt n p < cnt n q := by
  have e1 : cnt n (fun j => if j = k then true else p j) = cnt n p + 1 := by
    refine cnt_one (k := k) h0 hp ?_ h1 fun j _ _ hj => ?_
    · rw [if_pos rfl]
    · rw [if_neg hj]
  have e2 : cnt n (fun j => if j = k then true else p j) ≤ cnt n q := by
    refine cnt_mono fun j a b hj => ?_
    by_cases e : j = k
    · rw [e]; exact hq
    · rw [if_neg e] at hj; exact h j a b hj
  omega
theorem fm_snoc {α β : Type} (f : α → List β) (l : List α) (x : α) : (l ++ [x]).flatMap f = l.flatMap f ++ f x := by rw [List.flatMap_append, List.flatMap_singleton]
def freshP (p q : Pr) : Pr := fun k => q k && !p k
theorem fresh_eq {n : Nat} {a b : List Int} (s : St n b) : (b.filter fun k => !has a k) = sel n (freshP (has a) (has b)) := s.filter_eq _
theorem mem_need {n : Nat} {A : List (Int × Int)} {a b some : List Int} (W : Wb n A) (k : Int) :
    k ∈ sel n (need n (ar A) (has a) (has b) (has some)) ↔ k ∈ (((sel n (freshP (has a) (has b)) ++ some).flatMap fun l => (A.filter fun p => p.2 == l).map fun p => p.1) ++ ((sel n (freshP (has b) (has a)) ++ some).flatMap fun l => (A.filter fun p => p.1 == l).map fun p => p.2)).filter fun k => !has a k && !has b k := by
  rw [mem_sel, need_iff W.ar, List.mem_filter, List.mem_append, List.mem_flatMap, List.mem_flatMap, Bool.and_eq_true, Bool.not_eq_true', Bool.not_eq_true']
  have m1 : ∀ l, ar A k l = true → (l ∈ sel n (freshP (has a) (has b)) ++ some ↔ lit (has a) (has b) (has some) l = true) := fun l hl => by
    have := W.ar _ _ hl
    rw [List.mem_append, mem_sel, lit_iff, has_iff (l := some)]
    unfold freshP
    rw [Bool.and_eq_true, Bool.not_eq_true']
    constructor
    · rintro (⟨_, h⟩ | h)
      · exact .inl h
      · exact .inr h
    · rintro (h | h)
      · exact .inl ⟨⟨by omega, by omega⟩, h⟩
      · exact .inr h
  have m2 : ∀ l, ar A l k = true → (l ∈ sel n (freshP (has b) (has a)) ++ some ↔ out (has a) (has b) (has some) l = true) := fun l hl => by
    have := W.ar _ _ hl
    rw [List.mem_append, mem_sel, out_iff, has_iff (l := some)]
    unfold freshP
    rw [Bool.and_eq_true, Bool.not_eq_true']
    constructor
    · rintro (⟨_, h⟩ | h)
      · exact .inl h
      · exact .inr h
    · rintro (h | h)
      · exact .inl ⟨⟨by omega, by omega⟩, h⟩
      · exact .inr h
  constructor
  · rintro ⟨hk, hd, h⟩
    refine ⟨?_, hd⟩
    rcases h with ⟨l, h1, h2⟩ | ⟨l, h1, h2⟩
    · exact .inl ⟨l, (m1 l h1).mpr h2, List.mem_map.mpr ⟨(k, l), List.mem_filter.mpr ⟨ar_iff.mp h1, by simp⟩, rfl⟩⟩
    · exact .inr ⟨l, (m2 l h1).mpr h2, List.mem_map.mpr ⟨(l, k), List.mem_filter.mpr ⟨ar_iff.mp h1, by simp⟩, rfl⟩⟩
  · rintro ⟨h, hd⟩
    have key : (∃ l, ar A k l = true ∧ lit (has a) (has b) (has some) l = true) ∨ ∃ o, ar A o k = true ∧ out (has a) (has b) (has some) o = true := by
      rcases h with ⟨l, h1, h2⟩ | ⟨l, h1, h2⟩
      · obtain ⟨⟨x, y⟩, hp, rfl⟩ := List.mem_map.mp h2
        obtain ⟨hq, e⟩ := List.mem_filter.mp hp
        obtain rfl : y = l := by simpa using e
        exact .inl ⟨_, ar_iff.mpr hq, (m1 _ (ar_iff.mpr hq)).mp h1⟩
      · obtain ⟨⟨x, y⟩, hp, rfl⟩ := List.mem_map.mp h2
        obtain ⟨hq, e⟩ := List.mem_filter.mp hp
        obtain rfl : x = l := by simpa using e
        exact .inr ⟨_, ar_iff.mpr hq, (m2 _ (ar_iff.mpr hq)).mp h1⟩
    refine ⟨?_, hd, key⟩
    rcases key with ⟨l, h1, _⟩ | ⟨l, h1, _⟩
    · have := W.ar _ _ h1
      omega
    · have := W.ar _ _ h1
      omega
theorem fresh_nodup {n : Nat} {p q : Pr} {some : List Int} (s : St n some) (h : ∀ k ∈ some, p k = false ∧ q k = false) : (sel n (freshP p q) ++ some).Nodup ∧ (sel n (freshP q p) ++ some).Nodup := by
  constructor
  · refine List.nodup_append.mpr ⟨sel_nodup _ _, s.nodup, fun a ha b hb e => ?_⟩
    subst e
    have h1 := (mem_sel.mp ha).2
    unfold freshP at h1
    rw [(h a hb).2] at h1
    cases h1
  · refine List.nodup_append.mpr ⟨sel_nodup _ _, s.nodup, fun a ha b hb e => ?_⟩
    subst e
    have h1 := (mem_sel.mp ha).2
    unfold freshP at h1
    rw [(h a hb).1] at h1
    cases h1
section
variable {K : PySem.W.Frag} {σ : L2.St} {H : Hp}
theorem s_while {c : TT} {tb : TS} {D : Ends} (Pv : Nat → L2.St → Hp → Prop) (h0 : ∃ m, Pv m σ H)
    (hs : ∀ m σ1 H1, Pv m σ1 H1 → ∃ b, EvT c σ1 H1 b ∧ (b = true → ∀ H2, Same H1 H2 → tb { D with nx := fun σ3 H3 => ∃ m', m' < m ∧ Pv m' σ3 H3, ct := fun σ3 H3 => ∃ m', m' < m ∧ Pv m' σ3 H3, bk := D.nx } σ1 H2) ∧ (b = false → ∀ H2, Same H1 H2 → D.nx σ1 H2)) : tWhile c tb D σ H :=
  ⟨Pv, h0, fun m σ1 H1 p => by
    obtain ⟨b, ht, h1, h2⟩ := hs m σ1 H1 p
    refine ht H1 (Same.refl H1) _ fun H2 e2 => ?_
    cases b with
    | true => exact ⟨fun σ3 H3 => ∃ m', m' < m ∧ Pv m' σ3 H3, fun _ _ z => z, h1 rfl H2 e2⟩
    | false => exact h2 rfl H2 e2⟩
end
section
variable {P : Program} {w : World} {K : PySem.W.Frag} {mg : PySem.Str → Option Value} {base : Heap} {f : Addr} {fd : FuncData}
def R_sides : List PyData → PyData → Prop := fun ds z => ∃ n a b, ds = [tI a, tI b] ∧ n ≤ 1000 ∧ St n a ∧ St n b ∧ z = .tuple [lI (sel n (freshP (has a) (has b))), lI (sel n (freshP (has b) (has a)))]
theorem sc_sides : FnScope ["one", "other", "k"] ["one", "other"] (defScope (top 25)) := ⟨rfl, rfl, rfl, by decide +kernel, rfl, by decide +kernel, by decide +kernel⟩
theorem ok_sides (F : FnP K "sides" (top 25) f fd) (T : Fre mg) : FnOk P w K mg base CX0 1 f fd ["one", "other"] (spG K R_sides) := by
  have nd := sc_sides.nd
  refine okG F sc_sides (fun ds z ⟨n, a, b, e, _⟩ => by rw [e]; rfl) fun cdv A outer s H vs Q E hr ds z hR hv q => ?_
  obtain ⟨n, a, b, rfl, hn, S1, S2, rfl⟩ := hR
  obtain ⟨v1, v2, rfl, h1, h2⟩ := ats2 hv
  have := S1.len
  have := S2.len
  refine ⟨_, (pss_one (ps_ret (pe_tup (pa_cons (pe_lc (own := [("k", 2)]) (g := (gName 2)) rfl nd (pi_tup (pv 1)) (blkOk_by (by kernel_rfl)) (fun _ _ _ _ _ => (pg_name (i := 2) nd rfl (.inl rfl))) (fun _ _ _ _ _ => pts_one (pt_cmpR (k_no (K := K) rfl) (pv 2) (pv 0) (by rfl))) (fun _ _ _ _ _ => (pv 2))) (pa_cons (pe_lc (own := [("k", 2)]) (g := (gName 2)) rfl nd (pi_tup (pv 0)) (blkOk_by (by kernel_rfl)) (fun _ _ _ _ _ => (pg_name (i := 2) nd rfl (.inl rfl))) (fun _ _ _ _ _ => pts_one (pt_cmpR (k_no (K := K) rfl) (pv 2) (pv 1) (by rfl))) (fun _ _ _ _ _ => (pv 2))) pa_nil))))), ?_⟩
  exact s_ret (ev_tup (ea_cons (ev_is (ev_lc b PyData.int (fun k => !has a k) PyData.int (ei_tup (ev_var rfl h2)) (by omega) (fun _ _ _ => rfl) fun j hj v H2 e2 av => item1 rfl (ev_test (ev_op (ev_var rfl av) (ev_var rfl (h1.mono e2)) ro_no1)) fun _ => ev_var rfl av) (by rw [fresh_eq S2])) (ea_cons (ev_is (ev_lc a PyData.int (fun k => !has b k) PyData.int (ei_tup (ev_var rfl h1)) (by omega) (fun _ _ _ => rfl) fun j hj v H2 e2 av => item1 rfl (ev_test (ev_op (ev_var rfl av) (ev_var rfl (h2.mono e2)) ro_no1)) fun _ => ev_var rfl av) (by rw [fresh_eq S1])) ea_nil))) q
def R_needs : List PyData → PyData → Prop := fun ds z => ∃ n A a b some, ds = [webD n A, tI a, tI b, lI some] ∧ Wb n A ∧ St n a ∧ St n b ∧ St n some ∧ (∀ k ∈ some, has a k = false ∧ has b k = false) ∧ z = lI (sel n (need n (ar A) (has a) (has b) (has some)))
theorem sc_needs_of : FnScope ["web", "one", "other", "some", "fresh", "old", "found", "lamp", "k"] ["web", "one", "other", "some"] (defScope (top 26)) := ⟨rfl, rfl, rfl, by decide +kernel, rfl, by decide +kernel, by decide +kernel⟩
theorem ok_needs_of (F : FnP K "needs_of" (top 26) f fd) (T : Fre mg) (c_sides : Cal P w K mg base 1 "sides" ["one", "other"] (spG K R_sides)) (c_ahead_in : Cal P w K mg base 1 "ahead_in" ["web", "lamp"] (spG K R_ahead)) (c_behind_in : Cal P w K mg base 1 "behind_in" ["web", "lamp"] (spG K R_behind)) :
    FnOk P w K mg base CX0 2 f fd ["web", "one", "other", "some"] (spG K R_needs) := by
  have nd := sc_needs_of.nd
  refine okG F sc_needs_of (fun ds z ⟨n, A, a, b, c, e, _⟩ => by rw [e]; rfl) fun cdv A0 outer s H vs Q E hr ds z hR hv q => ?_
  obtain ⟨n, A, a, b, some, rfl, W, S1, S2, S3, hd, rfl⟩ := hR
  obtain ⟨v1, v2, v3, v4, rfl, h1, h2, h3, h4⟩ := ats4 hv
  have n5 := W.n5
  have lA := W.len
  have l3 := S3.len
  have lf := sel_len n (freshP (has a) (has b))
  have lo := sel_len n (freshP (has b) (has a))
  obtain ⟨nd1, nd2⟩ := fresh_nodup (p := has a) (q := has b) S3 hd
  refine ⟨_, (pss_cons (ps_asg (c_sides.call hr rfl (pa_cons (pv 1) (pa_cons (pv 2) pa_nil)) pass0) (pg_tup rfl (pgs_cons (pg_name (i := 4) nd rfl (.inl rfl)) (pgs_cons (pg_name (i := 5) nd rfl (.inl rfl)) pgs_nil))))
    (pss_cons (ps_set (i := 6) nd rfl (.inl rfl) (pe_lst pa_nil))
    (pss_cons (ps_for PassesOwn.never rfl (pi_list (pe_op op_cat (pv 4) (pv 3))) (pg_name (i := 7) nd rfl (.inl rfl))
      (pss_one (ps_set (i := 6) nd rfl (.inl rfl) (pe_op op_cat (pv 6) (c_ahead_in.call hr rfl (pa_cons (pv 0) (pa_cons (pv 7) pa_nil)) pass0)))))
    (pss_cons (ps_for PassesOwn.never rfl (pi_list (pe_op op_cat (pv 5) (pv 3))) (pg_name (i := 7) nd rfl (.inl rfl))
      (pss_one (ps_set (i := 6) nd rfl (.inl rfl) (pe_op op_cat (pv 6) (c_behind_in.call hr rfl (pa_cons (pv 0) (pa_cons (pv 7) pa_nil)) pass0)))))
    (pss_one (ps_ret (pe_callB (cr_sortedSet rfl) (by rfl) T.f_sorted (by decide +kernel) (pa_cons (pe_callTy (cr_setL rfl) (by rfl) T.f_set (by decide +kernel) (pa_cons (pe_lc (own := [("k", 8)]) (g := (gName 8)) rfl nd (pi_list (pv 6)) (blkOk_by (by kernel_rfl)) (fun _ _ _ _ _ => (pg_name (i := 8) nd rfl (.inl rfl))) (fun _ _ _ _ _ => pts_one (PW.pt (pw_and (pt_cmpR (k_no (K := K) rfl) (pv 8) (pv 1) (by rfl)) (pw_and1 (pt_cmpR (k_no (K := K) rfl) (pv 8) (pv 2) (by rfl)))))) (fun _ _ _ _ _ => (pv 8))) pa_nil)) pa_nil)))))))), ?_⟩
  refine s_unp (ev_call (ea_cons (ev_var rfl h2) (ea_cons (ev_var rfl h3) ea_nil)) ⟨n, a, b, rfl, by omega, S1, S2, rfl⟩) fun vf vo H1 e1 hf ho => ?_
  refine s_set (K := K) (ev_lst ea_nil) fun v6 H2 e2 h6 => ?_
  refine s_for (ei_list (ev_is (ev_op (ev_var rfl (hf.mono e2)) (ev_var rfl (h4.mono (e1.trans e2))) (ro_cat (by simp; omega))) (d' := lI (sel n (freshP (has a) (has b)) ++ some)) (by rw [lI, List.map_append]))) fun H3 e3 => ?_
  have e13 := e1.trans (e2.trans e3)
  refine ⟨fun i σ Hc => ∃ v6 y, σ = [.some v1, .some v2, .some v3, .some v4, .some vf, .some vo, .some v6, y, none] ∧ At K Hc v6 (lI (((sel n (freshP (has a) (has b)) ++ some).take i).flatMap fun l => (A.filter fun p => p.2 == l).map fun p => p.1)), ⟨v6, none, rfl, h6.mono e3⟩, ?_, ?_⟩
  · rintro i d v σ1 H4 H5 hd ⟨v6, y, rfl, h6⟩ s1 s2 av
    rw [List.getElem?_map] at hd
    obtain ⟨l, hl, rfl⟩ := Option.map_eq_some_iff.mp hd
    have eT := e13.trans (s1.trans s2)
    have lt := fl_take (fun p : Int × Int => p.2) (fun p => p.1) A nd1 i
    have lt' : ((A.filter fun p => p.2 == l).map fun p => p.1).length ≤ A.length := by rw [List.length_map]; exact List.length_filter_le _ _
    refine s_set (ev_op (ev_var rfl (h6.mono s2)) (ev_call (ea_cons (ev_var rfl (h1.mono eT)) (ea_cons (ev_var rfl av) ea_nil)) ⟨n, A, l, rfl, by omega, rfl⟩) (ro_cat (by rw [List.length_map, List.length_map]; omega))) fun v6' H6 e6 h6' => ⟨⟨v6', _, rfl, ?_⟩, s1.trans (s2.trans e6)⟩
    rw [take_snoc hl, fm_snoc, lI, List.map_append]
    exact h6'
  rintro σ1 H4 ⟨v6, y, rfl, h6⟩ s4
  rw [List.length_map, List.take_length] at h6
  have e14 := e13.trans s4
  refine s_for (ei_list (ev_is (ev_op (ev_var rfl (ho.mono (e2.trans (e3.trans s4)))) (ev_var rfl (h4.mono e14)) (ro_cat (by simp; omega))) (d' := lI (sel n (freshP (has b) (has a)) ++ some)) (by rw [lI, List.map_append]))) fun H5 e5 => ?_
  have e15 := e14.trans e5
  have lt1 := fl_le (fun p : Int × Int => p.2) (fun p => p.1) A nd1
  have lt2 := fl_le (fun p : Int × Int => p.1) (fun p => p.2) A nd2
  refine ⟨fun i σ Hc => ∃ v6 y, σ = [.some v1, .some v2, .some v3, .some v4, .some vf, .some vo, .some v6, y, none] ∧ At K Hc v6 (lI (((sel n (freshP (has a) (has b)) ++ some).flatMap fun l => (A.filter fun p => p.2 == l).map fun p => p.1) ++ ((sel n (freshP (has b) (has a)) ++ some).take i).flatMap fun l => (A.filter fun p => p.1 == l).map fun p => p.2)), ⟨v6, _, rfl, by rw [List.take_zero, List.flatMap_nil, List.append_nil]; exact h6.mono e5⟩, ?_, ?_⟩
  · rintro i d v σ1 H4 H5 hd ⟨v6, y, rfl, h6⟩ s1 s2 av
    rw [List.getElem?_map] at hd
    obtain ⟨l, hl, rfl⟩ := Option.map_eq_some_iff.mp hd
    have eT := e15.trans (s1.trans s2)
    have lt := fl_take (fun p : Int × Int => p.1) (fun p => p.2) A nd2 i
    have lt' : ((A.filter fun p => p.1 == l).map fun p => p.2).length ≤ A.length := by rw [List.length_map]; exact List.length_filter_le _ _
    refine s_set (ev_op (ev_var rfl (h6.mono s2)) (ev_call (ea_cons (ev_var rfl (h1.mono eT)) (ea_cons (ev_var rfl av) ea_nil)) ⟨n, A, l, rfl, by omega, rfl⟩) (ro_cat (by rw [List.length_map, List.length_map, List.length_append]; omega))) fun v6' H6 e6 h6' => ⟨⟨v6', _, rfl, ?_⟩, s1.trans (s2.trans e6)⟩
    rw [take_snoc hl, fm_snoc, ← List.append_assoc, lI, List.map_append]
    exact h6'
  rintro σ1 H6 ⟨v6, y, rfl, h6⟩ s6
  rw [List.length_map, List.take_length] at h6
  have e16 := e15.trans s6
  refine s_ret (ev_sset (ev_is (ev_lc _ PyData.int (fun k => !has a k && !has b k) PyData.int (ei_list (ev_var rfl h6)) ?_ (fun _ _ _ => rfl) fun j hj v H7 e7 av => item1 rfl (et_and (ev_test (ev_op (ev_var rfl av) (ev_var rfl (h2.mono (e16.trans e7))) ro_no1)) fun _ => ev_test (ev_op (ev_var rfl av) (ev_var rfl (h3.mono (e16.trans e7))) ro_no1)) fun _ => ev_var rfl av) rfl) ?_ (sel_asc _ _) fun k => mem_need W k) fun v H7 e7 av => q v H7 (e16.trans e7) av
  · rw [List.length_append]
    omega
  · refine Nat.lt_of_le_of_lt (List.length_filter_le _ _) ?_
    rw [List.length_append]
    omega
def R_spare : List PyData → PyData → Prop := fun ds z => ∃ n A a b, ds = [webD n A, tI a, tI b] ∧ Wb n A ∧ St n a ∧ St n b ∧ z = lI (sel n (sp n (ar A) (has a) (has b)))
theorem sc_spare_in : FnScope ["web", "one", "other", "found"] ["web", "one", "other"] (defScope (top 27)) := ⟨rfl, rfl, rfl, by decide +kernel, rfl, by decide +kernel, by decide +kernel⟩
theorem ok_spare_in (F : FnP K "spare_in" (top 27) f fd) (T : Fre mg) (c_needs_of : Cal P w K mg base 2 "needs_of" ["web", "one", "other", "some"] (spG K R_needs)) : FnOk P w K mg base CX0 3 f fd ["web", "one", "other"] (spG K R_spare) := by
  have nd := sc_spare_in.nd
  refine okG F sc_spare_in (fun ds z ⟨n, A, a, b, e, _⟩ => by rw [e]; rfl) fun cdv A0 outer s H vs Q E hr ds z hR hv q => ?_
  obtain ⟨n, A, a, b, rfl, W, S1, S2, rfl⟩ := hR
  obtain ⟨v1, v2, v3, rfl, h1, h2, h3⟩ := ats3 hv
  have n5 := W.n5
  refine ⟨_, (pss_cons (ps_set (i := 3) nd rfl (.inl rfl) (pe_lst pa_nil))
    (pss_cons (ps_while PassesOwn.never (pt_cmpR (k_neD (K := K) rfl hr.units) (c_needs_of.call hr rfl (pa_cons (pv 0) (pa_cons (pv 1) (pa_cons (pv 2) (pa_cons (pv 3) pa_nil)))) pass0) (pv 3) (nomark _))
      (pss_one (ps_set (i := 3) nd rfl (.inl rfl) (pe_callB (cr_sortedSet rfl) (by rfl) T.f_sorted (by decide +kernel) (pa_cons (pe_callTy (cr_setL rfl) (by rfl) T.f_set (by decide +kernel) (pa_cons (pe_op op_cat (pv 3) (c_needs_of.call hr rfl (pa_cons (pv 0) (pa_cons (pv 1) (pa_cons (pv 2) (pa_cons (pv 3) pa_nil)))) pass0)) pa_nil)) pa_nil)))))
    (pss_one (ps_ret (pv 3))))), ?_⟩
  refine s_set (K := K) (ev_lst ea_nil) fun v4 H1 e1 h4 => ?_
  refine s_while (fun m σ Hc => ∃ (X : List Int) (v4 : V), σ = [.some v1, .some v2, .some v3, .some v4] ∧ Same H Hc ∧ At K Hc v4 (lI X) ∧ St n X ∧ (∀ k ∈ X, sp n (ar A) (has a) (has b) k = true) ∧ (∀ k ∈ X, need n (ar A) (has a) (has b) (has X) k = true) ∧ m + X.length = n) ⟨n, [], v4, rfl, e1, h4, St.nil n, by simp, by simp, rfl⟩ ?_
  rintro m σ1 H2 ⟨X, v4, rfl, e2, h4, SX, hsp, hin, hm⟩
  have hd : ∀ k ∈ X, has a k = false ∧ has b k = false := fun k hk => (sp_dark W.ar (hsp k hk)).1
  refine ⟨_, ev_test (ev_op (ev_call (ea_cons (ev_var rfl (h1.mono e2)) (ea_cons (ev_var rfl (h2.mono e2)) (ea_cons (ev_var rfl (h3.mono e2)) (ea_cons (ev_var rfl h4) ea_nil)))) ⟨n, A, a, b, X, rfl, W, S1, S2, SX, hd, rfl⟩) (ev_var rfl h4) (ro_neD (sh_ints _) (sh_ints _))), fun hb H3 e3 => ?_, fun hb H3 e3 => ?_⟩
  · rw [eqv_lI] at hb
    have hne : ¬ sel n (need n (ar A) (has a) (has b) (has X)) = X := by simpa using hb
    have e23 := e2.trans e3
    have lX := SX.len
    have ln := sel_len n (need n (ar A) (has a) (has b) (has X))
    refine s_set (ev_sset (ms := sel n (grow n (ar A) (has a) (has b) (has X))) (ev_is (ev_op (ev_var rfl (h4.mono e3)) (ev_call (ea_cons (ev_var rfl (h1.mono e23)) (ea_cons (ev_var rfl (h2.mono e23)) (ea_cons (ev_var rfl (h3.mono e23)) (ea_cons (ev_var rfl (h4.mono e3)) ea_nil)))) ⟨n, A, a, b, X, rfl, W, S1, S2, SX, hd, rfl⟩) (ro_cat (by rw [List.length_map, List.length_map]; omega))) (d' := lI (X ++ sel n (need n (ar A) (has a) (has b) (has X)))) (by rw [lI, List.map_append])) (by rw [List.length_append]; omega) (sel_asc _ _) fun k => ?_) fun v4' H4 e4 h4' => ?_
    · rw [mem_sel, grow_iff, List.mem_append, mem_sel, has_iff]
      constructor
      · rintro ⟨h, z | z⟩
        · exact .inl z
        · exact .inr ⟨h, z⟩
      · rintro (z | ⟨h, z⟩)
        · exact ⟨SX.inr k z, .inl z⟩
        · exact ⟨h, .inr z⟩
    have hg : ∀ k, has (sel n (grow n (ar A) (has a) (has b) (has X))) k = true ↔ k ∈ X ∨ need n (ar A) (has a) (has b) (has X) k = true := fun k => by
      rw [has_iff, mem_sel, grow_iff, has_iff]
      constructor
      · exact fun z => z.2
      · rintro (z | z)
        · exact ⟨SX.inr k z, .inl z⟩
        · exact ⟨need_in W.ar z, .inr z⟩
    have hmono : ∀ k, need n (ar A) (has a) (has b) (has X) k = true → need n (ar A) (has a) (has b) (has (sel n (grow n (ar A) (has a) (has b) (has X)))) k = true := fun k hk => need_mono W.ar (fun j hj => (hg j).mpr (.inl (has_iff.mp hj))) hk
    have hlt : X.length < (sel n (grow n (ar A) (has a) (has b) (has X))).length := by
      obtain ⟨k, hk⟩ : ∃ k, ¬ (k ∈ sel n (need n (ar A) (has a) (has b) (has X)) ↔ k ∈ X) := by
        refine Classical.byContradiction fun z => hne (asc_ext (sel_asc _ _) SX.asc fun k => ?_)
        exact Classical.byContradiction fun y => z ⟨k, y⟩
      have hk1 : need n (ar A) (has a) (has b) (has X) k = true ∧ k ∉ X := by
        by_cases hX : k ∈ X
        · exact absurd ⟨fun _ => hX, fun _ => mem_sel.mpr ⟨SX.inr k hX, hin k hX⟩⟩ hk
        · refine ⟨Classical.byContradiction fun z => hk ⟨fun y => absurd (mem_sel.mp y).2 z, fun y => absurd y hX⟩, hX⟩
      have hin' := need_in W.ar hk1.1
      have e := SX.eq
      rw [e]
      refine cnt_lt (p := has X) (q := grow n (ar A) (has a) (has b) (has (sel n (has X)))) (fun j _ _ hj => ?_) hin'.1 hin'.2 (has_false.mpr hk1.2) ?_
      · rw [← e]; exact grow_iff.mpr (.inl hj)
      · rw [← e]; exact grow_iff.mpr (.inr hk1.1)
    have lg := sel_len n (grow n (ar A) (has a) (has b) (has X))
    refine ⟨n - (sel n (grow n (ar A) (has a) (has b) (has X))).length, by omega, _, v4', rfl, e23.trans e4, h4', St.sel _ _, fun k hk => ?_, fun k hk => ?_, by omega⟩
    · rcases (hg k).mp (has_iff.mpr hk) with z | z
      · exact hsp k z
      · exact sp_closed W.ar k (need_mono W.ar (fun j hj => hsp j (has_iff.mp hj)) z)
    · rcases (hg k).mp (has_iff.mpr hk) with z | z
      · exact hmono k (hin k z)
      · exact hmono k z
  · rw [eqv_lI] at hb
    have he : sel n (need n (ar A) (has a) (has b) (has X)) = X := by simpa using hb
    have hX : X = sel n (sp n (ar A) (has a) (has b)) := by
      rw [← sp_unique W.ar (T := has X) (fun k hk => ?_) fun k hk => hsp k (has_iff.mp hk)]
      · exact SX.eq
      · rw [has_iff, ← he, mem_sel]
        exact ⟨need_in W.ar hk, hk⟩
    rw [← hX] at q
    exact s_ret (ev_var rfl (h4.mono e3)) fun v H4 e4 av => q v H4 (e2.trans (e3.trans e4)) av
def R_lit : List PyData → PyData → Prop := fun ds z => ∃ n A a b, ds = [webD n A, tI a, tI b] ∧ Wb n A ∧ St n a ∧ St n b ∧ z = lI (sel n (litS n (ar A) (has a) (has b)))
theorem sc_lit_in : FnScope ["web", "one", "other"] ["web", "one", "other"] (defScope (top 28)) := ⟨rfl, rfl, rfl, by decide +kernel, rfl, by decide +kernel, by decide +kernel⟩
theorem ok_lit_in (F : FnP K "lit_in" (top 28) f fd) (T : Fre mg) (c_sides : Cal P w K mg base 1 "sides" ["one", "other"] (spG K R_sides)) (c_spare_in : Cal P w K mg base 3 "spare_in" ["web", "one", "other"] (spG K R_spare)) : FnOk P w K mg base CX0 4 f fd ["web", "one", "other"] (spG K R_lit) := by
  have nd := sc_lit_in.nd
  refine okG F sc_lit_in (fun ds z ⟨n, A, a, b, e, _⟩ => by rw [e]; rfl) fun cdv A0 outer s H vs Q E hr ds z hR hv q => ?_
  obtain ⟨n, A, a, b, rfl, W, S1, S2, rfl⟩ := hR
  obtain ⟨v1, v2, v3, rfl, h1, h2, h3⟩ := ats3 hv
  have n5 := W.n5
  have l1 := sel_len n (freshP (has a) (has b))
  have l2 := sel_len n (sp n (ar A) (has a) (has b))
  refine ⟨_, (pss_one (ps_ret (pe_callB cr_sorted (by rfl) T.f_sorted (by decide +kernel) (pa_cons (pe_op op_cat (pe_ix (k_ixt (K := K) rfl) (c_sides.call hr rfl (pa_cons (pv 1) (pa_cons (pv 2) pa_nil)) pass0) pe_int (fun _ _ => rfl)) (c_spare_in.call hr rfl (pa_cons (pv 0) (pa_cons (pv 1) (pa_cons (pv 2) pa_nil))) pass0)) pa_nil)))), ?_⟩
  refine s_ret (ev_cb (ea_cons (ev_is (ev_op (ev_op (ev_call (ea_cons (ev_var rfl h2) (ea_cons (ev_var rfl h3) ea_nil)) ⟨n, a, b, rfl, by omega, S1, S2, rfl⟩) ev_int ro_ix0) (ev_call (ea_cons (ev_var rfl h1) (ea_cons (ev_var rfl h2) (ea_cons (ev_var rfl h3) ea_nil))) ⟨n, A, a, b, rfl, W, S1, S2, rfl⟩) (ro_cat (by rw [List.length_map, List.length_map]; omega))) (d' := lI (sel n (freshP (has a) (has b)) ++ sel n (sp n (ar A) (has a) (has b)))) (by rw [lI, List.map_append])) ea_nil) (rc_srt (app_nodup fun k hk => ?_) (by rw [List.length_append]; omega) (sel_asc _ _) fun k => mem_app)) q
  refine Bool.eq_false_iff.mpr fun z => ?_
  unfold freshP at hk
  rw [(sp_dark W.ar z).1.2] at hk
  cases hk
def R_out : List PyData → PyData → Prop := fun ds z => ∃ n A a b, ds = [webD n A, tI a, tI b] ∧ Wb n A ∧ St n a ∧ St n b ∧ z = lI (sel n (outS n (ar A) (has a) (has b)))
theorem sc_out_in : FnScope ["web", "one", "other"] ["web", "one", "other"] (defScope (top 29)) := ⟨rfl, rfl, rfl, by decide +kernel, rfl, by decide +kernel, by decide +kernel⟩
theorem ok_out_in (F : FnP K "out_in" (top 29) f fd) (T : Fre mg) (c_sides : Cal P w K mg base 1 "sides" ["one", "other"] (spG K R_sides)) (c_spare_in : Cal P w K mg base 3 "spare_in" ["web", "one", "other"] (spG K R_spare)) : FnOk P w K mg base CX0 4 f fd ["web", "one", "other"] (spG K R_out) := by
  have nd := sc_out_in.nd
  refine okG F sc_out_in (fun ds z ⟨n, A, a, b, e, _⟩ => by rw [e]; rfl) fun cdv A0 outer s H vs Q E hr ds z hR hv q => ?_
  obtain ⟨n, A, a, b, rfl, W, S1, S2, rfl⟩ := hR
  obtain ⟨v1, v2, v3, rfl, h1, h2, h3⟩ := ats3 hv
  have n5 := W.n5
  have l1 := sel_len n (freshP (has b) (has a))
  have l2 := sel_len n (sp n (ar A) (has a) (has b))
  refine ⟨_, (pss_one (ps_ret (pe_callB cr_sorted (by rfl) T.f_sorted (by decide +kernel) (pa_cons (pe_op op_cat (pe_ix (k_ixt (K := K) rfl) (c_sides.call hr rfl (pa_cons (pv 1) (pa_cons (pv 2) pa_nil)) pass0) pe_int (fun _ _ => rfl)) (c_spare_in.call hr rfl (pa_cons (pv 0) (pa_cons (pv 1) (pa_cons (pv 2) pa_nil))) pass0)) pa_nil)))), ?_⟩
  refine s_ret (ev_cb (ea_cons (ev_is (ev_op (ev_op (ev_call (ea_cons (ev_var rfl h2) (ea_cons (ev_var rfl h3) ea_nil)) ⟨n, a, b, rfl, by omega, S1, S2, rfl⟩) ev_int ro_ix1) (ev_call (ea_cons (ev_var rfl h1) (ea_cons (ev_var rfl h2) (ea_cons (ev_var rfl h3) ea_nil))) ⟨n, A, a, b, rfl, W, S1, S2, rfl⟩) (ro_cat (by rw [List.length_map, List.length_map]; omega))) (d' := lI (sel n (freshP (has b) (has a)) ++ sel n (sp n (ar A) (has a) (has b)))) (by rw [lI, List.map_append])) ea_nil) (rc_srt (app_nodup fun k hk => ?_) (by rw [List.length_append]; omega) (sel_asc _ _) fun k => mem_app)) q
  refine Bool.eq_false_iff.mpr fun z => ?_
  unfold freshP at hk
  rw [(sp_dark W.ar z).1.1] at hk
  cases hk
def R_fewest : List PyData → PyData → Prop := fun ds z => ∃ n A a b, ds = [webD n A, tI a, tI b] ∧ Wb n A ∧ St n a ∧ St n b ∧ z = .int (dist n (ar A) (has a) (has b))
theorem sc_fewest_in : FnScope ["web", "one", "other", "fresh", "old"] ["web", "one", "other"] (defScope (top 30)) := ⟨rfl, rfl, rfl, by decide +kernel, rfl, by decide +kernel, by decide +kernel⟩
theorem fresh_cnt (n : Nat) (p q : Pr) : (sel n (freshP p q)).length + (sel n (freshP q p)).length = cnt n fun k => p k != q k := by
  have h := cnt_or (n := n) (p := freshP p q) (q := freshP q p) fun k _ _ hk => by
    unfold freshP at hk ⊢
    rw [Bool.and_eq_true] at hk
    rw [hk.1]
    simp
  have e : cnt n (fun k => freshP p q k || freshP q p k) = cnt n fun k => p k != q k := cnt_congr fun k _ _ => by
    unfold freshP
    cases p k <;> cases q k <;> rfl
  rw [← e, h]
  rfl
theorem ok_fewest_in (F : FnP K "fewest_in" (top 30) f fd) (T : Fre mg) (c_sides : Cal P w K mg base 1 "sides" ["one", "other"] (spG K R_sides)) (c_spare_in : Cal P w K mg base 3 "spare_in" ["web", "one", "other"] (spG K R_spare)) : FnOk P w K mg base CX0 4 f fd ["web", "one", "other"] (spG K R_fewest) := by
  have nd := sc_fewest_in.nd
  refine okG F sc_fewest_in (fun ds z ⟨n, A, a, b, e, _⟩ => by rw [e]; rfl) fun cdv A0 outer s H vs Q E hr ds z hR hv q => ?_
  obtain ⟨n, A, a, b, rfl, W, S1, S2, rfl⟩ := hR
  obtain ⟨v1, v2, v3, rfl, h1, h2, h3⟩ := ats3 hv
  have n5 := W.n5
  have l2 := sel_len n (sp n (ar A) (has a) (has b))
  refine ⟨_, (pss_cons (ps_asg (c_sides.call hr rfl (pa_cons (pv 1) (pa_cons (pv 2) pa_nil)) pass0) (pg_tup rfl (pgs_cons (pg_name (i := 3) nd rfl (.inl rfl)) (pgs_cons (pg_name (i := 4) nd rfl (.inl rfl)) pgs_nil))))
    (pss_one (ps_ret (pe_op op_add (pe_op op_add (pe_callB call_len_seq (by rfl) T.f_len (by decide +kernel) (pa_cons (pv 3) pa_nil)) (pe_callB call_len_seq (by rfl) T.f_len (by decide +kernel) (pa_cons (pv 4) pa_nil))) (pe_op op_mulW pe_int (pe_callB call_len_seq (by rfl) T.f_len (by decide +kernel) (pa_cons (c_spare_in.call hr rfl (pa_cons (pv 0) (pa_cons (pv 1) (pa_cons (pv 2) pa_nil))) pass0) pa_nil))))))), ?_⟩
  refine s_unp (ev_call (ea_cons (ev_var rfl h2) (ea_cons (ev_var rfl h3) ea_nil)) ⟨n, a, b, rfl, by omega, S1, S2, rfl⟩) fun vf vo H1 e1 hf ho => ?_
  refine s_ret (ev_is (ev_op (ev_op (ev_cb (ea_cons (ev_var rfl hf) ea_nil) rc_lenL) (ev_cb (ea_cons (ev_var rfl ho) ea_nil) rc_lenL) ro_int) (ev_op ev_int (ev_cb (ea_cons (ev_call (ea_cons (ev_var rfl (h1.mono e1)) (ea_cons (ev_var rfl (h2.mono e1)) (ea_cons (ev_var rfl (h3.mono e1)) ea_nil))) ⟨n, A, a, b, rfl, W, S1, S2, rfl⟩) ea_nil) rc_lenL) (ro_intC (wide_mul (a := 2) (b := 10) (by decide) (by rw [List.length_map, Int.natAbs_natCast]; omega) (by decide) (by decide) (by decide)))) ro_int) ?_) fun v H2 e2 av => q v H2 (e1.trans e2) av
  have h := fresh_cnt n (has a) (has b)
  have e : ((dist n (ar A) (has a) (has b) : Nat) : Int) = ((sel n (freshP (has a) (has b))).length : Int) + ((sel n (freshP (has b) (has a))).length : Int) + 2 * ((sel n (sp n (ar A) (has a) (has b))).length : Int) := by
    have e : dist n (ar A) (has a) (has b) = cnt n (fun k => has a k != has b k) + 2 * (sel n (sp n (ar A) (has a) (has b))).length := rfl
    rw [e, ← h]
    omega
  rw [e, List.length_map, List.length_map, List.length_map]
end
end Hd
set_option Elab.async false
set_option linter.all false
set_option maxRecDepth 100000
set_option maxHeartbeats 4000000
/-! Handons: the plain defs, 3: deeds and their order. -/
namespace Hd
open PySem PySem.Spec PyProof.Rows L2
abbrev Deed := Bool × Int
abbrev ddD (d : Deed) : PyData := .tuple [.bool d.1, .int d.2]
abbrev ppD (p : Deed × Deed) : PyData := .tuple [ddD p.1, ddD p.2]
/-! ### mathematics -/
def dds (n : Nat) (a : Int → Int → Bool) (p q : Pr) : List Deed := (sel n (litS n a p q)).map (fun k => (true, k)) ++ (sel n (outS n a p q)).map fun k => (false, k)
def bef (A : List (Int × Int)) (d e : Deed) : Bool := if d.1 && !e.1 then d.2 == e.2 || decide ((e.2, d.2) ∈ A) else d.1 == e.1 && decide ((d.2, e.2) ∈ A)
def prs (A : List (Int × Int)) (some : List Deed) : List (Deed × Deed) := some.flatMap fun d => (some.filter fun e => bef A d e).map fun e => (d, e)
def nxts (some : List Deed) (pairs : List (Deed × Deed)) : List Deed := some.filter fun d => ((pairs.filter fun p => decide (p.2 = d) && decide (p.1 ∈ some)).map fun p => ddD p.1).isEmpty
theorem dds_len (n : Nat) (a : Int → Int → Bool) (p q : Pr) : (dds n a p q).length ≤ n + n := by
  unfold dds
  rw [List.length_append, List.length_map, List.length_map]
  exact Nat.add_le_add (sel_len _ _) (sel_len _ _)
theorem mem_dds {n : Nat} {a : Int → Int → Bool} {p q : Pr} {d : Deed} : d ∈ dds n a p q ↔ (0 ≤ d.2 ∧ d.2 < n) ∧ ((d.1 = true ∧ litS n a p q d.2 = true) ∨ (d.1 = false ∧ outS n a p q d.2 = true)) := by
  obtain ⟨s, k⟩ := d
  unfold dds
  rw [List.mem_append, List.mem_map, List.mem_map]
  constructor
  · rintro (⟨j, hj, e⟩ | ⟨j, hj, e⟩)
    · cases e
      obtain ⟨h1, h2⟩ := mem_sel.mp hj
      exact ⟨h1, .inl ⟨rfl, h2⟩⟩
    · cases e
      obtain ⟨h1, h2⟩ := mem_sel.mp hj
      exact ⟨h1, .inr ⟨rfl, h2⟩⟩
  · rintro ⟨h, ⟨e, h2⟩ | ⟨e, h2⟩⟩
    · cases e
      exact .inl ⟨k, mem_sel.mpr ⟨h, h2⟩, rfl⟩
    · cases e
      exact .inr ⟨k, mem_sel.mpr ⟨h, h2⟩, rfl⟩
theorem mem_nxts {some : List Deed} {pairs : List (Deed × Deed)} {d : Deed} : d ∈ nxts some pairs ↔ d ∈ some ∧ ∀ p ∈ pairs, p.2 = d → p.1 ∉ some := by
  unfold nxts
  rw [List.mem_filter, List.isEmpty_iff, List.map_eq_nil_iff, List.filter_eq_nil_iff]
  constructor
  · rintro ⟨h, z⟩
    exact ⟨h, fun p hp e y => z p hp (by simp [e, y])⟩
  · rintro ⟨h, z⟩
    refine ⟨h, fun p hp y => ?_⟩
    rw [Bool.and_eq_true, decide_eq_true_iff, decide_eq_true_iff] at y
    exact z p hp y.1 y.2
theorem mem_prs {A : List (Int × Int)} {some : List Deed} {p : Deed × Deed} : p ∈ prs A some ↔ p.1 ∈ some ∧ p.2 ∈ some ∧ bef A p.1 p.2 = true := by
  obtain ⟨x, y⟩ := p
  unfold prs
  rw [List.mem_flatMap]
  constructor
  · rintro ⟨d, hd, h⟩
    obtain ⟨e, he, z⟩ := List.mem_map.mp h
    cases z
    obtain ⟨h1, h2⟩ := List.mem_filter.mp he
    exact ⟨hd, h1, h2⟩
  · rintro ⟨h1, h2, h3⟩
    exact ⟨x, h1, List.mem_map.mpr ⟨y, List.mem_filter.mpr ⟨h2, h3⟩, rfl⟩⟩
def rank (n : Nat) (d : Deed) : Int := if d.1 then d.2 else n + d.2
theorem bef_rank {n : Nat} {A : List (Int × Int)} (W : Wb n A) {d e : Deed} (hd : 0 ≤ d.2 ∧ d.2 < n) (he : 0 ≤ e.2 ∧ e.2 < n) (h : bef A d e = true) : rank n d < rank n e := by
  obtain ⟨s, k⟩ := d
  obtain ⟨t, j⟩ := e
  unfold bef at h
  unfold rank
  simp only at hd he h ⊢
  cases s <;> cases t <;> simp at h ⊢
  · have := W.up _ h; simp at this; omega
  · omega
  · have := W.up _ h; simp at this; omega
theorem least_of {α : Type} (r : α → Int) : ∀ l : List α, l ≠ [] → ∃ d ∈ l, ∀ e ∈ l, r d ≤ r e
  | [], h => absurd rfl h
  | [d], _ => ⟨d, by simp, by simp⟩
  | d :: e :: l, _ => by
    obtain ⟨x, hx, hl⟩ := least_of r (e :: l) (by simp)
    by_cases h : r d ≤ r x
    · refine ⟨d, by simp, fun y hy => ?_⟩
      rcases List.mem_cons.mp hy with z | z
      · rw [z]; exact Int.le_refl _
      · have := hl y z; omega
    · refine ⟨x, List.mem_cons_of_mem _ hx, fun y hy => ?_⟩
      rcases List.mem_cons.mp hy with z | z
      · rw [z]; omega
      · exact hl y z
theorem nxts_ne {n : Nat} {A : List (Int × Int)} (W : Wb n A) {all some : List Deed} (hall : ∀ d ∈ all, 0 ≤ d.2 ∧ d.2 < n) (hs : ∀ d ∈ some, d ∈ all) (h : some ≠ []) : nxts some (prs A all) ≠ [] := by
  obtain ⟨d, hd, hl⟩ := least_of (rank n) some h
  refine List.ne_nil_of_mem (a := d) (mem_nxts.mpr ⟨hd, fun p hp e z => ?_⟩)
  obtain ⟨h1, h2, h3⟩ := mem_prs.mp hp
  have := bef_rank W (hall _ h1) (hall _ h2) h3
  rw [e] at this
  have := hl _ z
  omega
theorem dds_nxts {n : Nat} {A : List (Int × Int)} (W : Wb n A) {p q : Pr} {k : Int} : (∃ s, (s, k) ∈ nxts (dds n (ar A) p q) (prs A (dds n (ar A) p q))) ↔ k ∈ sel n (nxt n (ar A) p q) := by
  have key : ∀ s, (s, k) ∈ nxts (dds n (ar A) p q) (prs A (dds n (ar A) p q)) ↔ (s, k) ∈ dds n (ar A) p q ∧ ∀ e ∈ dds n (ar A) p q, bef A e (s, k) = false := fun s => by
    rw [mem_nxts]
    constructor
    · rintro ⟨h, z⟩
      refine ⟨h, fun e he => Bool.eq_false_iff.mpr fun y => z (e, (s, k)) (mem_prs.mpr ⟨he, h, y⟩) rfl he⟩
    · rintro ⟨h, z⟩
      refine ⟨h, fun x hx e y => ?_⟩
      obtain ⟨h1, h2, h3⟩ := mem_prs.mp hx
      have := z _ h1
      rw [← e, h3] at this
      cases this
  rw [mem_sel, nxt_iff W.ar]
  constructor
  · rintro ⟨s, hs⟩
    obtain ⟨hm, z⟩ := (key s).mp hs
    obtain ⟨hk, h⟩ := mem_dds.mp hm
    clear hm
    refine ⟨hk, ?_⟩
    have zl : ∀ j : Int, 0 ≤ j → j < n → litS n (ar A) p q j = true → bef A (true, j) (s, k) = false := fun j h0 h1 hj => z _ (mem_dds.mpr ⟨⟨h0, h1⟩, .inl ⟨rfl, hj⟩⟩)
    have zo : ∀ j : Int, 0 ≤ j → j < n → outS n (ar A) p q j = true → bef A (false, j) (s, k) = false := fun j h0 h1 hj => z _ (mem_dds.mpr ⟨⟨h0, h1⟩, .inr ⟨rfl, hj⟩⟩)
    rcases h with ⟨e, h⟩ | ⟨e, h⟩
    · simp only at e
      subst e
      refine .inl ⟨h, fun j hj => Bool.eq_false_iff.mpr fun y => ?_⟩
      have u := W.ar _ _ hj
      have := zl j (by omega) (by omega) y
      unfold bef at this
      simp [ar_iff.mp hj] at this
    · simp only at e
      subst e
      refine .inr ⟨Bool.eq_false_iff.mpr fun y => ?_, h, fun j hj => Bool.eq_false_iff.mpr fun y => ?_, fun j hj => Bool.eq_false_iff.mpr fun y => ?_⟩
      · have := zl k hk.1 hk.2 y
        unfold bef at this
        simp at this
      · have u := W.ar _ _ hj
        have := zl j (by omega) (by omega) y
        unfold bef at this
        simp [ar_iff.mp hj] at this
      · have u := W.ar _ _ hj
        have := zo j (by omega) (by omega) y
        unfold bef at this
        simp [ar_iff.mp hj] at this
  · rintro ⟨hk, ⟨h, z⟩ | ⟨hl, h, z1, z2⟩⟩
    · refine ⟨true, (key true).mpr ⟨mem_dds.mpr ⟨hk, .inl ⟨rfl, h⟩⟩, fun e he => Bool.eq_false_iff.mpr fun y => ?_⟩⟩
      obtain ⟨s, j⟩ := e
      obtain ⟨hj, h2⟩ := mem_dds.mp he
      unfold bef at y
      cases s
      · simp at y
      · simp at y h2
        have := z j (ar_iff.mpr y)
        rw [h2] at this
        cases this
    · refine ⟨false, (key false).mpr ⟨mem_dds.mpr ⟨hk, .inr ⟨rfl, h⟩⟩, fun e he => Bool.eq_false_iff.mpr fun y => ?_⟩⟩
      obtain ⟨s, j⟩ := e
      obtain ⟨hj, h2⟩ := mem_dds.mp he
      unfold bef at y
      cases s
      · simp at y h2
        have := z2 j (ar_iff.mpr y)
        rw [h2] at this
        cases this
      · simp at y h2
        rcases y with rfl | y
        · rw [h2] at hl; cases hl
        · have := z1 j (ar_iff.mpr y)
          rw [h2] at this
          cases this
theorem take1_min {l : List Int} (h : l.Pairwise (· < ·)) {k : Int} (hk : k ∈ l) (hl : ∀ j ∈ l, k ≤ j) : l.take 1 = [k] := by
  cases l with
  | nil => simp at hk
  | cons a l =>
    rw [List.pairwise_cons] at h
    have h1 := hl a (by simp)
    rcases List.mem_cons.mp hk with e | e
    · subst e; rfl
    · have := h.1 k e; omega
/-! ### data -/
theorem eqv_pr (a b : Int × Int) : PyData.eqv (prD a) (prD b) = decide (a = b) := by
  obtain ⟨x, y⟩ := a
  obtain ⟨u, v⟩ := b
  simp only [prD, PyData.eqv, PyData.eqvAll, Bool.and_true]
  rw [Bool.eq_iff_iff]
  simp
theorem eqv_dd (a b : Deed) : PyData.eqv (ddD a) (ddD b) = decide (a = b) := by
  obtain ⟨x, y⟩ := a
  obtain ⟨u, v⟩ := b
  simp only [ddD, PyData.eqv, PyData.eqvAll, Bool.and_true]
  rw [Bool.eq_iff_iff]
  simp
theorem de_pr (p : Int × Int) : (prD p).canLay0 = true ∧ (prD p).depth ≤ 60 := ⟨rfl, by show max 0 (max 0 0) + 1 ≤ 60; decide⟩
theorem de_dd (p : Deed) : (ddD p).canLay0 = true ∧ (ddD p).depth ≤ 60 := ⟨rfl, by show max 0 (max 0 0) + 1 ≤ 60; decide⟩
theorem sh_of {d : PyData} (h : d.canLay0 = true ∧ d.depth ≤ 60) : SeqAt.shaped d = true := by
  unfold SeqAt.shaped
  rw [Bool.and_eq_true]
  exact ⟨h.1, decide_eq_true (by omega)⟩
theorem sh_prs (A : List (Int × Int)) : SeqAt.shaped (.tuple (A.map prD)) = true := (sh_seq fun d hd => by
  obtain ⟨p, _, rfl⟩ := List.mem_map.mp hd
  exact de_pr p).2
theorem sh_dds (l : List Deed) : SeqAt.shaped (.list (l.map ddD)) = true := (sh_seq fun d hd => by
  obtain ⟨p, _, rfl⟩ := List.mem_map.mp hd
  exact de_dd p).1
section
variable {K : PySem.W.Frag} {σ : L2.St} {H : Hp} {te : TE} {D : Ends}
theorem any_pr (p : Int × Int) (A : List (Int × Int)) : ((A.map prD).any fun z => PyData.eqv z (prD p)) = decide (p ∈ A) := by
  rw [List.any_map, Bool.eq_iff_iff, List.any_eq_true, decide_eq_true_iff]
  constructor
  · rintro ⟨q, hq, e⟩
    have e : PyData.eqv (prD q) (prD p) = true := e
    rw [eqv_pr, decide_eq_true_iff] at e
    rw [← e]
    exact hq
  · intro hp
    refine ⟨p, hp, ?_⟩
    show PyData.eqv (prD p) (prD p) = true
    rw [eqv_pr, decide_eq_true_iff]
theorem any_dd (p : Deed) (A : List Deed) : ((A.map ddD).any fun z => PyData.eqv z (ddD p)) = decide (p ∈ A) := by
  rw [List.any_map, Bool.eq_iff_iff, List.any_eq_true, decide_eq_true_iff]
  constructor
  · rintro ⟨q, hq, e⟩
    have e : PyData.eqv (ddD q) (ddD p) = true := e
    rw [eqv_dd, decide_eq_true_iff] at e
    rw [← e]
    exact hq
  · intro hp
    refine ⟨p, hp, ?_⟩
    show PyData.eqv (ddD p) (ddD p) = true
    rw [eqv_dd, decide_eq_true_iff]
theorem ro_inPr {p : Int × Int} {A : List (Int × Int)} : RO K (rInT K) (prD p) (.tuple (A.map prD)) (.bool (decide (p ∈ A))) := fun H x y hx hy Q q =>
  ⟨_, _, hx.dp, hy.dp, sh_of (de_pr p), sh_prs A, by rw [any_pr]; exact q _ H (Same.refl H) (.bl _)⟩
theorem ro_inDd {p : Deed} {A : List Deed} : RO K (rInD K) (ddD p) (.list (A.map ddD)) (.bool (decide (p ∈ A))) := fun H x y hx hy Q q =>
  ⟨_, _, hx.dp, hy.dp, sh_of (de_dd p), sh_dds A, by rw [any_dd]; exact q _ H (Same.refl H) (.bl _)⟩
theorem ro_eqDd {a b : Deed} : RO K (rEqD K) (ddD a) (ddD b) (.bool (decide (a = b))) := by
  rw [← eqv_dd]
  exact ro_eqD (sh_of (de_dd a)) (sh_of (de_dd b))
theorem ro_neDd {a b : Deed} : RO K (rNeD K) (ddD a) (ddD b) (.bool (!decide (a = b))) := by
  rw [← eqv_dd]
  exact ro_neD (sh_of (de_dd a)) (sh_of (de_dd b))
/-- p.append(e), p in slot i -/
theorem s_app {i : Nat} {p : Addr} {acc : List V} {d : PyData} (hs : σ[i]? = some (some (.ref p))) (hp : H p = some (.lst acc)) (hl : acc.length < 100000) (h : Ev K te σ H d) (k : ∀ v H1, Same H H1 → At K H1 v d → D.nx σ (L2.upd H1 p (.lst (acc ++ [v])))) :
    tDrop (tBM K "list" rAppend (tVar i) (tCons te tNil)) D σ H :=
  ⟨_, hs, .inl ⟨rfl, _, SqL.of hp⟩, h H (Same.refl H) _ fun v H1 e av => ⟨p, acc, v, rfl, rfl, e _ _ hp, Nat.lt_of_lt_of_le hl (by decide), k v H1 e av⟩⟩
theorem at_d2 {v : V} {p : Int × Bool} (h : Dp K H v (d2 p)) : At K H v (d2 p) := by
  unfold d2 at h ⊢
  cases h with
  | tup hs r =>
    cases r with
    | cons a r =>
      cases r with
      | cons b r =>
        cases r
        cases a
        cases b
        exact .tup hs (.cons (.int _) (.cons (.bl _) .nil))
end
section
variable {P : Program} {w : World} {K : PySem.W.Frag} {mg : PySem.Str → Option Value} {base : Heap} {f : Addr} {fd : FuncData}
def R_deeds : List PyData → PyData → Prop := fun ds z => ∃ n A a b, ds = [webD n A, tI a, tI b] ∧ Wb n A ∧ St n a ∧ St n b ∧ z = .list ((dds n (ar A) (has a) (has b)).map ddD)
theorem sc_deeds_in : FnScope ["web", "one", "other", "lit", "out", "k"] ["web", "one", "other"] (defScope (top 32)) := ⟨rfl, rfl, rfl, by decide +kernel, rfl, by decide +kernel, by decide +kernel⟩
theorem ok_deeds_in (F : FnP K "deeds_in" (top 32) f fd) (T : Fre mg) (c_lit_in : Cal P w K mg base 4 "lit_in" ["web", "one", "other"] (spG K R_lit)) (c_out_in : Cal P w K mg base 4 "out_in" ["web", "one", "other"] (spG K R_out)) : FnOk P w K mg base CX0 5 f fd ["web", "one", "other"] (spG K R_deeds) := by
  have nd := sc_deeds_in.nd
  refine okG F sc_deeds_in (fun ds z ⟨n, A, a, b, e, _⟩ => by rw [e]; rfl) fun cdv A0 outer s H vs Q E hr ds z hR hv q => ?_
  obtain ⟨n, A, a, b, rfl, W, S1, S2, rfl⟩ := hR
  obtain ⟨v1, v2, v3, rfl, h1, h2, h3⟩ := ats3 hv
  have n5 := W.n5
  have l1 := sel_len n (litS n (ar A) (has a) (has b))
  have l2 := sel_len n (outS n (ar A) (has a) (has b))
  refine ⟨_, (pss_cons (ps_par (i := 3) (j := 4) (by rfl) nd rfl rfl (by decide) rfl rfl (pa_cons (c_lit_in.call hr rfl (pa_cons (pv 0) (pa_cons (pv 1) (pa_cons (pv 2) pa_nil))) pass0) (pa_cons (c_out_in.call hr rfl (pa_cons (pv 0) (pa_cons (pv 1) (pa_cons (pv 2) pa_nil))) pass0) pa_nil)) (by rfl))
    (pss_one (ps_ret (pe_op op_cat (pe_lc (own := [("k", 5)]) (g := (gName 5)) rfl nd (pi_list (pv 3)) (blkOk_by (by kernel_rfl)) (fun _ _ _ _ _ => (pg_name (i := 5) nd rfl (.inl rfl))) (fun _ _ _ _ _ => pts_nil) (fun _ _ _ _ _ => (pe_tup (pa_cons pe_bl (pa_cons (pv 5) pa_nil))))) (pe_lc (own := [("k", 5)]) (g := (gName 5)) rfl nd (pi_list (pv 4)) (blkOk_by (by kernel_rfl)) (fun _ _ _ _ _ => (pg_name (i := 5) nd rfl (.inl rfl))) (fun _ _ _ _ _ => pts_nil) (fun _ _ _ _ _ => (pe_tup (pa_cons pe_bl (pa_cons (pv 5) pa_nil))))))))), ?_⟩
  refine s_par (ea_cons (ev_call (ea_cons (ev_var rfl h1) (ea_cons (ev_var rfl h2) (ea_cons (ev_var rfl h3) ea_nil))) ⟨n, A, a, b, rfl, W, S1, S2, rfl⟩) (ea_cons (ev_call (ea_cons (ev_var rfl h1) (ea_cons (ev_var rfl h2) (ea_cons (ev_var rfl h3) ea_nil))) ⟨n, A, a, b, rfl, W, S1, S2, rfl⟩) ea_nil)) fun v4 v5 H1 e1 h4 h5 => ?_
  refine s_ret (ev_is (ev_op (ev_lc _ PyData.int (fun _ => true) (fun k => ddD (true, k)) (ei_list (ev_var rfl h4)) (by omega) (fun _ _ _ => rfl) fun k hk v H2 e2 av => item1 rfl et_yes fun _ => ev_tup (ea_cons ev_bl (ea_cons (ev_var rfl av) ea_nil))) (ev_lc _ PyData.int (fun _ => true) (fun k => ddD (false, k)) (ei_list (ev_var rfl h5)) (by omega) (fun _ _ _ => rfl) fun k hk v H2 e2 av => item1 rfl et_yes fun _ => ev_tup (ea_cons ev_bl (ea_cons (ev_var rfl av) ea_nil))) (ro_cat (by rw [filter_yes, filter_yes, List.length_map, List.length_map]; omega))) ?_) fun v H2 e2 av => q v H2 (e1.trans e2) av
  rw [filter_yes, filter_yes]
  unfold dds
  rw [List.map_append, List.map_map, List.map_map]
  rfl
def R_before : List PyData → PyData → Prop := fun ds z => ∃ n A d e, ds = [webD n A, ddD d, ddD e] ∧ z = .bool (bef A d e)
theorem sc_is_before : FnScope ["web", "first", "second"] ["web", "first", "second"] (defScope (top 33)) := ⟨rfl, rfl, rfl, by decide +kernel, rfl, by decide +kernel, by decide +kernel⟩
theorem ok_is_before (F : FnP K "is_before" (top 33) f fd) (T : Fre mg) : FnOk P w K mg base CX0 1 f fd ["web", "first", "second"] (spG K R_before) := by
  have nd := sc_is_before.nd
  refine okG F sc_is_before (fun ds z ⟨n, A, d, e, h, _⟩ => by rw [h]; rfl) fun cdv A0 outer s H vs Q E hr ds z hR hv q => ?_
  obtain ⟨n, A, d, e, rfl, rfl⟩ := hR
  obtain ⟨v1, v2, v3, rfl, h1, h2, h3⟩ := ats3 hv
  refine ⟨_, (pss_cons (ps_if (PW.pt (pw_and (pt_val (pe_ix (k_ixt (K := K) rfl) (pv 1) pe_int (fun _ _ => rfl))) (pw_and1 (pt_not (pt_val (pe_ix (k_ixt (K := K) rfl) (pv 2) pe_int (fun _ _ => rfl)))))))
      (pss_one (ps_ret (pe_or (pe_cmpR op_eq (pe_ix (k_ixt (K := K) rfl) (pv 1) pe_int (fun _ _ => rfl)) (pe_ix (k_ixt (K := K) rfl) (pv 2) pe_int (fun _ _ => rfl)) (nomark _)) (pe_one (pe_cmpR (k_inT (K := K) rfl (room65 hr)) (pe_tup (pa_cons (pe_ix (k_ixt (K := K) rfl) (pv 2) pe_int (fun _ _ => rfl)) (pa_cons (pe_ix (k_ixt (K := K) rfl) (pv 1) pe_int (fun _ _ => rfl)) pa_nil))) (pe_ix (k_ixt (K := K) rfl) (pv 0) pe_int (fun _ _ => rfl)) (by rfl))))))
      pss_nil)
    (pss_one (ps_ret (pe_and (pe_cmpR op_eq (pe_ix (k_ixt (K := K) rfl) (pv 1) pe_int (fun _ _ => rfl)) (pe_ix (k_ixt (K := K) rfl) (pv 2) pe_int (fun _ _ => rfl)) (nomark _)) (pe_one (pe_cmpR (k_inT (K := K) rfl (room65 hr)) (pe_tup (pa_cons (pe_ix (k_ixt (K := K) rfl) (pv 1) pe_int (fun _ _ => rfl)) (pa_cons (pe_ix (k_ixt (K := K) rfl) (pv 2) pe_int (fun _ _ => rfl)) pa_nil))) (pe_ix (k_ixt (K := K) rfl) (pv 0) pe_int (fun _ _ => rfl)) (by rfl))))))), ?_⟩
  unfold bef at q
  refine s_if (et_and (ev_B (ev_op (ev_var rfl h2) ev_int ro_ix0)) fun _ => et_not (ev_B (ev_op (ev_var rfl h3) ev_int ro_ix0))) (fun hb H1 e1 => ?_) fun hb H1 e1 => ?_
  · rw [hb, if_pos rfl] at q
    exact s_ret (ev_orV (ev_op (ev_op (ev_var rfl (h2.mono e1)) ev_int ro_ix1) (ev_op (ev_var rfl (h3.mono e1)) ev_int ro_ix1) ro_eqI) fun _ => ev_op (ev_tup (ea_cons (ev_op (ev_var rfl (h3.mono e1)) ev_int ro_ix1) (ea_cons (ev_op (ev_var rfl (h2.mono e1)) ev_int ro_ix1) ea_nil))) (ev_op (ev_var rfl (h1.mono e1)) ev_int ro_ix1) (ro_inPr (p := (e.2, d.2)))) fun v H2 e2 av => q v H2 (e1.trans e2) av
  · rw [hb, if_neg Bool.false_ne_true] at q
    exact s_ret (ev_andV (ev_op (ev_op (ev_var rfl (h2.mono e1)) ev_int ro_ix0) (ev_op (ev_var rfl (h3.mono e1)) ev_int ro_ix0) ro_eqB) fun _ => ev_op (ev_tup (ea_cons (ev_op (ev_var rfl (h2.mono e1)) ev_int ro_ix1) (ea_cons (ev_op (ev_var rfl (h3.mono e1)) ev_int ro_ix1) ea_nil))) (ev_op (ev_var rfl (h1.mono e1)) ev_int ro_ix1) (ro_inPr (p := (d.2, e.2)))) fun v H2 e2 av => q v H2 (e1.trans e2) av
def R_pairs : List PyData → PyData → Prop := fun ds z => ∃ n A a b, ds = [webD n A, tI a, tI b] ∧ Wb n A ∧ St n a ∧ St n b ∧ z = .list ((prs A (dds n (ar A) (has a) (has b))).map ppD)
theorem sc_pairs_in : FnScope ["web", "one", "other", "some", "found", "first", "second"] ["web", "one", "other"] (defScope (top 34)) := ⟨rfl, rfl, rfl, by decide +kernel, rfl, by decide +kernel, by decide +kernel⟩
theorem prs_len {A : List (Int × Int)} {some : List Deed} (h : some.length ≤ 10) (l : List Deed) : (l.flatMap fun d => (some.filter fun e => bef A d e).map fun e => (d, e)).length ≤ l.length * 10 := by
  induction l with
  | nil => exact Nat.zero_le _
  | cons x l ih =>
    rw [List.flatMap_cons, List.length_append, List.length_map, List.length_cons]
    have := List.length_filter_le (fun e => bef A x e) some
    omega
theorem ok_pairs_in (F : FnP K "pairs_in" (top 34) f fd) (T : Fre mg) (c_deeds_in : Cal P w K mg base 5 "deeds_in" ["web", "one", "other"] (spG K R_deeds)) (c_is_before : Cal P w K mg base 1 "is_before" ["web", "first", "second"] (spG K R_before)) : FnOk P w K mg base CX0 6 f fd ["web", "one", "other"] (spG K R_pairs) := by
  have nd := sc_pairs_in.nd
  refine okG F sc_pairs_in (fun ds z ⟨n, A, a, b, e, _⟩ => by rw [e]; rfl) fun cdv A0 outer s H vs Q E hr ds z hR hv q => ?_
  obtain ⟨n, A, a, b, rfl, W, S1, S2, rfl⟩ := hR
  obtain ⟨v1, v2, v3, rfl, h1, h2, h3⟩ := ats3 hv
  have n5 := W.n5
  have ll := dds_len n (ar A) (has a) (has b)
  refine ⟨_, (pss_cons (ps_set (i := 3) nd rfl (.inl rfl) (c_deeds_in.call hr rfl (pa_cons (pv 0) (pa_cons (pv 1) (pa_cons (pv 2) pa_nil))) pass0))
    (pss_cons (ps_set (i := 4) nd rfl (.inl rfl) (pe_lst pa_nil))
    (pss_cons (ps_for PassesOwn.never rfl (pi_list (pv 3)) (pg_name (i := 5) nd rfl (.inr rfl))
      (pss_one (ps_set (i := 4) nd rfl (.inl rfl) (pe_op op_cat (pv 4) (pe_lc (own := [("second", 6)]) (g := (gName 6)) rfl nd (pi_list (pv 3)) (blkOk_by (by kernel_rfl)) (fun _ _ _ _ _ => (pg_name (i := 6) nd rfl (.inl rfl))) (fun _ _ _ _ _ => pts_one (pt_val (c_is_before.call hr rfl (pa_cons (pv 0) (pa_cons (pv 5) (pa_cons (pv 6) pa_nil))) pass0))) (fun _ _ _ _ _ => (pe_tup (pa_cons (pv 5) (pa_cons (pv 6) pa_nil)))))))))
    (pss_one (ps_ret (pv 4)))))), ?_⟩
  refine s_set (ev_call (ea_cons (ev_var rfl h1) (ea_cons (ev_var rfl h2) (ea_cons (ev_var rfl h3) ea_nil))) ⟨n, A, a, b, rfl, W, S1, S2, rfl⟩) fun v4 H1 e1 h4 => ?_
  refine s_set (K := K) (ev_lst ea_nil) fun v5 H2 e2 h5 => ?_
  refine s_for (ei_list (ev_var rfl (h4.mono e2))) fun H3 e3 => ?_
  have e13 := e1.trans (e2.trans e3)
  unfold prs at q
  generalize hdd : dds n (ar A) (has a) (has b) = L at *
  refine ⟨fun i σ Hc => ∃ v5 y, σ = [.some v1, .some v2, .some v3, .some v4, .some v5, y, none] ∧ At K Hc v5 (.list (((L.take i).flatMap fun d => (L.filter fun e => bef A d e).map fun e => (d, e)).map ppD)), ⟨v5, none, rfl, h5.mono e3⟩, ?_, ?_⟩
  · rintro i d v σ1 H4 H5 hd ⟨v5, y, rfl, h5⟩ s1 s2 av
    rw [List.getElem?_map] at hd
    obtain ⟨x, hx, rfl⟩ := Option.map_eq_some_iff.mp hd
    have eT := e13.trans (s1.trans s2)
    have lt := prs_len (A := A) (some := L) (by omega) (L.take i)
    have lt2 : (L.take i).length ≤ 10 := by rw [List.length_take]; omega
    have lt3 := List.length_filter_le (fun e => bef A x e) L
    refine s_set (ev_op (ev_var rfl (h5.mono s2)) (ev_lc L ddD (fun e => bef A x e) (fun e => ppD (x, e)) (ei_list (ev_var rfl (h4.mono (e2.trans (e3.trans (s1.trans s2)))))) (by omega) (fun _ _ _ => rfl) fun e he v H6 e6 au => item1 rfl (ev_B (ev_call (ea_cons (ev_var rfl (h1.mono (eT.trans e6))) (ea_cons (ev_var rfl (av.mono e6)) (ea_cons (ev_var rfl au) ea_nil))) ⟨n, A, x, e, rfl, rfl⟩)) fun _ => ev_tup (ea_cons (ev_var rfl (av.mono e6)) (ea_cons (ev_var rfl au) ea_nil))) (ro_cat (by rw [List.length_map, List.length_map]; omega))) fun v5' H6 e6 h5' => ⟨⟨v5', _, rfl, ?_⟩, s1.trans (s2.trans e6)⟩
    rw [take_snoc hx, fm_snoc, List.map_append, List.map_map]
    exact h5'
  · rintro σ1 H4 ⟨v5, y, rfl, h5⟩ s4
    rw [List.length_map, List.take_length] at h5
    exact s_ret (ev_var rfl h5) fun v H7 e7 av => q v H7 (e13.trans (s4.trans e7)) av
def R_next : List PyData → PyData → Prop := fun ds z => ∃ (some : List Deed) (pairs : List (Deed × Deed)), ds = [.list (some.map ddD), .list (pairs.map ppD)] ∧ some.length ≤ 1000 ∧ pairs.length ≤ 1000 ∧ z = .list ((nxts some pairs).map ddD)
theorem sc_next_in : FnScope ["some", "pairs", "deed", "first", "second"] ["some", "pairs"] (defScope (top 35)) := ⟨rfl, rfl, rfl, by decide +kernel, rfl, by decide +kernel, by decide +kernel⟩
theorem ok_next_in (F : FnP K "next_in" (top 35) f fd) (T : Fre mg) : FnOk P w K mg base CX0 1 f fd ["some", "pairs"] (spG K R_next) := by
  have nd := sc_next_in.nd
  refine okG F sc_next_in (fun ds z ⟨a, b, e, _⟩ => by rw [e]; rfl) fun cdv A0 outer s H vs Q E hr ds z hR hv q => ?_
  obtain ⟨some, pairs, rfl, l1, l2, rfl⟩ := hR
  obtain ⟨v1, v2, rfl, h1, h2⟩ := ats2 hv
  refine ⟨_, (pss_one (ps_ret (pe_lc (own := [("deed", 2)]) (g := (gName 2)) (tt := (tTest (tOp (rEq0 K) (tLc (iList K (tVar 1)) (gTup K 2 (gCons (gName 3) (gCons (gName 4) gNil))) (tAnd (tTest (tOp (rEqD K) (tVar 4) (tVar 2))) (tTest (tOp (rInD K) (tVar 3) (tVar 0)))) (tVar 3) [3, 4]) (tLst tNil)))) rfl nd (pi_list (pv 0)) (blkOk_by (by kernel_rfl)) (fun _ _ _ _ _ => (pg_name (i := 2) nd rfl (.inr rfl))) (fun _ _ _ _ _ => pts_one (pt_cmpR (k_eq0 (K := K) rfl (hu_of hr)) (pe_lc (own := [("first", 3), ("second", 4)]) (g := (gTup K 2 (gCons (gName 3) (gCons (gName 4) gNil)))) rfl nd (pi_list (pv 1)) (blkOk_by (by kernel_rfl)) (fun _ _ _ _ _ => (pg_tup rfl (pgs_cons (pg_name (i := 3) nd rfl (.inl rfl)) (pgs_cons (pg_name (i := 4) nd rfl (.inl rfl)) pgs_nil)))) (fun _ _ _ _ _ => pts_one (PW.pt (pw_and (pt_cmpR (k_eqD (K := K) rfl hr.units) (pv 4) (pv 2) (nomark _)) (pw_and1 (pt_cmpR (k_inD (K := K) rfl (room65 hr)) (pv 3) (pv 0) (by rfl)))))) (fun _ _ _ _ _ => (pv 3))) (pe_lst pa_nil) (nomark _))) (fun _ _ _ _ _ => (pv 2))))), ?_⟩
  refine s_ret (ev_lc some ddD (fun d => ((pairs.filter fun p => decide (p.2 = d) && decide (p.1 ∈ some)).map fun p => ddD p.1).isEmpty) ddD (ei_list (ev_var rfl h1)) (by omega) (fun _ _ _ => rfl) fun d hd v H1 e1 av => item1 rfl (ev_test (ev_op (ev_lc pairs ppD (fun p => decide (p.2 = d) && decide (p.1 ∈ some)) (fun p => ddD p.1) (ei_list (ev_var rfl (h2.mono e1))) (by omega) (fun _ _ _ => rfl) fun p hp u H2 e2 au => item2 au fun u1 u2 a1 a2 => ⟨rfl, et_and (ev_test (ev_op (ev_var rfl a2) (ev_var rfl (av.mono e2)) ro_eqDd)) fun _ => ev_test (ev_op (ev_var rfl a1) (ev_var rfl (h1.mono (e1.trans e2))) ro_inDd), fun _ => ev_var rfl a1⟩) (ev_lst ea_nil) ro_eq0)) fun _ => ev_var rfl av) ?_
  exact q
end
end Hd
set_option Elab.async false
set_option linter.all false
set_option maxRecDepth 100000
set_option maxHeartbeats 4000000
/-! Handons: the way. -/
namespace Hd
open PySem PySem.Spec PyProof.Rows L2
section
variable {P : Program} {w : World} {K : PySem.W.Frag} {mg : PySem.Str → Option Value} {base : Heap} {f : Addr} {fd : FuncData}
theorem okS {x q : PySem.Str} {st : Stmt} {N ps : List PySem.Str} {k : Nat} {sp : Sp} (F : FunD K x q (defArgs st) (defBody st) (defScope st) [] [] f fd) (S : FnScope N ps (defScope st)) (len : ∀ vs H Q E, sp vs H Q E → vs.length = ps.length)
    (hb : ∀ (cdv : Value) (A : Around) (outer : List Env) (s : Shared) (H : Hp) (vs : List V) (Q : VK) (E : XK), Room k (A.deeper (envOfC q (defScope st) s.heap.objs.size f cdv)) → sp vs H Q E →
      ∃ t, PSs (cxOf CX0 P w K mg base N q (defScope st) f cdv A outer s H E).nox (defBody st) t ∧ t { nx := fun _ H' => Q .non H', rt := Q } (start N vs) H) : FnOk P w K mg base CX0 (k + 1) f fd ps sp :=
  F.ok S len fun cdv A outer s H vs Q E hr h => by
    obtain ⟨t, h1, h2⟩ := hb cdv A outer s H vs Q E hr h
    exact ⟨t, h1.nox, h2⟩
def spWay (K : PySem.W.Frag) : Sp := fun vs H Q _ => ∃ n A a b, Ats K H vs [webD n A, tI a, tI b] ∧ Wb n A ∧ St n a ∧ St n b ∧ ∀ W v H2, Same H H2 → W.take 1 = (sel n (nxt n (ar A) (has a) (has b))).take 1 → At K H2 v (lI W) → Q v H2
theorem nxts_len (some : List Deed) (pairs : List (Deed × Deed)) : (nxts some pairs).length ≤ some.length := List.length_filter_le _ _
theorem mem_lt {l : List Deed} {x : Deed} (h : x ∈ l) : (l.filter fun e => !decide (e = x)).length < l.length :=
  List.length_filter_lt_length_iff_exists.mpr ⟨x, h, by simp⟩
theorem At.upl {H : Hp} {p : Addr} {xs : List V} {o : HO} {a : Addr} {ds : List PyData} (hp : H p = some (.lst xs)) (ne : a ≠ p) (im : ∀ d ∈ ds, imm d = true) (h : At K H (.ref a) (.list ds)) : At K (L2.upd H p o) (.ref a) (.list ds) := by
  cases h with
  | lst h r => exact .lst (by rw [upd_ne ne]; exact h) (r.tups (Tups.lst hp) (imm_all im))
theorem min2_any {te : TE} {σ : L2.St} {H : Hp} {ps : List (Int × Bool)} {Q : VK} (h : Ev K te σ H (.list (ps.map d2))) (hne : ps ≠ []) (k : ∀ v H1 q, Same H H1 → At K H1 v (d2 q) → q ∈ ps → (∀ r ∈ ps, q.1 ≤ r.1) → Q v H1) : tCB (rMin2 K) (tCons te tNil) σ H Q :=
  h H (Same.refl H) _ fun v H1 e1 av => by
    cases av with
    | lst hs r => exact ⟨_, _, ps, rfl, SqL.of hs, Ats.dp r, hne, fun x q hx hd hq hl => k x H1 q e1 (at_d2 hd) hq hl⟩
theorem sc_way_in : FnScope ["web", "one", "other", "some", "pairs", "found", "deed", "sort", "lamp"] ["web", "one", "other"] (defScope (top 36)) := ⟨rfl, rfl, rfl, by decide +kernel, rfl, by decide +kernel, by decide +kernel⟩
theorem ok_way_in (F : FnP K "way_in" (top 36) f fd) (T : Fre mg) (c_deeds_in : Cal P w K mg base 5 "deeds_in" ["web", "one", "other"] (spG K R_deeds)) (c_pairs_in : Cal P w K mg base 6 "pairs_in" ["web", "one", "other"] (spG K R_pairs)) (c_next_in : Cal P w K mg base 1 "next_in" ["some", "pairs"] (spG K R_next)) :
    FnOk P w K mg base CX0 7 f fd ["web", "one", "other"] (spWay K) := by
  have nd := sc_way_in.nd
  refine okS F sc_way_in (fun vs H Q E ⟨n, A, a, b, h, _⟩ => h.len) fun cdv A0 outer s H vs Q E hr h => ?_
  obtain ⟨n, A, a, b, hv, W, S1, S2, q⟩ := h
  obtain ⟨v1, v2, v3, rfl, h1, h2, h3⟩ := ats3 hv
  have n5 := W.n5
  have ll := dds_len n (ar A) (has a) (has b)
  have lp : (prs A (dds n (ar A) (has a) (has b))).length ≤ 1000 := by
    have := prs_len (A := A) (some := dds n (ar A) (has a) (has b)) (by omega) (dds n (ar A) (has a) (has b))
    unfold prs
    omega
  have hall : ∀ d ∈ dds n (ar A) (has a) (has b), 0 ≤ d.2 ∧ d.2 < n := fun d hd => (mem_dds.mp hd).1
  have hnx := fun k => dds_nxts W (p := has a) (q := has b) (k := k)
  refine ⟨_, (pss_cons (ps_par3 (i := 3) (j := 4) (l := 5) (by rfl) nd rfl rfl rfl (by decide) (by decide) (by decide) rfl rfl rfl (pa_cons (c_deeds_in.call hr rfl (pa_cons (pv 0) (pa_cons (pv 1) (pa_cons (pv 2) pa_nil))) pass0) (pa_cons (c_pairs_in.call hr rfl (pa_cons (pv 0) (pa_cons (pv 1) (pa_cons (pv 2) pa_nil))) pass0) (pa_cons (pe_lst pa_nil) pa_nil))) (by rfl))
    (pss_cons (ps_while PassesOwn.never (pt_cmpR (k_ne0 (K := K) rfl (hu_of hr)) (pv 3) (pe_lst pa_nil) (nomark _))
      (pss_cons (ps_set (i := 6) nd rfl (.inr rfl) (pe_callB (cr_min2 rfl (room70 hr)) (by rfl) T.f_min (by decide +kernel) (pa_cons (pe_lc (own := [("sort", 7), ("lamp", 8)]) (g := (gTup K 2 (gCons (gName 7) (gCons (gName 8) gNil)))) rfl nd (pi_list (c_next_in.call hr rfl (pa_cons (pv 3) (pa_cons (pv 4) pa_nil)) pass0)) (blkOk_by (by kernel_rfl)) (fun _ _ _ _ _ => (pg_tup rfl (pgs_cons (pg_name (i := 7) nd rfl (.inl rfl)) (pgs_cons (pg_name (i := 8) nd rfl (.inl rfl)) pgs_nil)))) (fun _ _ _ _ _ => pts_nil) (fun _ _ _ _ _ => (pe_tup (pa_cons (pv 8) (pa_cons (pv 7) pa_nil))))) pa_nil)))
      (pss_cons (ps_expr (pe_bm PySem.F.plainAttrs_list PySem.F.slot_list_append PySem.F.type_list_append mt_append (pv 5) (pa_cons (pe_ix (k_ixt (K := K) rfl) (pv 6) pe_int (fun _ _ => rfl)) pa_nil)))
      (pss_one (ps_setLc (i := 3) (own := [("one", 1)]) (g := (gName 1)) rfl nd rfl rfl (sw_true rfl rfl rfl (by decide +kernel)) (pi_list (pv 3)) (blkOk_by (by kernel_rfl)) (fun _ _ _ _ _ => (pg_name (i := 1) nd rfl (.inl rfl))) (fun _ _ _ _ _ => pts_one (pt_cmpR (k_neD (K := K) rfl hr.units) (pv 1) (pe_tup (pa_cons (pe_ix (k_ixt (K := K) rfl) (pv 6) pe_int (fun _ _ => rfl)) (pa_cons (pe_ix (k_ixt (K := K) rfl) (pv 6) pe_int (fun _ _ => rfl)) pa_nil))) (nomark _))) (fun _ _ _ _ _ => (pv 1)))))))
    (pss_one (ps_ret (pv 5))))), ?_⟩
  have t1 : Ev K (tCall (spG K R_deeds) [] E0 (tCons (tVar 0) (tCons (tVar 1) (tCons (tVar 2) tNil)))) (start ["web", "one", "other", "some", "pairs", "found", "deed", "sort", "lamp"] [v1, v2, v3]) H _ := ev_call (ea_cons (ev_var rfl h1) (ea_cons (ev_var rfl h2) (ea_cons (ev_var rfl h3) ea_nil))) ⟨n, A, a, b, rfl, W, S1, S2, rfl⟩
  have t2 : Ev K (tCall (spG K R_pairs) [] E0 (tCons (tVar 0) (tCons (tVar 1) (tCons (tVar 2) tNil)))) (start ["web", "one", "other", "some", "pairs", "found", "deed", "sort", "lamp"] [v1, v2, v3]) H _ := ev_call (ea_cons (ev_var rfl h1) (ea_cons (ev_var rfl h2) (ea_cons (ev_var rfl h3) ea_nil))) ⟨n, A, a, b, rfl, W, S1, S2, rfl⟩
  generalize hdd : dds n (ar A) (has a) (has b) = L at *
  refine t1 H (Same.refl H) _ fun vs H1 e1 a1 => t2 H1 e1 _ fun vp H2 e2 a2 => ⟨Nat.zero_le _, fun p hp => ⟨_, _, _, rfl, ?_⟩⟩
  obtain ⟨ap, rfl, hap⟩ : ∃ ap, vp = .ref ap ∧ ap ≠ p := by
    cases a2 with
    | lst h r => exact ⟨_, rfl, ne_of_none h hp⟩
  have e12 := e1.trans e2
  have sp := same_new (o := .lst []) hp
  refine s_while (fun m σ Hc => ∃ (X : List Deed) (W : List Int) (vX : V) (y : Option V), σ = [.some v1, .some v2, .some v3, .some vX, .some (.ref ap), .some (.ref p), y, none, none] ∧ Same H Hc ∧ At K Hc vX (.list (X.map ddD)) ∧ At K Hc (.ref ap) (.list ((prs A L).map ppD)) ∧ Hc p = .some (.lst (W.map V.int)) ∧
    (∀ d ∈ X, d ∈ L) ∧ W.length + X.length ≤ L.length ∧ ((W = [] ∧ X = L) ∨ (W ≠ [] ∧ W.take 1 = (sel n (nxt n (ar A) (has a) (has b))).take 1)) ∧ m = X.length)
    ⟨L.length, L, [], vs, none, rfl, e12.trans sp, a1.mono (e2.trans sp), a2.mono sp, upd_same, fun _ h => h, by simp, .inl ⟨rfl, rfl⟩, rfl⟩ ?_
  have hpH : H p = none := e12.free hp
  rintro m σ1 H3 ⟨X, Wd, vX, y, rfl, e3, aX, aP, hW, hXL, hlen, hcase, rfl⟩
  refine ⟨_, ev_test (ev_op (ev_var rfl aX) (ev_lst ea_nil) ro_ne0), fun hb H4 e4 => ?_, fun hb H4 e4 => ?_⟩
  · have hX : X ≠ [] := by
      intro z
      rw [z] at hb
      cases hb
    have nne := nxts_ne W hall hXL hX
    have nl := nxts_len X (prs A L)
    refine min2_any (K := K) (ps := (nxts X (prs A L)).map fun d => (d.2, d.1)) (ev_is (ev_lc (nxts X (prs A L)) ddD (fun _ => true) (fun d => d2 (d.2, d.1)) (ei_list (ev_call (ea_cons (ev_var rfl (aX.mono e4)) (ea_cons (ev_var rfl (aP.mono e4)) ea_nil)) ⟨X, prs A L, rfl, by omega, by omega, rfl⟩)) (by omega) (fun _ _ _ => rfl) fun d hd v H5 e5 av => item2 av fun u1 u2 b1 b2 => ⟨rfl, et_yes, fun _ => ev_tup (ea_cons (ev_var rfl b2) (ea_cons (ev_var rfl b1) ea_nil))⟩) (by rw [filter_yes, List.map_map]; rfl)) (by simpa using nne) fun dv H5 q2 e5 aD hq hl => ?_
    obtain ⟨⟨s0, k0⟩, hd0, rfl⟩ := List.mem_map.mp hq
    have hmin : ∀ d ∈ nxts X (prs A L), k0 ≤ d.2 := fun d hd => hl (d.2, d.1) (List.mem_map.mpr ⟨d, hd, rfl⟩)
    have hdX : (s0, k0) ∈ X := (mem_nxts.mp hd0).1
    have e45 := e4.trans e5
    have lW : Wd.length ≤ 1000 := by omega
    -- found.append(deed[0])
    refine s_app rfl (e45 _ _ hW) (by rw [List.length_map]; omega) (ev_op (ev_var rfl aD) ev_int ro_ix0) fun kv H6 e6 ak => ?_
    obtain rfl := at_int ak
    have e46 := e45.trans e6
    have hW6 := e46 _ _ hW
    have hXp : ∃ aX', vX = .ref aX' ∧ aX' ≠ p := by
      have aX6 := aX.mono e46
      cases aX6 with
      | lst h r =>
        refine ⟨_, rfl, fun z => ?_⟩
        subst z
        rw [hW6] at h
        cases h
        cases X with
        | nil => exact hX rfl
        | cons x X =>
          cases Wd with
          | nil => cases r
          | cons w Wd =>
            cases r with
            | cons a r => cases a
    obtain ⟨aX', rfl, hXp⟩ := hXp
    have imX : ∀ d ∈ X.map ddD, imm d = true := fun d hd => by
      obtain ⟨z, _, rfl⟩ := List.mem_map.mp hd
      rfl
    have imP : ∀ d ∈ (prs A L).map ppD, imm d = true := fun d hd => by
      obtain ⟨z, _, rfl⟩ := List.mem_map.mp hd
      rfl
    have aX7 := At.upl (o := .lst (Wd.map V.int ++ [.int k0])) hW6 hXp imX (aX.mono e46)
    have aP7 := At.upl (o := .lst (Wd.map V.int ++ [.int k0])) hW6 hap imP (aP.mono e46)
    have aD7 := (aD.mono e6).tups (Tups.lst (o := .lst (Wd.map V.int ++ [.int k0])) hW6) (by rfl)
    have lX : X.length ≤ 1000 := by omega
    -- some = [..]
    refine s_set (ev_lc X ddD (fun e => !decide (e = (s0, k0))) ddD (ei_list (ev_var rfl aX7)) (by omega) (fun _ _ _ => rfl) fun e he v H8 e8 av => item1 rfl (ev_test (ev_op (ev_var rfl av) (ev_tup (ea_cons (ev_op (ev_var rfl (aD7.mono e8)) ev_int ro_ix1) (ea_cons (ev_op (ev_var rfl (aD7.mono e8)) ev_int ro_ix0) ea_nil))) (ro_neDd (a := e) (b := (s0, k0))))) fun _ => ev_var rfl av) fun vX' H8 e8 aX8 => ?_
    have hlt := mem_lt hdX
    refine ⟨_, hlt, X.filter fun e => !decide (e = (s0, k0)), Wd ++ [k0], vX', _, rfl, fun b o hb => ?_, aX8, aP7.mono e8, ?_, fun d hd => hXL d (List.mem_filter.mp hd).1, ?_, .inr ⟨by simp, ?_⟩, rfl⟩
    · refine e8 _ _ ?_
      rw [upd_ne (ne_of_none hb hpH)]
      exact e46 _ _ (e3 _ _ hb)
    · rw [List.map_append]
      exact e8 _ _ upd_same
    · rw [List.length_append, List.length_singleton]
      omega
    · rcases hcase with ⟨rfl, rfl⟩ | ⟨h1, h2⟩
      · rw [List.nil_append, take1_min (sel_asc _ _) ((hnx k0).mp ⟨s0, hd0⟩) fun j hj => ?_]
        · rfl
        · obtain ⟨s, hs⟩ := (hnx j).mpr hj
          exact hmin _ hs
      · rw [← h2]
        cases Wd with
        | nil => exact absurd rfl h1
        | cons w Wd => rfl
  · have hX : X = [] := by
      cases X with
      | nil => rfl
      | cons x X => cases hb
    subst hX
    refine s_ret (ev_var rfl (lI_at (e4 _ _ hW))) fun v H5 e5 av => q Wd v H5 (e3.trans (e4.trans e5)) ?_ av
    rcases hcase with ⟨rfl, h⟩ | ⟨_, h⟩
    · have he : sel n (nxt n (ar A) (has a) (has b)) = [] := by
        refine List.eq_nil_iff_forall_not_mem.mpr fun k hk => ?_
        obtain ⟨s, hs⟩ := (hnx k).mpr hk
        have := (mem_nxts.mp hs).1
        rw [← h] at this
        simp at this
      rw [he]
    · exact h
end
end Hd
set_option Elab.async false
set_option linter.all false
set_option maxRecDepth 100000
set_option maxHeartbeats 4000000
/-! Handons: the law's plain defs, 1. -/
namespace Hd
open PySem PySem.Spec PyProof.Rows L2
theorem emp_any {α : Type} (l : List α) (p : α → Bool) (g : α → PyData) : ((l.filter p).map g).isEmpty = !l.any p := by
  rw [Bool.eq_iff_iff, List.isEmpty_iff, List.map_eq_nil_iff, List.filter_eq_nil_iff, Bool.not_eq_true', List.any_eq_false]
theorem mem_rngT {k j : Int} : j ∈ rng k.toNat ↔ 0 ≤ j ∧ j < k := by
  rw [mem_rng]
  omega
theorem emp_light {n : Nat} {A : List (Int × Int)} (W : Wb n A) (q : Pr) (k : Int) : (((rng k.toNat).filter fun j => decide ((j, k) ∈ A) && q j).map PyData.int).isEmpty = !ex n fun j => ar A j k && q j := by
  rw [emp_any]
  congr 1
  rw [Bool.eq_iff_iff, List.any_eq_true, ex_iff]
  constructor
  · rintro ⟨j, hj, h⟩
    have h' := h
    rw [Bool.and_eq_true, decide_eq_true_iff] at h'
    have := W.up _ h'.1
    simp only at this
    exact ⟨j, ⟨by omega, by omega⟩, h⟩
  · rintro ⟨j, hj, h⟩
    have h' := h
    rw [Bool.and_eq_true] at h'
    have := W.ar _ _ h'.1
    exact ⟨j, mem_rngT.mpr ⟨by omega, by omega⟩, h⟩
theorem emp_ex (n : Nat) (p : Pr) : (((rng n).filter p).map PyData.int).isEmpty = !ex n p := emp_any _ _ _
section
variable {P : Program} {w : World} {K : PySem.W.Frag} {mg : PySem.Str → Option Value} {base : Heap} {f : Addr} {fd : FuncData}
theorem sc__law_light : FnScope ["_law_web_here", "_law_burning_here", "_law_k", "_law_j"] ["_law_web_here", "_law_burning_here"] (defScope (top 49)) := ⟨rfl, rfl, rfl, by decide +kernel, rfl, by decide +kernel, by decide +kernel⟩
theorem ok_law_light (F : FnP K "_law_light" (top 49) f fd) (T : Fre mg) : FnOk P w K mg base CX0 1 f fd ["_law_web_here", "_law_burning_here"] (spG K R_light) := by
  have nd := sc__law_light.nd
  refine okG F sc__law_light (fun ds z ⟨n, A, b, e, _⟩ => by rw [e]; rfl) fun cdv A outer s H vs Q E hr ds z hR hv q => ?_
  obtain ⟨n, A, b, rfl, W, S, rfl⟩ := hR
  obtain ⟨v1, v2, rfl, h1, h2⟩ := ats2 hv
  have := W.n5
  refine ⟨_, (pss_one (ps_ret (pe_lc (own := [("_law_k", 2)]) (g := (gName 2)) (tt := (tAnd (tTest (tOp (rIn K true) (tVar 2) (tVar 1))) (tTest (tOp (rEq0 K) (tLc (iRng1 (tCons (tVar 2) tNil)) (gName 3) (tAnd (tTest (tOp (rInT K) (tTup (tCons (tVar 3) (tCons (tVar 2) tNil))) (tOp (rIxT K) (tVar 0) (tC (.int 1))))) (tTest (tOp (rIn K true) (tVar 3) (tVar 1)))) (tVar 3) [3]) (tLst tNil))))) rfl nd (pi_range1 (by rfl) T.f_range (pa_cons (pe_ix (k_ixt (K := K) rfl) (pv 0) pe_int (fun _ _ => rfl)) pa_nil)) (blkOk_by (by kernel_rfl)) (fun _ _ _ _ _ => (pg_name (i := 2) nd rfl (.inr rfl))) (fun _ _ _ _ _ => pts_one (PW.pt (pw_and (pt_cmpR (k_no (K := K) rfl) (pv 2) (pv 1) (by rfl)) (pw_and1 (pt_cmpR (k_eq0 (K := K) rfl (hu_of hr)) (pe_lc (own := [("_law_j", 3)]) (g := (gName 3)) rfl nd (pi_range1 (by rfl) T.f_range (pa_cons (pv 2) pa_nil)) (blkOk_by (by kernel_rfl)) (fun _ _ _ _ _ => (pg_name (i := 3) nd rfl (.inl rfl))) (fun _ _ _ _ _ => pts_one (PW.pt (pw_and (pt_cmpR (k_inT (K := K) rfl (room65 hr)) (pe_tup (pa_cons (pv 3) (pa_cons (pv 2) pa_nil))) (pe_ix (k_ixt (K := K) rfl) (pv 0) pe_int (fun _ _ => rfl)) (by rfl)) (pw_and1 (pt_cmpR (k_no (K := K) rfl) (pv 3) (pv 1) (by rfl)))))) (fun _ _ _ _ _ => (pv 3))) (pe_lst pa_nil) (nomark _)))))) (fun _ _ _ _ _ => (pv 2))))), ?_⟩
  refine s_ret (ev_is (ev_lc (rng n) PyData.int (fun k => !has b k && (((rng k.toNat).filter fun j => decide ((j, k) ∈ A) && !has b j).map PyData.int).isEmpty) PyData.int (ei_rng (ea_cons (ev_op (ev_var rfl h1) ev_int ro_ix0) ea_nil) rfl (by omega)) (by rw [rng_len]; omega) (fun _ _ _ => rfl) fun k hk v H1 e1 av => item1 rfl (et_and (ev_test (ev_op (ev_var rfl av) (ev_var rfl (h2.mono e1)) ro_no1)) fun _ =>
    ev_test (ev_op (ev_lc (rng k.toNat) PyData.int (fun j => decide ((j, k) ∈ A) && !has b j) PyData.int (ei_rng (n := k.toNat) (ea_cons (ev_var rfl av) ea_nil) (by have := mem_rng.mp hk; omega) (by have := mem_rng.mp hk; omega)) (by rw [rng_len]; have := mem_rng.mp hk; omega) (fun _ _ _ => rfl) fun j hj u H2 e2 au => item1 rfl (et_and (ev_test (ev_op (ev_tup (ea_cons (ev_var rfl au) (ea_cons (ev_var rfl (av.mono e2)) ea_nil))) (ev_op (ev_var rfl (h1.mono (e1.trans e2))) ev_int ro_ix1) (ro_inPr (p := (j, k))))) fun _ => ev_test (ev_op (ev_var rfl au) (ev_var rfl (h2.mono (e1.trans e2))) ro_no1)) fun _ => ev_var rfl au) (ev_lst ea_nil) ro_eq0)) fun _ => ev_var rfl av) ?_) q
  refine congrArg (fun l => lI l) (List.filter_congr fun k hk => ?_)
  rw [emp_light W fun j => !has b j]
  rfl
theorem sc__law_quench : FnScope ["_law_web_here", "_law_burning_here", "_law_k", "_law_j"] ["_law_web_here", "_law_burning_here"] (defScope (top 50)) := ⟨rfl, rfl, rfl, by decide +kernel, rfl, by decide +kernel, by decide +kernel⟩
theorem ok_law_quench (F : FnP K "_law_quench" (top 50) f fd) (T : Fre mg) : FnOk P w K mg base CX0 1 f fd ["_law_web_here", "_law_burning_here"] (spG K R_quench) := by
  have nd := sc__law_quench.nd
  refine okG F sc__law_quench (fun ds z ⟨n, A, b, e, _⟩ => by rw [e]; rfl) fun cdv A outer s H vs Q E hr ds z hR hv q => ?_
  obtain ⟨n, A, b, rfl, W, S, rfl⟩ := hR
  obtain ⟨v1, v2, rfl, h1, h2⟩ := ats2 hv
  have := W.n5
  have := S.len
  refine ⟨_, (pss_one (ps_ret (pe_lc (own := [("_law_k", 2)]) (g := (gName 2)) (tt := (tTest (tOp (rEq0 K) (tLc (iRng1 (tCons (tOp (rIxT K) (tVar 0) (tC (.int 0))) tNil)) (gName 3) (tAnd (tTest (tOp (rInT K) (tTup (tCons (tVar 2) (tCons (tVar 3) tNil))) (tOp (rIxT K) (tVar 0) (tC (.int 1))))) (tTest (tOp (rIn K true) (tVar 3) (tVar 1)))) (tVar 3) [3]) (tLst tNil)))) rfl nd (pi_tup (pv 1)) (blkOk_by (by kernel_rfl)) (fun _ _ _ _ _ => (pg_name (i := 2) nd rfl (.inr rfl))) (fun _ _ _ _ _ => pts_one (pt_cmpR (k_eq0 (K := K) rfl (hu_of hr)) (pe_lc (own := [("_law_j", 3)]) (g := (gName 3)) rfl nd (pi_range1 (by rfl) T.f_range (pa_cons (pe_ix (k_ixt (K := K) rfl) (pv 0) pe_int (fun _ _ => rfl)) pa_nil)) (blkOk_by (by kernel_rfl)) (fun _ _ _ _ _ => (pg_name (i := 3) nd rfl (.inl rfl))) (fun _ _ _ _ _ => pts_one (PW.pt (pw_and (pt_cmpR (k_inT (K := K) rfl (room65 hr)) (pe_tup (pa_cons (pv 2) (pa_cons (pv 3) pa_nil))) (pe_ix (k_ixt (K := K) rfl) (pv 0) pe_int (fun _ _ => rfl)) (by rfl)) (pw_and1 (pt_cmpR (k_no (K := K) rfl) (pv 3) (pv 1) (by rfl)))))) (fun _ _ _ _ _ => (pv 3))) (pe_lst pa_nil) (nomark _))) (fun _ _ _ _ _ => (pv 2))))), ?_⟩
  refine s_ret (ev_is (ev_lc b PyData.int (fun k => (((rng n).filter fun j => decide ((k, j) ∈ A) && !has b j).map PyData.int).isEmpty) PyData.int (ei_tup (ev_var rfl h2)) (by omega) (fun _ _ _ => rfl) fun k hk v H1 e1 av => item1 rfl (ev_test (ev_op (ev_lc (rng n) PyData.int (fun j => decide ((k, j) ∈ A) && !has b j) PyData.int (ei_rng (ea_cons (ev_op (ev_var rfl (h1.mono e1)) ev_int ro_ix0) ea_nil) rfl (by omega)) (by rw [rng_len]; omega) (fun _ _ _ => rfl) fun j hj u H2 e2 au => item1 rfl (et_and (ev_test (ev_op (ev_tup (ea_cons (ev_var rfl (av.mono e2)) (ea_cons (ev_var rfl au) ea_nil))) (ev_op (ev_var rfl (h1.mono (e1.trans e2))) ev_int ro_ix1) (ro_inPr (p := (k, j))))) fun _ => ev_test (ev_op (ev_var rfl au) (ev_var rfl (h2.mono (e1.trans e2))) ro_no1)) fun _ => ev_var rfl au) (ev_lst ea_nil) ro_eq0)) fun _ => ev_var rfl av) ?_) q
  refine congrArg (fun l => lI l) ?_
  rw [S.filter_eq]
  refine sel_congr fun k _ _ => ?_
  rw [emp_ex]
  rfl
theorem sc__law_changed : FnScope ["_law_burning_here", "_law_lamp", "_law_k"] ["_law_burning_here", "_law_lamp"] (defScope (top 53)) := ⟨rfl, rfl, rfl, by decide +kernel, rfl, by decide +kernel, by decide +kernel⟩
theorem ok_law_changed (F : FnP K "_law_changed" (top 53) f fd) (T : Fre mg) : FnOk P w K mg base CX0 1 f fd ["_law_burning_here", "_law_lamp"] (spG K R_changed) := by
  have nd := sc__law_changed.nd
  refine okG F sc__law_changed (fun ds z ⟨n, b, k, e, _⟩ => by rw [e]; rfl) fun cdv A outer s H vs Q E hr ds z hR hv q => ?_
  obtain ⟨n, b, k, rfl, n5, S, k0, k1, rfl⟩ := hR
  obtain ⟨v1, v2, rfl, h1, h2⟩ := ats2 hv
  have := S.len
  refine ⟨_, (pss_cons (ps_if (pt_cmpR (k_in (K := K) rfl) (pv 1) (pv 0) (by rfl))
      (pss_one (ps_ret (pe_callTy call_tuple_of (by rfl) T.f_tuple (by decide +kernel) (pa_cons (pe_lc (own := [("_law_k", 2)]) (g := (gName 2)) rfl nd (pi_tup (pv 0)) (blkOk_by (by kernel_rfl)) (fun _ _ _ _ _ => (pg_name (i := 2) nd rfl (.inl rfl))) (fun _ _ _ _ _ => pts_one (pt_cmpR op_ne (pv 2) (pv 1) (nomark _))) (fun _ _ _ _ _ => (pv 2))) pa_nil))))
      pss_nil)
    (pss_one (ps_ret (pe_callTy call_tuple_of (by rfl) T.f_tuple (by decide +kernel) (pa_cons (pe_callB cr_sorted (by rfl) T.f_sorted (by decide +kernel) (pa_cons (pe_op op_cat (pe_callTy call_list_of (by rfl) T.f_list (by decide +kernel) (pa_cons (pv 0) pa_nil)) (pe_lst (pa_cons (pv 1) pa_nil))) pa_nil)) pa_nil))))), ?_⟩
  refine s_if (ev_test (ev_op (ev_var rfl h2) (ev_var rfl h1) ro_in1)) (fun hb H1 e1 => ?_) fun hb H1 e1 => ?_
  · refine s_ret (ev_cb (ea_cons (ev_is (ev_lc b PyData.int (fun j => !(j == k)) PyData.int (ei_tup (ev_var rfl (h1.mono e1))) (by omega) (fun _ _ _ => rfl) fun j hj v H2 e2 av => item1 rfl (ev_test (ev_op (ev_var rfl av) (ev_var rfl (h2.mono (e1.trans e2))) ro_neI)) fun _ => ev_var rfl av) (by rw [chg_out S (has_iff.mp hb)])) ea_nil) rc_tup) fun v H2 e2 av => q v H2 (e1.trans e2) av
  · have hb := has_false.mp hb
    refine s_ret (ev_cb (ea_cons (ev_cb (ea_cons (ev_is (ev_op (ev_cb (ea_cons (ev_var rfl (h1.mono e1)) ea_nil) rc_list) (ev_lst (ea_cons (ev_var rfl (h2.mono e1)) ea_nil)) (ro_cat (by simp; omega))) (d' := lI (b ++ [k])) (by simp)) ea_nil) (rc_srt (ns := b ++ [k]) (ms := sel n (chg (has b) k)) ?_ ?_ (sel_asc _ _) (chg_mem S hb k0 k1))) ea_nil) rc_tup) fun v H2 e2 av => q v H2 (e1.trans e2) av
    · refine List.nodup_append.mpr ⟨S.nodup, by simp, fun a ha c hc e => ?_⟩
      rw [List.mem_singleton.mp hc] at e
      subst e
      exact hb ha
    · rw [List.length_append, List.length_singleton]
      omega
/-! ### spare lamps once more, turn by turn -/
theorem sc__law_spare : FnScope ["_law_web_here", "_law_one", "_law_other", "_law_dark", "_law_found", "_law_turn", "_law_k", "_law_lit", "_law_out", "_law_j"] ["_law_web_here", "_law_one", "_law_other"] (defScope (top 51)) := ⟨rfl, rfl, rfl, by decide +kernel, rfl, by decide +kernel, by decide +kernel⟩
/-- the condition of a turn -/
theorem spare_cond {n : Nat} {A : List (Int × Int)} {a b X : List Int} {k : Int} (hk : has a k = false ∧ has b k = false) :
    (!has X k && !((((rng n).filter fun j => decide ((k, j) ∈ A) && (has X j || (has b j && !has a j))).map PyData.int) ++ (((rng n).filter fun j => decide ((j, k) ∈ A) && (has X j || (has a j && !has b j))).map PyData.int)).isEmpty) = (!has X k && need n (ar A) (has a) (has b) (has X) k) := by
  congr 1
  have e : ∀ l m : List PyData, (l ++ m).isEmpty = (l.isEmpty && m.isEmpty) := fun l m => by cases l <;> rfl
  rw [e, emp_ex, emp_ex]
  unfold need dark
  rw [hk.1, hk.2]
  have e1 : (fun j => decide ((k, j) ∈ A) && (has X j || (has b j && !has a j))) = fun l => ar A k l && lit (has a) (has b) (has X) l := funext fun l => by
    unfold lit
    rw [Bool.or_comm (has X l)]
    rfl
  have e2 : (fun j => decide ((j, k) ∈ A) && (has X j || (has a j && !has b j))) = fun l => ar A l k && out (has a) (has b) (has X) l := funext fun l => by
    unfold out
    rw [Bool.or_comm (has X l)]
    rfl
  rw [e1, e2]
  simp
theorem ok_law_spare (F : FnP K "_law_spare" (top 51) f fd) (T : Fre mg) : FnOk P w K mg base CX0 1 f fd ["_law_web_here", "_law_one", "_law_other"] (spG K R_spare) := by
  have nd := sc__law_spare.nd
  refine okG F sc__law_spare (fun ds z ⟨n, A, a, b, e, _⟩ => by rw [e]; rfl) fun cdv A0 outer s H vs Q E hr ds z hR hv q => ?_
  obtain ⟨n, A, a, b, rfl, W, S1, S2, rfl⟩ := hR
  obtain ⟨v1, v2, v3, rfl, h1, h2, h3⟩ := ats3 hv
  have n5 := W.n5
  refine ⟨_, (pss_cons (ps_asg (pe_tup (pa_cons (pe_lc (own := [("_law_k", 6)]) (g := (gName 6)) rfl nd (pi_range1 (by rfl) T.f_range (pa_cons (pe_ix (k_ixt (K := K) rfl) (pv 0) pe_int (fun _ _ => rfl)) pa_nil)) (blkOk_by (by kernel_rfl)) (fun _ _ _ _ _ => (pg_name (i := 6) nd rfl (.inl rfl))) (fun _ _ _ _ _ => pts_one (PW.pt (pw_and (pt_cmpR (k_no (K := K) rfl) (pv 6) (pv 1) (by rfl)) (pw_and1 (pt_cmpR (k_no (K := K) rfl) (pv 6) (pv 2) (by rfl)))))) (fun _ _ _ _ _ => (pv 6))) (pa_cons (pe_lst pa_nil) pa_nil))) (pg_tup rfl (pgs_cons (pg_name (i := 3) nd rfl (.inl rfl)) (pgs_cons (pg_name (i := 4) nd rfl (.inr rfl)) pgs_nil))))
    (pss_cons (ps_for PassesOwn.never rfl (pi_range1 (by rfl) T.f_range (pa_cons (pe_ix (k_ixt (K := K) rfl) (pv 0) pe_int (fun _ _ => rfl)) pa_nil)) (pg_name (i := 5) nd rfl (.inl rfl))
      (pss_one (ps_for PassesOwn.never rfl (pi_list (pv 3)) (pg_name (i := 6) nd rfl (.inr rfl))
        (pss_cons (ps_setLc (i := 7) (own := [("_law_j", 9)]) (g := (gName 9)) rfl nd rfl rfl (sw_true rfl rfl rfl (by decide +kernel)) (pi_range1 (by rfl) T.f_range (pa_cons (pe_ix (k_ixt (K := K) rfl) (pv 0) pe_int (fun _ _ => rfl)) pa_nil)) (blkOk_by (by kernel_rfl)) (fun _ _ _ _ _ => (pg_name (i := 9) nd rfl (.inl rfl))) (fun _ _ _ _ _ => pts_one (PW.pt (pw_and (pt_cmpR (k_inT (K := K) rfl (room65 hr)) (pe_tup (pa_cons (pv 6) (pa_cons (pv 9) pa_nil))) (pe_ix (k_ixt (K := K) rfl) (pv 0) pe_int (fun _ _ => rfl)) (by rfl)) (pw_and1 (PW.pt (pw_or (pt_cmpR (k_in (K := K) rfl) (pv 9) (pv 4) (by rfl)) (pw_or1 (PW.pt (pw_and (pt_cmpR (k_in (K := K) rfl) (pv 9) (pv 2) (by rfl)) (pw_and1 (pt_cmpR (k_no (K := K) rfl) (pv 9) (pv 1) (by rfl)))))))))))) (fun _ _ _ _ _ => (pv 9)))
        (pss_cons (ps_setLc (i := 8) (own := [("_law_j", 9)]) (g := (gName 9)) rfl nd rfl rfl (sw_true rfl rfl rfl (by decide +kernel)) (pi_range1 (by rfl) T.f_range (pa_cons (pe_ix (k_ixt (K := K) rfl) (pv 0) pe_int (fun _ _ => rfl)) pa_nil)) (blkOk_by (by kernel_rfl)) (fun _ _ _ _ _ => (pg_name (i := 9) nd rfl (.inl rfl))) (fun _ _ _ _ _ => pts_one (PW.pt (pw_and (pt_cmpR (k_inT (K := K) rfl (room65 hr)) (pe_tup (pa_cons (pv 9) (pa_cons (pv 6) pa_nil))) (pe_ix (k_ixt (K := K) rfl) (pv 0) pe_int (fun _ _ => rfl)) (by rfl)) (pw_and1 (PW.pt (pw_or (pt_cmpR (k_in (K := K) rfl) (pv 9) (pv 4) (by rfl)) (pw_or1 (PW.pt (pw_and (pt_cmpR (k_in (K := K) rfl) (pv 9) (pv 1) (by rfl)) (pw_and1 (pt_cmpR (k_no (K := K) rfl) (pv 9) (pv 2) (by rfl)))))))))))) (fun _ _ _ _ _ => (pv 9)))
        (pss_one (ps_if (PW.pt (pw_and (pt_cmpR (k_no (K := K) rfl) (pv 6) (pv 4) (by rfl)) (pw_and1 (pt_cmpR (k_ne0 (K := K) rfl (hu_of hr)) (pe_op op_cat (pv 7) (pv 8)) (pe_lst pa_nil) (nomark _)))))
          (pss_one (ps_set (i := 4) nd rfl (.inr rfl) (pe_callB cr_sorted (by rfl) T.f_sorted (by decide +kernel) (pa_cons (pe_op op_cat (pv 4) (pe_lst (pa_cons (pv 6) pa_nil))) pa_nil))))
          pss_nil)))))))
    (pss_one (ps_ret (pv 4))))), ?_⟩
  have hdk : ∀ k ∈ sel n (dark (has a) (has b)), has a k = false ∧ has b k = false := fun k hk => by
    have := (mem_sel.mp hk).2
    unfold dark at this
    rw [Bool.and_eq_true, Bool.not_eq_true', Bool.not_eq_true'] at this
    exact this
  have ld := sel_len n (dark (has a) (has b))
  refine s_unp (K := K) (ev_tup (ea_cons (ev_is (ev_lc (rng n) PyData.int (fun k => !has a k && !has b k) PyData.int (ei_rng (ea_cons (ev_op (ev_var rfl h1) ev_int ro_ix0) ea_nil) rfl (by omega)) (by rw [rng_len]; omega) (fun _ _ _ => rfl) fun k hk v H2 e2 av => item1 rfl (et_and (ev_test (ev_op (ev_var rfl av) (ev_var rfl (h2.mono e2)) ro_no1)) fun _ => ev_test (ev_op (ev_var rfl av) (ev_var rfl (h3.mono e2)) ro_no1)) fun _ => ev_var rfl av) (d' := lI (sel n (dark (has a) (has b)))) rfl) (ea_cons (ev_lst ea_nil) ea_nil))) fun vd vf H1 e1 hd hf => ?_
  refine s_for (ei_rng (ea_cons (ev_op (ev_var rfl (h1.mono e1)) ev_int ro_ix0) ea_nil) rfl (by omega)) fun H2 e2 => ?_
  have e12 := e1.trans e2
  refine ⟨fun i σ Hc => ∃ (X : List Int) (vf : V) (y1 y2 y3 y4 : Option V), σ = [.some v1, .some v2, .some v3, .some vd, .some vf, y1, y2, y3, y4, none] ∧ At K Hc vf (lI X) ∧ St n X ∧ (∀ k ∈ X, sp n (ar A) (has a) (has b) k = true) ∧ ∀ k, turns n (ar A) (has a) (has b) i k = true → k ∈ X,
    ⟨[], vf, none, none, none, none, rfl, hf.mono e2, St.nil n, by simp, fun k hk => by simp [turns] at hk⟩, ?_, ?_⟩
  · rintro i d v σ1 H3 H4 hi ⟨X, vf, y1, y2, y3, y4, rfl, aX, SX, hsp, htn⟩ s1 s2 av
    refine s_for (ei_list (ev_var rfl (hd.mono (e2.trans (s1.trans s2))))) fun H5 e5 => ?_
    have e15 := (s1.trans s2).trans e5
    refine ⟨fun j σ Hc => ∃ (X : List Int) (vf : V) (y1 y2 y3 y4 : Option V), σ = [.some v1, .some v2, .some v3, .some vd, .some vf, y1, y2, y3, y4, none] ∧ At K Hc vf (lI X) ∧ St n X ∧ (∀ k ∈ X, sp n (ar A) (has a) (has b) k = true) ∧ (∀ k, turns n (ar A) (has a) (has b) i k = true → k ∈ X) ∧
      ∀ k ∈ (sel n (dark (has a) (has b))).take j, need n (ar A) (has a) (has b) (turns n (ar A) (has a) (has b) i) k = true → k ∈ X, ⟨X, vf, _, y2, y3, y4, rfl, aX.mono (s2.trans e5), SX, hsp, htn, by simp⟩, ?_, ?_⟩
    · clear aX SX hsp htn
      rintro j d v σ1 H6 H7 hj ⟨X, vf, y1, y2, y3, y4, rfl, aX, SX, hsp, htn, hin⟩ t1 t2 av
      rw [List.getElem?_map] at hj
      obtain ⟨k, hk, rfl⟩ := Option.map_eq_some_iff.mp hj
      have hkd := hdk k (List.mem_of_getElem? hk)
      have hkn := (mem_sel.mp (List.mem_of_getElem? hk)).1
      have eT := e12.trans (e15.trans (t1.trans t2))
      have aX' := aX.mono t2
      refine s_set (ev_lc (rng n) PyData.int (fun j => decide ((k, j) ∈ A) && (has X j || (has b j && !has a j))) PyData.int (ei_rng (ea_cons (ev_op (ev_var rfl (h1.mono eT)) ev_int ro_ix0) ea_nil) rfl (by omega)) (by rw [rng_len]; omega) (fun _ _ _ => rfl) fun j hj u H8 e8 au => item1 rfl (et_and (ev_test (ev_op (ev_tup (ea_cons (ev_var rfl (av.mono e8)) (ea_cons (ev_var rfl au) ea_nil))) (ev_op (ev_var rfl (h1.mono (eT.trans e8))) ev_int ro_ix1) (ro_inPr (p := (k, j))))) fun _ => et_or (ev_test (ev_op (ev_var rfl au) (ev_var rfl (aX'.mono e8)) ro_in2)) fun _ => et_and (ev_test (ev_op (ev_var rfl au) (ev_var rfl (h3.mono (eT.trans e8))) ro_in1)) fun _ => ev_test (ev_op (ev_var rfl au) (ev_var rfl (h2.mono (eT.trans e8))) ro_no1)) fun _ => ev_var rfl au) fun vl H8 e8 al => ?_
      refine s_set (ev_lc (rng n) PyData.int (fun j => decide ((j, k) ∈ A) && (has X j || (has a j && !has b j))) PyData.int (ei_rng (ea_cons (ev_op (ev_var rfl (h1.mono (eT.trans e8))) ev_int ro_ix0) ea_nil) rfl (by omega)) (by rw [rng_len]; omega) (fun _ _ _ => rfl) fun j hj u H9 e9 au => item1 rfl (et_and (ev_test (ev_op (ev_tup (ea_cons (ev_var rfl au) (ea_cons (ev_var rfl (av.mono (e8.trans e9))) ea_nil))) (ev_op (ev_var rfl (h1.mono (eT.trans (e8.trans e9)))) ev_int ro_ix1) (ro_inPr (p := (j, k))))) fun _ => et_or (ev_test (ev_op (ev_var rfl au) (ev_var rfl (aX'.mono (e8.trans e9))) ro_in2)) fun _ => et_and (ev_test (ev_op (ev_var rfl au) (ev_var rfl (h2.mono (eT.trans (e8.trans e9)))) ro_in1)) fun _ => ev_test (ev_op (ev_var rfl au) (ev_var rfl (h3.mono (eT.trans (e8.trans e9)))) ro_no1)) fun _ => ev_var rfl au) fun vo H9 e9 ao => ?_
      have ll1 := List.length_filter_le (fun j => decide ((k, j) ∈ A) && (has X j || (has b j && !has a j))) (rng n)
      have ll2 := List.length_filter_le (fun j => decide ((j, k) ∈ A) && (has X j || (has a j && !has b j))) (rng n)
      have lr := rng_len n
      refine s_if (et_is (et_and (ev_test (ev_op (ev_var rfl (av.mono (e8.trans e9))) (ev_var rfl (aX'.mono (e8.trans e9))) ro_no2)) fun _ => ev_test (ev_op (ev_op (ev_var rfl (al.mono e9)) (ev_var rfl ao) (ro_cat (by rw [List.length_map, List.length_map]; omega))) (ev_lst ea_nil) ro_ne0)) (spare_cond hkd)) (fun hb H10 e10 => ?_) fun hb H10 e10 => ?_
      · rw [Bool.and_eq_true, Bool.not_eq_true'] at hb
        have hX := has_false.mp hb.1
        have lX := SX.len
        refine s_set (ev_cb (ea_cons (ev_is (ev_op (ev_var rfl (aX'.mono (e8.trans (e9.trans e10)))) (ev_lst (ea_cons (ev_var rfl (av.mono (e8.trans (e9.trans e10)))) ea_nil)) (ro_cat (by simp; omega))) (d' := lI (X ++ [k])) (by simp)) ea_nil) (rc_srt (ns := X ++ [k]) (ms := sel n fun j => has X j || decide (j = k)) ?_ ?_ (sel_asc _ _) fun j => ?_)) fun vf' H11 e11 aX2 => ⟨⟨_, vf', _, _, _, _, rfl, aX2, St.sel _ _, fun j hj => ?_, fun j hj => ?_, fun j hj hn => ?_⟩, t1.trans (t2.trans (e8.trans (e9.trans (e10.trans e11))))⟩
        · refine List.nodup_append.mpr ⟨SX.nodup, by simp, fun x hx c hc e => ?_⟩
          rw [List.mem_singleton.mp hc] at e
          subst e
          exact hX hx
        · rw [List.length_append, List.length_singleton]
          omega
        · rw [mem_sel, Bool.or_eq_true, has_iff, decide_eq_true_iff, List.mem_append, List.mem_singleton]
          constructor
          · exact fun z => z.2
          · rintro (z | z)
            · exact ⟨SX.inr j z, .inl z⟩
            · rw [z]; exact ⟨hkn, .inr rfl⟩
        · have := (mem_sel.mp hj).2
          rw [Bool.or_eq_true, has_iff, decide_eq_true_iff] at this
          rcases this with z | z
          · exact hsp j z
          · rw [z]
            exact sp_closed W.ar k (need_mono W.ar (fun x hx => hsp x (has_iff.mp hx)) hb.2)
        · have hj' := htn j hj
          exact mem_sel.mpr ⟨SX.inr j hj', by rw [has_iff.mpr hj']; rfl⟩
        · rw [take_snoc hk] at hj
          rcases List.mem_append.mp hj with z | z
          · have hj' := hin j z hn
            exact mem_sel.mpr ⟨SX.inr j hj', by rw [has_iff.mpr hj']; rfl⟩
          · rw [List.mem_singleton.mp z]
            exact mem_sel.mpr ⟨hkn, by simp⟩
      · refine ⟨⟨X, vf, _, _, _, _, rfl, aX'.mono (e8.trans (e9.trans e10)), SX, hsp, htn, fun j hj hn => ?_⟩, t1.trans (t2.trans (e8.trans (e9.trans e10)))⟩
        rw [take_snoc hk] at hj
        rcases List.mem_append.mp hj with z | z
        · exact hin j z hn
        · rw [List.mem_singleton.mp z] at hn ⊢
          have hn2 : need n (ar A) (has a) (has b) (has X) k = true := need_mono W.ar (fun x hx => has_iff.mpr (htn x hx)) hn
          rw [hn2, Bool.and_true, Bool.not_eq_false'] at hb
          exact has_iff.mp hb
    · rintro σ1 H6 ⟨X, vf, y1, y2, y3, y4, rfl, aX, SX, hsp, htn, hin⟩ s6
      rw [List.length_map, List.take_length] at hin
      refine ⟨⟨X, vf, _, _, _, _, rfl, aX, SX, hsp, fun k hk => ?_⟩, s1.trans (s2.trans (e5.trans s6))⟩
      have hk : grow n (ar A) (has a) (has b) (turns n (ar A) (has a) (has b) i) k = true := hk
      rcases grow_iff.mp hk with z | z
      · exact htn k z
      · have hd := ((need_iff W.ar).mp z).1
        exact hin k (mem_sel.mpr ⟨need_in W.ar z, by unfold dark; rw [hd.1, hd.2]; rfl⟩) z
  · rintro σ1 H3 ⟨X, vf, y1, y2, y3, y4, rfl, aX, SX, hsp, htn⟩ s3
    rw [List.length_map, rng_len] at htn
    have hX : X = sel n (sp n (ar A) (has a) (has b)) := asc_ext SX.asc (sel_asc _ _) fun k => by
      rw [mem_sel]
      exact ⟨fun h => ⟨SX.inr k h, hsp k h⟩, fun h => htn k h.2⟩
    rw [← hX] at q
    exact s_ret (ev_var rfl aX) fun v H4 e4 av => q v H4 (e12.trans (s3.trans e4)) av
theorem sc__law_fewest : FnScope ["_law_web_here", "_law_one", "_law_other", "_law_k"] ["_law_web_here", "_law_one", "_law_other"] (defScope (top 52)) := ⟨rfl, rfl, rfl, by decide +kernel, rfl, by decide +kernel, by decide +kernel⟩
theorem ok_law_fewest (F : FnP K "_law_fewest" (top 52) f fd) (T : Fre mg) (c__law_spare : Cal P w K mg base 1 "_law_spare" ["_law_web_here", "_law_one", "_law_other"] (spG K R_spare)) : FnOk P w K mg base CX0 2 f fd ["_law_web_here", "_law_one", "_law_other"] (spG K R_fewest) := by
  have nd := sc__law_fewest.nd
  refine okG F sc__law_fewest (fun ds z ⟨n, A, a, b, e, _⟩ => by rw [e]; rfl) fun cdv A0 outer s H vs Q E hr ds z hR hv q => ?_
  obtain ⟨n, A, a, b, rfl, W, S1, S2, rfl⟩ := hR
  obtain ⟨v1, v2, v3, rfl, h1, h2, h3⟩ := ats3 hv
  have n5 := W.n5
  have l2 := sel_len n (sp n (ar A) (has a) (has b))
  refine ⟨_, (pss_one (ps_ret (pe_op op_add (pe_callB call_len_seq (by rfl) T.f_len (by decide +kernel) (pa_cons (pe_lc (own := [("_law_k", 3)]) (g := (gName 3)) rfl nd (pi_range1 (by rfl) T.f_range (pa_cons (pe_ix (k_ixt (K := K) rfl) (pv 0) pe_int (fun _ _ => rfl)) pa_nil)) (blkOk_by (by kernel_rfl)) (fun _ _ _ _ _ => (pg_name (i := 3) nd rfl (.inl rfl))) (fun _ _ _ _ _ => pts_one (pt_cmpR op_ne (pe_cmpR (k_in (K := K) rfl) (pv 3) (pv 1) (by rfl)) (pe_cmpR (k_in (K := K) rfl) (pv 3) (pv 2) (by rfl)) (nomark _))) (fun _ _ _ _ _ => (pv 3))) pa_nil)) (pe_op op_mulW pe_int (pe_callB call_len_seq (by rfl) T.f_len (by decide +kernel) (pa_cons (c__law_spare.call hr rfl (pa_cons (pv 0) (pa_cons (pv 1) (pa_cons (pv 2) pa_nil))) pass0) pa_nil)))))), ?_⟩
  refine s_ret (ev_is (ev_op (ev_cb (ea_cons (ev_lc (rng n) PyData.int (fun k => !(has a k == has b k)) PyData.int (ei_rng (ea_cons (ev_op (ev_var rfl h1) ev_int ro_ix0) ea_nil) rfl (by omega)) (by rw [rng_len]; omega) (fun _ _ _ => rfl) fun k hk v H2 e2 av => item1 rfl (ev_test (ev_op (ev_op (ev_var rfl av) (ev_var rfl (h2.mono e2)) ro_in1) (ev_op (ev_var rfl av) (ev_var rfl (h3.mono e2)) ro_in1) ro_neB)) fun _ => ev_var rfl av) ea_nil) rc_lenL) (ev_op ev_int (ev_cb (ea_cons (ev_call (ea_cons (ev_var rfl h1) (ea_cons (ev_var rfl h2) (ea_cons (ev_var rfl h3) ea_nil))) ⟨n, A, a, b, rfl, W, S1, S2, rfl⟩) ea_nil) rc_lenL) (ro_intC (wide_mul (a := 2) (b := 10) (by decide) (by rw [List.length_map, Int.natAbs_natCast]; omega) (by decide) (by decide) (by decide)))) ro_int) ?_) q
  have e : dist n (ar A) (has a) (has b) = ((rng n).filter fun k => !(has a k == has b k)).length + 2 * (sel n (sp n (ar A) (has a) (has b))).length := rfl
  rw [e, List.length_map, List.length_map]
  rw [show ((((rng n).filter fun k => !(has a k == has b k)).length + 2 * (sel n (sp n (ar A) (has a) (has b))).length : Nat) : Int) = ((((rng n).filter fun k => !(has a k == has b k)).length : Nat) : Int) + 2 * ((sel n (sp n (ar A) (has a) (has b))).length : Int) by omega]
def R_after : List PyData → PyData → Prop := fun ds z => ∃ n A b, ds = [webD n A, tI b] ∧ Wb n A ∧ St n b ∧ z = .list ((sel n (doab n (ar A) (has b))).map fun k => .tuple [.int k, tI (sel n (chg (has b) k))])
theorem sc__law_after : FnScope ["_law_web_here", "_law_burning_here", "_law_k"] ["_law_web_here", "_law_burning_here"] (defScope (top 54)) := ⟨rfl, rfl, rfl, by decide +kernel, rfl, by decide +kernel, by decide +kernel⟩
theorem ok_law_after (F : FnP K "_law_after" (top 54) f fd) (T : Fre mg) (c__law_light : Cal P w K mg base 1 "_law_light" ["_law_web_here", "_law_burning_here"] (spG K R_light)) (c__law_quench : Cal P w K mg base 1 "_law_quench" ["_law_web_here", "_law_burning_here"] (spG K R_quench))
    (c__law_changed : Cal P w K mg base 1 "_law_changed" ["_law_burning_here", "_law_lamp"] (spG K R_changed)) : FnOk P w K mg base CX0 2 f fd ["_law_web_here", "_law_burning_here"] (spG K R_after) := by
  have nd := sc__law_after.nd
  refine okG F sc__law_after (fun ds z ⟨n, A, b, e, _⟩ => by rw [e]; rfl) fun cdv A0 outer s H vs Q E hr ds z hR hv q => ?_
  obtain ⟨n, A, b, rfl, W, S, rfl⟩ := hR
  obtain ⟨v1, v2, rfl, h1, h2⟩ := ats2 hv
  have := W.n5
  have l1 := sel_len n (lightP n (ar A) (has b))
  have l2 := sel_len n (quenchP n (ar A) (has b))
  have l3 := sel_len n (doab n (ar A) (has b))
  refine ⟨_, (pss_one (ps_ret (pe_lc (own := [("_law_k", 2)]) (g := (gName 2)) rfl nd (pi_list (pe_callB cr_sorted (by rfl) T.f_sorted (by decide +kernel) (pa_cons (pe_op op_cat (c__law_light.call hr rfl (pa_cons (pv 0) (pa_cons (pv 1) pa_nil)) pass0) (c__law_quench.call hr rfl (pa_cons (pv 0) (pa_cons (pv 1) pa_nil)) pass0)) pa_nil))) (blkOk_by (by kernel_rfl)) (fun _ _ _ _ _ => (pg_name (i := 2) nd rfl (.inl rfl))) (fun _ _ _ _ _ => pts_nil) (fun _ _ _ _ _ => (pe_tup (pa_cons (pv 2) (pa_cons (c__law_changed.call hr rfl (pa_cons (pv 1) (pa_cons (pv 2) pa_nil)) pass0) pa_nil))))))), ?_⟩
  refine s_ret (ev_is (ev_lc (sel n (doab n (ar A) (has b))) PyData.int (fun _ => true) (fun k => .tuple [.int k, tI (sel n (chg (has b) k))]) (ei_list (ev_cb (ea_cons (ev_is (ev_op (ev_call (ea_cons (ev_var rfl h1) (ea_cons (ev_var rfl h2) ea_nil)) ⟨n, A, b, rfl, W, S, rfl⟩) (ev_call (ea_cons (ev_var rfl h1) (ea_cons (ev_var rfl h2) ea_nil)) ⟨n, A, b, rfl, W, S, rfl⟩) (ro_cat (by rw [List.length_map, List.length_map]; omega))) (d' := lI (sel n (lightP n (ar A) (has b)) ++ sel n (quenchP n (ar A) (has b)))) (by rw [lI, List.map_append])) ea_nil) (rc_srt (lq_nodup _ _ _) (by rw [List.length_append]; omega) (sel_asc _ _) fun k => mem_app))) (by omega) (fun k _ _ => by simp only [imm, imm.immAll, Bool.true_and, Bool.and_true]; exact imm_ints _) fun k hk v H1 e1 av => item1 rfl et_yes fun _ => ev_tup (ea_cons (ev_var rfl av) (ea_cons (ev_call (ea_cons (ev_var rfl (h2.mono e1)) (ea_cons (ev_var rfl av) ea_nil)) ⟨n, b, k, rfl, by omega, S, (mem_sel.mp hk).1.1, (mem_sel.mp hk).1.2, rfl⟩) ea_nil))) (by rw [filter_yes])) q
end
end Hd
set_option Elab.async false
set_option linter.all false
set_option maxRecDepth 100000
set_option maxHeartbeats 4000000
/-! Handons: the law's plain defs, 2: what a text should bring about, and when two answers are alike. -/
namespace Hd
open PySem PySem.Spec PyProof.Rows L2
/-! ### mathematics -/
theorem split_len (x y : PySem.Str) : (Txt.split x y).length ≤ x.length + 2 := by
  unfold Txt.split
  split
  · simp
  · split
    · simp
    · rw [length_partsBetween]
      have := StrLaws.occ_length_le x y 0 x.length (x.length + 1)
      omega
def wordsF (x : PySem.Str) : List PySem.Str := (Txt.split x " ").filter fun w => !decide (w = "")
theorem words_len (x : PySem.Str) : (wordsF x).length ≤ x.length + 2 := Nat.le_trans (List.length_filter_le _ _) (split_len _ _)
def qsL : List PySem.Str := ["burning", "can", "left", "next", "spare"]
def allL : List PySem.Str := ["light", "quench", "burning", "can", "left", "next", "spare"]
section
variable (n : Nat) (a : Int → Int → Bool) (b : List Int) (q : Pr)
def preL (w : PySem.Str) : List Int := if w = "burning" then b else if w = "can" then sel n (doab n a (has b)) else sel n (sp n a (has b) q)
def tlL (w : PySem.Str) : List Int := if w = "next" then (sel n (nxt n a (has b) q)).take 1 else preL n a b q w
def tlF (w : PySem.Str) : PySem.Str := if w = "left" then sI (dist n a (has b) q) else lstS (tlL n a b q w)
def nsF (w : PySem.Str) : List Int := if w = "light" then sel n (lightP n a (has b)) else sel n (quenchP n a (has b))
def kOf (ns : List Int) (w : PySem.Str) : Int := (ns.find? fun k => decide (sI k = w)).getD 0
inductive Out
  | bad (i : Int)
  | told (s : PySem.Str)
  | step (b : List Int)
def dueF (ws : List PySem.Str) : Out :=
  match ws with
  | [] => .bad 1
  | w :: r => if w ∉ allL then .bad 1 else if w ∈ qsL then (if r ≠ [] then .bad 2 else .told (tlF n a b q w)) else
    match r with
    | [] => .bad 2
    | v :: r2 => if v ∉ (nsF n a b w).map sI then .bad 2 else if r2 ≠ [] then .bad 3 else .step (sel n (chg (has b) (kOf (nsF n a b w) v)))
end
theorem due_1 (n : Nat) (a : Int → Int → Bool) (b : List Int) (q : Pr) (w : PySem.Str) : dueF n a b q [w] = if w ∉ allL then .bad 1 else if w ∈ qsL then .told (tlF n a b q w) else .bad 2 := rfl
theorem due_2 (n : Nat) (a : Int → Int → Bool) (b : List Int) (q : Pr) (w v : PySem.Str) (r2 : List PySem.Str) : dueF n a b q (w :: v :: r2) = if w ∉ allL then .bad 1 else if w ∈ qsL then .bad 2 else if v ∉ (nsF n a b w).map sI then .bad 2 else if r2 ≠ [] then .bad 3 else .step (sel n (chg (has b) (kOf (nsF n a b w) v))) := rfl
theorem due_no {n : Nat} {a : Int → Int → Bool} {b : List Int} {q : Pr} {w : PySem.Str} (r : List PySem.Str) (h : w ∉ allL) : dueF n a b q (w :: r) = .bad 1 := by
  cases r with
  | nil => rw [due_1, if_pos h]
  | cons v r => rw [due_2, if_pos h]
theorem due_q2 {n : Nat} {a : Int → Int → Bool} {b : List Int} {q : Pr} {w : PySem.Str} {r : List PySem.Str} (h : w ∈ allL) (hq : w ∈ qsL) (hr : r ≠ []) : dueF n a b q (w :: r) = .bad 2 := by
  cases r with
  | nil => exact absurd rfl hr
  | cons v r => rw [due_2, if_neg (fun z => z h), if_pos hq]
def outD : Out → PyData
  | .bad i => .tuple [.str "bad", .int i]
  | .told s => .tuple [.str "told", .str s]
  | .step b => .tuple [.str "step", tI b]
theorem kOf_spec {ns : List Int} {w : PySem.Str} (h : w ∈ ns.map sI) : kOf ns w ∈ ns ∧ sI (kOf ns w) = w := by
  obtain ⟨k, hk, e⟩ := List.mem_map.mp h
  unfold kOf
  cases hf : ns.find? fun k => decide (sI k = w) with
  | none =>
    have := List.find?_eq_none.mp hf k hk
    simp [e] at this
  | some j =>
    have h1 := List.mem_of_find?_eq_some hf
    have h2 := List.find?_some hf
    exact ⟨h1, by simpa using h2⟩
theorem sI_int {k : Int} (h0 : 0 ≤ k) (h1 : k < 10) : PySem.intText? (sI k) = some k := by
  have : k = 0 ∨ k = 1 ∨ k = 2 ∨ k = 3 ∨ k = 4 ∨ k = 5 ∨ k = 6 ∨ k = 7 ∨ k = 8 ∨ k = 9 := by omega
  rcases this with h | h | h | h | h | h | h | h | h | h <;> subst h <;> decide +kernel
theorem chg_has {n : Nat} {b : List Int} {k : Int} (S : St n b) (h0 : 0 ≤ k) (h1 : k < n) : has (sel n (chg (has b) k)) = chg (has b) k := funext fun j => by
  by_cases hj : 0 ≤ j ∧ j < n
  · exact has_sel hj.1 hj.2
  · have e1 : has (sel n (chg (has b) k)) j = false := has_false.mpr fun z => hj (mem_sel.mp z).1
    have e2 : chg (has b) k j = false := by
      rw [chg_ne (by omega), has_false]
      exact fun z => hj (S.inr j z)
    rw [e1, e2]
theorem next_list {n : Nat} {A : List (Int × Int)} {b : List Int} {q : Pr} (W : Wb n A) (S : St n b) :
    ((sel n (doab n (ar A) (has b))).filter fun k => ((dist n (ar A) (has (sel n (chg (has b) k))) q : Nat) : Int) == ((dist n (ar A) (has b) q : Nat) : Int) - 1) = sel n (nxt n (ar A) (has b) q) := by
  unfold Hd.sel
  rw [List.filter_filter]
  refine List.filter_congr fun k hk => ?_
  have hk := mem_rng.mp hk
  have e := chg_has S hk.1 hk.2
  unfold Hd.sel at e
  rw [e, Bool.eq_iff_iff, next_iff W.ar hk.1 hk.2, Bool.and_eq_true, and_comm]
  refine and_congr_right fun _ => ?_
  rw [beq_iff_eq]
  omega
theorem dist_le (n : Nat) (a : Int → Int → Bool) (p q : Pr) : dist n a p q ≤ 3 * n := by
  unfold dist
  have := cnt_le n fun k => p k != q k
  have := cnt_le n (sp n a p q)
  omega
theorem tlL_ok {n : Nat} {a : Int → Int → Bool} {b : List Int} {q : Pr} (S : St n b) (n5 : n ≤ 5) (w : PySem.Str) : (∀ k ∈ tlL n a b q w, 0 ≤ k ∧ k < 10) ∧ (tlL n a b q w).length ≤ 5 := by
  have hs : ∀ p : Pr, (∀ k ∈ sel n p, 0 ≤ k ∧ k < 10) ∧ (sel n p).length ≤ 5 := fun p => ⟨fun k hk => by have := (mem_sel.mp hk).1; omega, by have := sel_len n p; omega⟩
  have hb : (∀ k ∈ b, 0 ≤ k ∧ k < 10) ∧ b.length ≤ 5 := ⟨fun k hk => by have := S.inr k hk; omega, by have := S.len; omega⟩
  unfold tlL
  split
  · refine ⟨fun k hk => (hs _).1 k (List.mem_of_mem_take hk), ?_⟩
    rw [List.length_take]
    omega
  · unfold preL
    split
    · exact hb
    · split
      · exact hs _
      · exact hs _
theorem nsF_ok {n : Nat} {a : Int → Int → Bool} {b : List Int} (w : PySem.Str) : (∀ k ∈ nsF n a b w, 0 ≤ k ∧ k < n) ∧ (nsF n a b w).length ≤ n := by
  unfold nsF
  split
  · exact ⟨fun k hk => (mem_sel.mp hk).1, sel_len _ _⟩
  · exact ⟨fun k hk => (mem_sel.mp hk).1, sel_len _ _⟩
section
variable {K : PySem.W.Frag} {σ : L2.St} {H : Hp} {to te : TE} {D : Ends}
theorem ro_noSL {a : PySem.Str} {ns : List PySem.Str} : RO K (rIn K true) (.str a) (.list (ns.map PyData.str)) (.bool (!decide (a ∈ ns))) := ro_inSL (neg := true)
theorem ro_yesSL {a : PySem.Str} {ns : List PySem.Str} : RO K (rIn K false) (.str a) (.list (ns.map PyData.str)) (.bool (decide (a ∈ ns))) := ro_inSL (neg := false)
theorem ev_split {a b : PySem.Str} (h1 : Ev K to σ H (.str a)) (h2 : Ev K te σ H (.str b)) (hb : (b.length == 0) = false) (hl : a.length ≤ 90000) :
    Ev K (tM1 (fun x xs H Q => ∃ a b, x = .str a ∧ xs = [.str b] ∧ (b.length == 0) = false ∧ a.length + 2 ≤ sizeLine ∧ rNewStrs (Txt.split a b) H Q) to te) σ H (.list ((Txt.split a b).map PyData.str)) := fun H1 e Q q => h1 H1 e _ fun x H2 e2 ax => by
  rw [at_str ax]
  refine ⟨⟨_, rfl⟩, h2 H2 (e.trans e2) _ fun y H3 e3 ay => ?_⟩
  rw [at_str ay]
  exact ⟨a, b, rfl, rfl, hb, Nat.le_trans (Nat.add_le_add_right hl 2) (by decide), fun p hp => q _ _ ((e2.trans e3).trans (same_new hp)) (.lst upd_same (ats_strs _))⟩
theorem s_par3 {i j l : Nat} {tr : TA} {d1 d2 d3 : PyData} (h : EvA K tr σ H [d1, d2, d3]) (k : ∀ u v w H1, Same H H1 → At K H1 u d1 → At K H1 v d2 → At K H1 w d3 → D.nx (((σ.set i (some u)).set j (some v)).set l (some w)) H1) : tPar3 i j l tr D σ H :=
  h H (Same.refl H) _ fun vs H1 e avs => by
    obtain ⟨v1, v2, v3, rfl, h1, h2, h3⟩ := ats3 avs
    exact ⟨_, _, _, rfl, k _ _ _ H1 e h1 h2 h3⟩
theorem s_cut {t u : TS} (M : L2.St → Hp → Prop) (k : ∀ N : L2.St → Hp → Prop, (∀ σ' H', M σ' H' → N σ' H') → t { D with nx := N } σ H) (h : ∀ σ' H', M σ' H' → u D σ' H') : tSeq t u D σ H := k (u D) h
end
section
variable {P : Program} {w : World} {K : PySem.W.Frag} {mg : PySem.Str → Option Value} {base : Heap} {f : Addr} {fd : FuncData}
theorem lstS_ne {l : List Int} (h : (!(l.map PyData.int).isEmpty) = true) : lstS l = Txt.join " " (l.map sI) := by
  unfold lstS
  cases l with
  | nil => cases h
  | cons k l => rfl
theorem lstS_nil {l : List Int} (h : (!(l.map PyData.int).isEmpty) = false) : lstS l = "none" := by
  unfold lstS
  cases l with
  | nil => rfl
  | cons k l => cases h
theorem join_ok {ns : List Int} (hk : ∀ k ∈ ns, 0 ≤ k ∧ k < 10) (hl : ns.length ≤ 100) : ((ns.map sI).map (·.length)).sum + (ns.map sI).length * (" " : PySem.Str).length ≤ 16777216 := by
  rw [sI_sum hk, List.length_map, show (" " : PySem.Str).length = 1 by decide +kernel]
  omega
def R_due : List PyData → PyData → Prop := fun ds z => ∃ n A b g t, ds = [webD n A, tI b, tI g, .str t] ∧ Wb n A ∧ St n b ∧ St n g ∧ t.length ≤ 1000 ∧ z = outD (dueF n (ar A) b (has g) (wordsF t))
theorem sc__law_desk_due : FnScope ["_law_web_here", "_law_burning_here", "_law_goal", "_law_text", "_law_words", "_law_light_here", "_law_quench_here", "_law_some", "_law_few", "_law_names", "_law_word", "_law_lamp", "_law_there", "_law_k"] ["_law_web_here", "_law_burning_here", "_law_goal", "_law_text"] (defScope (top 55)) := ⟨rfl, rfl, rfl, by decide +kernel, rfl, by decide +kernel, by decide +kernel⟩
theorem ok_law_desk_due (F : FnP K "_law_desk_due" (top 55) f fd) (T : Fre mg) (c__law_light : Cal P w K mg base 1 "_law_light" ["_law_web_here", "_law_burning_here"] (spG K R_light)) (c__law_quench : Cal P w K mg base 1 "_law_quench" ["_law_web_here", "_law_burning_here"] (spG K R_quench))
    (c__law_spare : Cal P w K mg base 1 "_law_spare" ["_law_web_here", "_law_one", "_law_other"] (spG K R_spare)) (c__law_fewest : Cal P w K mg base 2 "_law_fewest" ["_law_web_here", "_law_one", "_law_other"] (spG K R_fewest)) (c__law_after : Cal P w K mg base 2 "_law_after" ["_law_web_here", "_law_burning_here"] (spG K R_after))
    (c__law_changed : Cal P w K mg base 1 "_law_changed" ["_law_burning_here", "_law_lamp"] (spG K R_changed)) : FnOk P w K mg base CX0 3 f fd ["_law_web_here", "_law_burning_here", "_law_goal", "_law_text"] (spG K R_due) := by
  have nd := sc__law_desk_due.nd
  refine okG F sc__law_desk_due (fun ds z ⟨n, A, b, g, t, e, _⟩ => by rw [e]; rfl) fun cdv A0 outer s H vs Q E hr ds z hR hv q => ?_
  obtain ⟨n, A, b, g, t, rfl, W, S1, S2, lt, rfl⟩ := hR
  obtain ⟨v1, v2, v3, v4, rfl, h1, h2, h3, h4⟩ := ats4 hv
  have n5 := W.n5
  have ls := split_len t " "
  have lw := words_len t
  have l1 := sel_len n (lightP n (ar A) (has b))
  have l2 := sel_len n (quenchP n (ar A) (has b))
  have l3 := sel_len n (doab n (ar A) (has b))
  refine ⟨_, (pss_cons (ps_par3 (i := 4) (j := 5) (l := 6) (by rfl) nd rfl rfl rfl (by decide) (by decide) (by decide) rfl rfl rfl (pa_cons (pe_lc (own := [("_law_word", 10)]) (g := (gName 10)) rfl nd (pi_list (pe_split (pv 3) pe_str)) (blkOk_by (by kernel_rfl)) (fun _ _ _ _ _ => (pg_name (i := 10) nd rfl (.inl rfl))) (fun _ _ _ _ _ => pts_one (pt_cmpR op_ne (pv 10) pe_str (nomark _))) (fun _ _ _ _ _ => (pv 10))) (pa_cons (c__law_light.call hr rfl (pa_cons (pv 0) (pa_cons (pv 1) pa_nil)) pass0) (pa_cons (c__law_quench.call hr rfl (pa_cons (pv 0) (pa_cons (pv 1) pa_nil)) pass0) pa_nil))) (by rfl))
    (pss_cons (ps_if (PW.pt (pw_or (pt_cmpR (k_eq0 (K := K) rfl (hu_of hr)) (pv 4) (pe_lst pa_nil) (nomark _)) (pw_or1 (pt_cmpR (k_no (K := K) rfl) (pe_ix (k_ixl (K := K) rfl) (pv 4) pe_int (fun _ _ => rfl)) (pe_lst (pa_cons pe_str (pa_cons pe_str (pa_cons pe_str (pa_cons pe_str (pa_cons pe_str (pa_cons pe_str (pa_cons pe_str pa_nil)))))))) (by rfl)))))
      (pss_one (ps_ret (pe_tup (pa_cons pe_str (pa_cons pe_int pa_nil)))))
      pss_nil)
    (pss_cons (ps_if (pt_cmpR (k_in (K := K) rfl) (pe_ix (k_ixl (K := K) rfl) (pv 4) pe_int (fun _ _ => rfl)) (pe_lst (pa_cons pe_str (pa_cons pe_str (pa_cons pe_str (pa_cons pe_str (pa_cons pe_str pa_nil)))))) (by rfl))
      (pss_cons (ps_if (pt_cmpR op_gt (pe_callB call_len_seq (by rfl) T.f_len (by decide +kernel) (pa_cons (pv 4) pa_nil)) pe_int (nomark _))
        (pss_one (ps_ret (pe_tup (pa_cons pe_str (pa_cons pe_int pa_nil)))))
        pss_nil)
      (pss_cons (ps_if (pt_cmpR op_eq (pe_ix (k_ixl (K := K) rfl) (pv 4) pe_int (fun _ _ => rfl)) pe_str (nomark _))
        (pss_one (ps_ret (pe_tup (pa_cons pe_str (pa_cons (pe_callTy call_str_int (by rfl) T.f_str (by decide +kernel) (pa_cons (c__law_fewest.call hr rfl (pa_cons (pv 0) (pa_cons (pv 1) (pa_cons (pv 2) pa_nil))) pass0) pa_nil)) pa_nil)))))
        pss_nil)
      (pss_cons (ps_set (i := 7) nd rfl (.inl rfl) (pe_ifExp (pt_cmpR op_eq (pe_ix (k_ixl (K := K) rfl) (pv 4) pe_int (fun _ _ => rfl)) pe_str (nomark _)) (pe_callTy call_list_of (by rfl) T.f_list (by decide +kernel) (pa_cons (pv 1) pa_nil)) (pe_ifExp (pt_cmpR op_eq (pe_ix (k_ixl (K := K) rfl) (pv 4) pe_int (fun _ _ => rfl)) pe_str (nomark _)) (pe_callB cr_sorted (by rfl) T.f_sorted (by decide +kernel) (pa_cons (pe_op op_cat (pv 5) (pv 6)) pa_nil)) (c__law_spare.call hr rfl (pa_cons (pv 0) (pa_cons (pv 1) (pa_cons (pv 2) pa_nil))) pass0))))
      (pss_cons (ps_if (pt_cmpR op_eq (pe_ix (k_ixl (K := K) rfl) (pv 4) pe_int (fun _ _ => rfl)) pe_str (nomark _))
        (pss_cons (ps_set (i := 8) nd rfl (.inr rfl) (c__law_fewest.call hr rfl (pa_cons (pv 0) (pa_cons (pv 1) (pa_cons (pv 2) pa_nil))) pass0))
        (pss_one (ps_set (i := 7) nd rfl (.inl rfl) (pe_slice sl_list (pe_lc (own := [("_law_lamp", 11), ("_law_there", 12)]) (g := (gTup K 2 (gCons (gName 11) (gCons (gName 12) gNil)))) rfl nd (pi_list (c__law_after.call hr rfl (pa_cons (pv 0) (pa_cons (pv 1) pa_nil)) pass0)) (blkOk_by (by kernel_rfl)) (fun _ _ _ _ _ => (pg_tup rfl (pgs_cons (pg_name (i := 11) nd rfl (.inl rfl)) (pgs_cons (pg_name (i := 12) nd rfl (.inl rfl)) pgs_nil)))) (fun _ _ _ _ _ => pts_one (pt_cmpR op_eq (c__law_fewest.call hr rfl (pa_cons (pv 0) (pa_cons (pv 12) (pa_cons (pv 2) pa_nil))) pass0) (pe_op op_sub (pv 8) pe_int) (nomark _))) (fun _ _ _ _ _ => (pv 11))) po_none (po_some pe_int)))))
        pss_nil)
      (pss_one (ps_ret (pe_tup (pa_cons pe_str (pa_cons (pe_ifExp (pt_cmpR (k_ne0 (K := K) rfl (hu_of hr)) (pv 7) (pe_lst pa_nil) (nomark _)) (pe_join pe_str (pe_lc (own := [("_law_k", 13)]) (g := (gName 13)) rfl nd (pi_list (pv 7)) (blkOk_by (by kernel_rfl)) (fun _ _ _ _ _ => (pg_name (i := 13) nd rfl (.inl rfl))) (fun _ _ _ _ _ => pts_nil) (fun _ _ _ _ _ => (pe_callTy call_str_int (by rfl) T.f_str (by decide +kernel) (pa_cons (pv 13) pa_nil))))) pe_str) pa_nil)))))))))
      pss_nil)
    (pss_cons (ps_setLc (i := 9) (own := [("_law_k", 13)]) (g := (gName 13)) rfl nd rfl rfl (sw_true rfl rfl rfl (by decide +kernel)) (pi_list (pe_ifExp (pt_cmpR op_eq (pe_ix (k_ixl (K := K) rfl) (pv 4) pe_int (fun _ _ => rfl)) pe_str (nomark _)) (pv 5) (pv 6))) (blkOk_by (by kernel_rfl)) (fun _ _ _ _ _ => (pg_name (i := 13) nd rfl (.inl rfl))) (fun _ _ _ _ _ => pts_nil) (fun _ _ _ _ _ => (pe_callTy call_str_int (by rfl) T.f_str (by decide +kernel) (pa_cons (pv 13) pa_nil))))
    (pss_cons (ps_if (PW.pt (pw_or (pt_cmpR op_lt (pe_callB call_len_seq (by rfl) T.f_len (by decide +kernel) (pa_cons (pv 4) pa_nil)) pe_int (nomark _)) (pw_or (pt_cmpR (k_no (K := K) rfl) (pe_ix (k_ixl (K := K) rfl) (pv 4) pe_int (fun _ _ => rfl)) (pv 9) (by rfl)) (pw_or1 (pt_cmpR op_gt (pe_callB call_len_seq (by rfl) T.f_len (by decide +kernel) (pa_cons (pv 4) pa_nil)) pe_int (nomark _))))))
      (pss_one (ps_ret (pe_tup (pa_cons pe_str (pa_cons (pe_ifExp (PW.pt (pw_or (pt_cmpR op_lt (pe_callB call_len_seq (by rfl) T.f_len (by decide +kernel) (pa_cons (pv 4) pa_nil)) pe_int (nomark _)) (pw_or1 (pt_cmpR (k_no (K := K) rfl) (pe_ix (k_ixl (K := K) rfl) (pv 4) pe_int (fun _ _ => rfl)) (pv 9) (by rfl))))) pe_int pe_int) pa_nil)))))
      pss_nil)
    (pss_one (ps_ret (pe_tup (pa_cons pe_str (pa_cons (c__law_changed.call hr rfl (pa_cons (pv 1) (pa_cons (pe_callTy call_int_str (by rfl) T.f_int (by decide +kernel) (pa_cons (pe_ix (k_ixl (K := K) rfl) (pv 4) pe_int (fun _ _ => rfl)) pa_nil)) pa_nil)) pass0) pa_nil)))))))))), ?_⟩
  refine s_par3 (ea_cons (ev_is (ev_lc (Txt.split t " ") PyData.str (fun w => !decide (w = "")) PyData.str (ei_list (ev_split (ev_var rfl h4) ev_str (by decide +kernel) (by omega))) (by omega) (fun _ _ _ => rfl) fun x hx v H1 e1 av => item1 rfl (ev_test (ev_op (ev_var rfl av) ev_str ro_neS)) fun _ => ev_var rfl av) (d' := .list ((wordsF t).map PyData.str)) rfl) (ea_cons (ev_call (ea_cons (ev_var rfl h1) (ea_cons (ev_var rfl h2) ea_nil)) ⟨n, A, b, rfl, W, S1, rfl⟩) (ea_cons (ev_call (ea_cons (ev_var rfl h1) (ea_cons (ev_var rfl h2) ea_nil)) ⟨n, A, b, rfl, W, S1, rfl⟩) ea_nil))) fun v5 v6 v7 H1 e1 h5 h6 h7 => ?_
  generalize hws : wordsF t = ws at *
  cases ws with
  | nil =>
    refine s_if (b := true) (et_or (a := true) (b := false) (ev_test (ev_op (ev_var rfl h5) (ev_lst ea_nil) ro_eq0)) fun z => nomatch z) (fun _ H2 e2 => ?_) fun z => nomatch z
    exact s_ret (ev_tup (ea_cons ev_str (ea_cons ev_int ea_nil))) fun v H3 e3 av => q v H3 (e1.trans (e2.trans e3)) av
  | cons x r =>
    refine s_if (et_or (a := false) (ev_test (ev_op (ev_var rfl h5) (ev_lst ea_nil) ro_eq0)) fun _ => ev_test (ev_op (ev_op (ev_var rfl h5) ev_int ro_ixl0) (ev_is (ev_lst (ea_cons ev_str (ea_cons ev_str (ea_cons ev_str (ea_cons ev_str (ea_cons ev_str (ea_cons ev_str (ea_cons ev_str ea_nil)))))))) (d' := .list (allL.map PyData.str)) rfl) ro_noSL)) (fun hb H2 e2 => ?_) fun hb H2 e2 => ?_
    · have hx : x ∉ allL := by simpa using hb
      have eq0 : dueF n (ar A) b (has g) (x :: r) = .bad 1 := due_no _ hx
      rw [eq0] at q
      exact s_ret (ev_tup (ea_cons ev_str (ea_cons ev_int ea_nil))) fun v H3 e3 av => q v H3 (e1.trans (e2.trans e3)) av
    have hx : x ∈ allL := by simpa using hb
    have e12 := e1.trans e2
    have h5 := h5.mono e2
    refine s_if (ev_test (ev_op (ev_op (ev_var rfl h5) ev_int ro_ixl0) (ev_is (ev_lst (ea_cons ev_str (ea_cons ev_str (ea_cons ev_str (ea_cons ev_str (ea_cons ev_str ea_nil)))))) (d' := .list (qsL.map PyData.str)) rfl) ro_yesSL)) (fun hb H3 e3 => ?_) fun hb H3 e3 => ?_
    · have hq : x ∈ qsL := by simpa using hb
      have e13 := e12.trans e3
      have h5 := h5.mono e3
      refine s_if (ev_test (ev_op (ev_cb (ea_cons (ev_var rfl h5) ea_nil) rc_lenL) ev_int ro_cmp)) (fun hb H4 e4 => ?_) fun hb H4 e4 => ?_
      · have hr' : r ≠ [] := by
          intro z
          subst z
          simp at hb
        have eq0 : dueF n (ar A) b (has g) (x :: r) = .bad 2 := due_q2 hx hq hr'
        rw [eq0] at q
        exact s_ret (ev_tup (ea_cons ev_str (ea_cons ev_int ea_nil))) fun v H5 e5 av => q v H5 (e13.trans (e4.trans e5)) av
      have hr' : r = [] := by
        cases r with
        | nil => rfl
        | cons y r => simp at hb; omega
      subst hr'
      have eq0 : dueF n (ar A) b (has g) [x] = .told (tlF n (ar A) b (has g) x) := by rw [due_1, if_neg (fun z => z hx), if_pos hq]
      rw [eq0] at q
      have e14 := e13.trans e4
      have h5 := h5.mono e4
      refine s_if (ev_test (ev_op (ev_op (ev_var rfl h5) ev_int ro_ixl0) ev_str ro_eqS)) (fun hb H5 e5 => ?_) fun hb H5 e5 => ?_
      · have hx' : x = "left" := by simpa using hb
        have eq1 : tlF n (ar A) b (has g) x = sI (dist n (ar A) (has b) (has g)) := by unfold tlF; rw [if_pos hx']
        rw [eq1] at q
        have e15 := e14.trans e5
        have := dist_le n (ar A) (has b) (has g)
        exact s_ret (ev_tup (ea_cons ev_str (ea_cons (ev_cb (ea_cons (ev_call (ea_cons (ev_var rfl (h1.mono e15)) (ea_cons (ev_var rfl (h2.mono e15)) (ea_cons (ev_var rfl (h3.mono e15)) ea_nil))) ⟨n, A, b, g, rfl, W, S1, S2, rfl⟩) ea_nil) (rc_str (by omega) (by omega))) ea_nil))) fun v H6 e6 av => q v H6 (e15.trans e6) av
      have hxl : ¬ x = "left" := by simpa using hb
      have eq1 : tlF n (ar A) b (has g) x = lstS (tlL n (ar A) b (has g) x) := by unfold tlF; rw [if_neg hxl]
      rw [eq1] at q
      have e15 := e14.trans e5
      have h5 := h5.mono e5
      have e25 := e2.trans (e3.trans (e4.trans e5))
      have lS := S1.len
      refine s_set (K := K) (d := lI (preL n (ar A) b (has g) x)) (ev_if (ev_test (ev_op (ev_op (ev_var rfl h5) ev_int ro_ixl0) ev_str ro_eqS)) (fun hb => ?_) fun hb => ev_if (ev_test (ev_op (ev_op (ev_var rfl h5) ev_int ro_ixl0) ev_str ro_eqS)) (fun hb2 => ?_) fun hb2 => ?_) fun v8 H6 e6 h8 => ?_
      · refine ev_is (ev_cb (ea_cons (ev_var rfl (h2.mono e15)) ea_nil) rc_list) ?_
        unfold preL
        rw [if_pos (by simpa using hb)]
      · refine ev_is (ev_cb (ea_cons (ev_is (ev_op (ev_var rfl (h6.mono e25)) (ev_var rfl (h7.mono e25)) (ro_cat (by rw [List.length_map, List.length_map]; omega))) (d' := lI (sel n (lightP n (ar A) (has b)) ++ sel n (quenchP n (ar A) (has b)))) (by rw [lI, List.map_append])) ea_nil) (rc_srt (lq_nodup _ _ _) (by rw [List.length_append]; omega) (sel_asc _ _) fun k => mem_app)) ?_
        unfold preL
        rw [if_neg (by simpa using hb), if_pos (by simpa using hb2)]
        rfl
      · refine ev_is (ev_call (ea_cons (ev_var rfl (h1.mono e15)) (ea_cons (ev_var rfl (h2.mono e15)) (ea_cons (ev_var rfl (h3.mono e15)) ea_nil))) ⟨n, A, b, g, rfl, W, S1, S2, rfl⟩) ?_
        unfold preL
        rw [if_neg (by simpa using hb), if_neg (by simpa using hb2)]
      have e16 := e15.trans e6
      have h5 := h5.mono e6
      obtain ⟨ok1, ok2⟩ := tlL_ok (a := ar A) (q := has g) S1 n5 x
      dsimp only
      refine s_cut (fun σ' H' => ∃ v8 y9, σ' = [some v1, some v2, some v3, some v4, some v5, some v6, some v7, some v8, y9, none, none, none, none, none] ∧ Same H H' ∧ At K H' v8 (lI (tlL n (ar A) b (has g) x))) (fun N hN => ?_) ?_
      · refine s_if (ev_test (ev_op (ev_op (ev_var rfl h5) ev_int ro_ixl0) ev_str ro_eqS)) (fun hb H7 e7 => ?_) fun hb H7 e7 => ?_
        · have e17 := e16.trans e7
          refine s_set (ev_call (ea_cons (ev_var rfl (h1.mono e17)) (ea_cons (ev_var rfl (h2.mono e17)) (ea_cons (ev_var rfl (h3.mono e17)) ea_nil))) ⟨n, A, b, g, rfl, W, S1, S2, rfl⟩) fun v9 H8 e8 h9 => ?_
          have e18 := e17.trans e8
          refine s_set (ev_first (ds := (sel n (nxt n (ar A) (has b) (has g))).map PyData.int) (ev_is (ev_lc (sel n (doab n (ar A) (has b))) (fun k => .tuple [.int k, tI (sel n (chg (has b) k))]) (fun k => ((dist n (ar A) (has (sel n (chg (has b) k))) (has g) : Nat) : Int) == ((dist n (ar A) (has b) (has g) : Nat) : Int) - 1) PyData.int (ei_list (ev_call (ea_cons (ev_var rfl (h1.mono e18)) (ea_cons (ev_var rfl (h2.mono e18)) ea_nil)) ⟨n, A, b, rfl, W, S1, rfl⟩)) (by omega) (fun _ _ _ => rfl) fun k hk v H9 e9 av => item2 av fun u1 u2 a1 a2 => ⟨rfl, ev_test (ev_op (ev_call (ea_cons (ev_var rfl (h1.mono (e18.trans e9))) (ea_cons (ev_var rfl a2) (ea_cons (ev_var rfl (h3.mono (e18.trans e9))) ea_nil))) ⟨n, A, sel n (chg (has b) k), g, rfl, W, St.sel _ _, S2, rfl⟩) (ev_op (ev_var rfl (h9.mono e9)) ev_int ro_int) ro_eqI), fun _ => ev_var rfl a1⟩) (by rw [next_list W S1]))) fun v8' H9 e9 h8' => ?_
          refine hN _ _ ⟨v8', _, rfl, e18.trans e9, ?_⟩
          unfold tlL
          rw [if_pos (by simpa using hb), lI, List.map_take]
          exact h8'
        · refine hN _ _ ⟨v8, none, rfl, e16.trans e7, ?_⟩
          unfold tlL
          rw [if_neg (by simpa using hb)]
          exact h8.mono e7
      · rintro σ' H7 ⟨v8, y9, rfl, e7, h8⟩
        refine s_ret (ev_tup (ea_cons ev_str (ea_cons (ev_if (d := .str (lstS (tlL n (ar A) b (has g) x))) (ev_test (ev_op (ev_var rfl h8) (ev_lst ea_nil) ro_ne0)) (fun hb => ev_is (ev_join ev_str (ev_is (ev_lc (tlL n (ar A) b (has g) x) PyData.int (fun _ => true) (fun k => .str (sI k)) (ei_list (ev_var rfl h8)) (by omega) (fun _ _ _ => rfl) fun k hkm v H2 e2 av => item1 rfl et_yes fun _ => ev_cb (ea_cons (ev_var rfl av) ea_nil) (rc_str (ok1 k hkm).1 (by have := (ok1 k hkm).2; omega))) (d' := .list (((tlL n (ar A) b (has g) x).map sI).map PyData.str)) (by rw [filter_yes, List.map_map]; rfl)) (join_ok ok1 (by omega))) (by rw [lstS_ne hb])) fun hb => ev_is ev_str (by rw [lstS_nil hb])) ea_nil))) ?_
        exact fun v H8 e8 av => q v H8 (e7.trans e8) av
    · have hq : x ∉ qsL := by simpa using hb
      have e13 := e12.trans e3
      have h5 := h5.mono e3
      obtain ⟨k1, k2⟩ := nsF_ok (n := n) (a := ar A) (b := b) x
      refine s_set (K := K) (d := .list (((nsF n (ar A) b x).map sI).map PyData.str)) (ev_is (ev_lc (nsF n (ar A) b x) PyData.int (fun _ => true) (fun k => .str (sI k)) (ei_list (ev_if (ev_test (ev_op (ev_op (ev_var rfl h5) ev_int ro_ixl0) ev_str ro_eqS)) (fun hb => ev_is (ev_var rfl (h6.mono (e2.trans e3))) ?_) fun hb => ev_is (ev_var rfl (h7.mono (e2.trans e3))) ?_)) (by omega) (fun _ _ _ => rfl) fun k hkm v H2 e2 av => item1 rfl et_yes fun _ => ev_cb (ea_cons (ev_var rfl av) ea_nil) (rc_str (k1 k hkm).1 (by have := (k1 k hkm).2; omega))) (by rw [filter_yes, List.map_map]; rfl)) fun v8 H4 e4 h8 => ?_
      · unfold nsF
        rw [if_pos (by simpa using hb)]
      · unfold nsF
        rw [if_neg (by simpa using hb)]
      have e14 := e13.trans e4
      have h5 := h5.mono e4
      cases r with
      | nil =>
        have eq0 : dueF n (ar A) b (has g) [x] = .bad 2 := by rw [due_1, if_neg (fun z => z hx), if_neg hq]
        rw [eq0] at q
        refine s_if (b := true) (et_or (a := true) (b := false) (ev_test (ev_op (ev_cb (ea_cons (ev_var rfl h5) ea_nil) rc_lenL) ev_int ro_cmp)) fun z => nomatch z) (fun _ H5 e5 => ?_) fun z => nomatch z
        exact s_ret (ev_tup (ea_cons ev_str (ea_cons (ev_if (et_or (a := true) (b := false) (ev_test (ev_op (ev_cb (ea_cons (ev_var rfl (h5.mono e5)) ea_nil) rc_lenL) ev_int ro_cmp)) fun z => nomatch z) (fun _ => ev_int) fun z => nomatch z) ea_nil))) fun v H6 e6 av => q v H6 (e14.trans (e5.trans e6)) av
      | cons v r2 =>
        have t1 : ∀ H5, Same H4 H5 → EvT (tTest (tOp (rI0 fun i j => V.bl (decide (i < j))) (tCB (fun xs H Q => ∃ p ys, xs = [.ref p] ∧ (SqL K H p ys ∨ SqT K H p ys) ∧ Q (.int ys.length) H) (tCons (tVar 4) tNil)) (tC (.int 2)))) [some v1, some v2, some v3, some v4, some v5, some v6, some v7, none, none, some v8, none, none, none, none] H5 false := fun H5 e5 => et_is (ev_test (ev_op (ev_cb (ea_cons (ev_var rfl (h5.mono e5)) ea_nil) rc_lenL) ev_int ro_cmp)) (by simp; omega)
        have t2 : ∀ H5, Same H4 H5 → EvT (tTest (tOp (rIn K true) (tOp (rIxL K) (tVar 4) (tC (.int 1))) (tVar 9))) [some v1, some v2, some v3, some v4, some v5, some v6, some v7, none, none, some v8, none, none, none, none] H5 (!decide (v ∈ (nsF n (ar A) b x).map sI)) := fun H5 e5 => ev_test (ev_op (ev_op (ev_var rfl (h5.mono e5)) ev_int ro_ixl1) (ev_var rfl (h8.mono e5)) ro_noSL)
        refine s_if (et_or (t1 H4 (Same.refl _)) fun _ => et_or (t2 H4 (Same.refl _)) fun _ => ev_test (ev_op (ev_cb (ea_cons (ev_var rfl h5) ea_nil) rc_lenL) ev_int ro_cmp)) (fun hb H5 e5 => ?_) fun hb H5 e5 => ?_
        · by_cases hv : v ∈ (nsF n (ar A) b x).map sI
          · have hr2 : r2 ≠ [] := by
              intro z
              subst z
              simp [hv] at hb
            have eq0 : dueF n (ar A) b (has g) (x :: v :: r2) = .bad 3 := by rw [due_2, if_neg (fun z => z hx), if_neg hq, if_neg (fun z => z hv), if_pos hr2]
            rw [eq0] at q
            have t3 : EvT _ _ H5 false := et_is (et_or (t1 H5 e5) fun _ => t2 H5 e5) (by rw [decide_eq_true hv]; rfl)
            exact s_ret (ev_tup (ea_cons ev_str (ea_cons (ev_if t3 (fun z => nomatch z) fun _ => ev_int) ea_nil))) fun v H6 e6 av => q v H6 (e14.trans (e5.trans e6)) av
          · have eq0 : dueF n (ar A) b (has g) (x :: v :: r2) = .bad 2 := by rw [due_2, if_neg (fun z => z hx), if_neg hq, if_pos hv]
            rw [eq0] at q
            have t3 : EvT _ _ H5 true := et_is (et_or (t1 H5 e5) fun _ => t2 H5 e5) (by rw [decide_eq_false hv]; rfl)
            exact s_ret (ev_tup (ea_cons ev_str (ea_cons (ev_if t3 (fun _ => ev_int) fun z => nomatch z) ea_nil))) fun v H6 e6 av => q v H6 (e14.trans (e5.trans e6)) av
        · have hb' : v ∈ (nsF n (ar A) b x).map sI ∧ r2 = [] := by
            rw [Bool.false_or, Bool.or_eq_false_iff] at hb
            refine ⟨by simpa using hb.1, ?_⟩
            cases r2 with
            | nil => rfl
            | cons y r2 => have := hb.2; simp at this; omega
          obtain ⟨hv, rfl⟩ := hb'
          have eq0 : dueF n (ar A) b (has g) [x, v] = .step (sel n (chg (has b) (kOf (nsF n (ar A) b x) v))) := by rw [due_2, if_neg (fun z => z hx), if_neg hq, if_neg (fun z => z hv), if_neg (by simp)]
          rw [eq0] at q
          obtain ⟨m1, m2⟩ := kOf_spec hv
          have m3 := k1 _ m1
          have e15 := e14.trans e5
          have m4 : PySem.intText? v = some (kOf (nsF n (ar A) b x) v) := by
            have := sI_int m3.1 (by omega)
            rw [m2] at this
            exact this
          have m5 : v.length ≤ 640 := by
            have := sI_len m3.1 (by omega)
            rw [m2] at this
            omega
          exact s_ret (ev_tup (ea_cons ev_str (ea_cons (ev_call (ea_cons (ev_var rfl (h2.mono e15)) (ea_cons (ev_cb (ea_cons (ev_op (ev_var rfl (h5.mono e5)) ev_int ro_ixl1) ea_nil) (rc_intS (n := kOf (nsF n (ar A) b x) v) m4 m5)) ea_nil)) ⟨n, b, _, rfl, by omega, S1, m3.1, m3.2, rfl⟩) ea_nil))) fun v H6 e6 av => q v H6 (e15.trans e6) av
end
end Hd
set_option Elab.async false
set_option linter.all false
set_option maxRecDepth 100000
set_option maxHeartbeats 4000000
/-! Handons: _law_alike. -/
namespace Hd
open PySem PySem.Spec PyProof.Rows L2
theorem k_nt : kitB "NoneType" "tuple" = some false := by decide +kernel
theorem k_nl : kitB "NoneType" "list" = some false := by decide +kernel
theorem k_ns : kitB "NoneType" "str" = some false := by decide +kernel
theorem k_st : kitB "str" "tuple" = some false := by decide +kernel
theorem k_sl : kitB "str" "list" = some false := by decide +kernel
theorem k_ss : kitB "str" "str" = some true := by decide +kernel
theorem k_it : kitB "int" "tuple" = some false := by decide +kernel
theorem k_il : kitB "int" "list" = some false := by decide +kernel
theorem k_is' : kitB "int" "str" = some false := by decide +kernel
theorem k_tl : kitB "tuple" "list" = some false := by decide +kernel
section
variable {K : PySem.W.Frag} {σ : L2.St} {H : Hp} {te : TE}
def rIsN : R2 := fun x y H Q => y = .non ∧ Q (.bl (decide (x = .non))) H
theorem ro_isN1 : RO K rIsN .none .none (.bool true) := fun H x y hx hy Q q => by
  rw [at_non hx, at_non hy]
  exact ⟨rfl, q _ H (Same.refl H) (.bl _)⟩
theorem ro_isN2 {s : PySem.Str} : RO K rIsN (.str s) .none (.bool false) := fun H x y hx hy Q q => by
  rw [at_str hx, at_non hy]
  exact ⟨rfl, q _ H (Same.refl H) (.bl _)⟩
theorem ro_isN3 {i : Int} : RO K rIsN (.int i) .none (.bool false) := fun H x y hx hy Q q => by
  rw [at_int hx, at_non hy]
  exact ⟨rfl, q _ H (Same.refl H) (.bl _)⟩
theorem ro_eqN : RO K rEq .none .none (.bool true) := fun H x y hx hy Q q => by
  rw [at_non hx, at_non hy]
  exact ⟨rfl, q _ H (Same.refl H) (.bl _)⟩
end
section
variable {P : Program} {w : World} {K : PySem.W.Frag} {mg : PySem.Str → Option Value} {base : Heap} {f : Addr} {fd : FuncData}
def flatD : PyData → Bool
  | .none => true | .str _ => true | .int _ => true | _ => false
def R_al0 : List PyData → PyData → Prop := fun ds z => ∃ d, ds = [d, d] ∧ flatD d = true ∧ z = .bool true
theorem sc__law_alike : FnScope ["_law_found", "_law_due", "_law_k"] ["_law_found", "_law_due"] (defScope (top 47)) := ⟨rfl, rfl, rfl, by decide +kernel, rfl, by decide +kernel, by decide +kernel⟩
theorem ok_alike0 (F : FnP K "_law_alike" (top 47) f fd) (T : Fre mg) : FnOk P w K mg base CX0 1 f fd ["_law_found", "_law_due"] (spG K R_al0) := by
  have nd := sc__law_alike.nd
  refine okG F sc__law_alike (fun ds z ⟨d, e, _⟩ => by rw [e]; rfl) fun cdv A0 outer s H vs Q E hr ds z hR hv q => ?_
  obtain ⟨d, rfl, hd, rfl⟩ := hR
  obtain ⟨v1, v2, rfl, h1, h2⟩ := ats2 hv
  refine ⟨_, (pss_cons (ps_if (pt_val (pe_callB call_isiT (by rfl) T.f_isinstance (by decide +kernel) (pa_cons (pv 1) (pa_cons (pe_tup (pa_cons (T.n_tuple) (pa_cons (T.n_list) pa_nil))) pa_nil))))
      pss_never
      pss_nil)
    (pss_cons (ps_if (PW.pt (pw_or (pt_cmpR op_isN (pv 1) pe_non (nomark _)) (pw_or1 (pt_val (pe_callB call_isi (by rfl) T.f_isinstance (by decide +kernel) (pa_cons (pv 1) (pa_cons (T.n_str) pa_nil)))))))
      (pss_one (ps_ret (pe_and (pe_cmpR op_eq (pv 0) (pv 1) (nomark _)) (pe_one (pe_cmpR op_eq (pe_callB call_isi (by rfl) T.f_isinstance (by decide +kernel) (pa_cons (pv 0) (pa_cons (T.n_str) pa_nil))) (pe_callB call_isi (by rfl) T.f_isinstance (by decide +kernel) (pa_cons (pv 1) (pa_cons (T.n_str) pa_nil))) (nomark _))))))
      pss_nil)
    (pss_one (ps_ret (pe_and (pe_callB call_isi (by rfl) T.f_isinstance (by decide +kernel) (pa_cons (pv 0) (pa_cons (T.n_int) pa_nil))) (pe_and (pe_cmpR op_eq (pe_callB call_isi (by rfl) T.f_isinstance (by decide +kernel) (pa_cons (pv 0) (pa_cons (T.n_bool) pa_nil))) (pe_callB call_isi (by rfl) T.f_isinstance (by decide +kernel) (pa_cons (pv 1) (pa_cons (T.n_bool) pa_nil))) (nomark _)) (pe_one (pe_cmpR op_eq (pv 0) (pv 1) (nomark _))))))))), ?_⟩
  cases d with
  | none =>
    refine s_if (ev_B (ev_isi2 (ev_var rfl h2) k_nt k_nl)) (fun e => nomatch e) fun _ H1 e1 => ?_
    refine s_if (b := true) (et_or (a := true) (b := false) (ev_test (ev_op (ev_var rfl (h2.mono e1)) ev_non ro_isN1)) fun e => nomatch e) (fun _ H2 e2 => ?_) fun e => nomatch e
    have e12 := e1.trans e2
    exact s_ret (ev_andV (ev_op (ev_var rfl (h1.mono e12)) (ev_var rfl (h2.mono e12)) ro_eqN) fun _ => ev_op (ev_isi (ev_var rfl (h1.mono e12)) k_ns) (ev_isi (ev_var rfl (h2.mono e12)) k_ns) ro_eqB) fun v H3 e3 av => q v H3 (e12.trans e3) av
  | str x =>
    refine s_if (ev_B (ev_isi2 (ev_var rfl h2) k_st k_sl)) (fun e => nomatch e) fun _ H1 e1 => ?_
    refine s_if (b := true) (et_or (a := false) (b := true) (ev_test (ev_op (ev_var rfl (h2.mono e1)) ev_non ro_isN2)) fun e => ev_B (ev_isi (ev_var rfl (h2.mono e1)) k_ss)) (fun _ H2 e2 => ?_) fun e => nomatch e
    have e12 := e1.trans e2
    exact s_ret (ev_is (ev_andV (ev_op (ev_var rfl (h1.mono e12)) (ev_var rfl (h2.mono e12)) ro_eqS) fun _ => ev_op (ev_isi (ev_var rfl (h1.mono e12)) k_ss) (ev_isi (ev_var rfl (h2.mono e12)) k_ss) ro_eqB) (by simp)) fun v H3 e3 av => q v H3 (e12.trans e3) av
  | int i =>
    refine s_if (ev_B (ev_isi2 (ev_var rfl h2) k_it k_il)) (fun e => nomatch e) fun _ H1 e1 => ?_
    refine s_if (b := false) (et_or (a := false) (b := false) (ev_test (ev_op (ev_var rfl (h2.mono e1)) ev_non ro_isN3)) fun e => ev_B (ev_isi (ev_var rfl (h2.mono e1)) k_is')) (fun e => nomatch e) fun _ H2 e2 => ?_
    have e12 := e1.trans e2
    exact s_ret (ev_is (ev_andV (ev_isi (ev_var rfl (h1.mono e12)) k_ii) fun _ => ev_andV (ev_op (ev_isi (ev_var rfl (h1.mono e12)) k_ib) (ev_isi (ev_var rfl (h2.mono e12)) k_ib) ro_eqB) fun _ => ev_op (ev_var rfl (h1.mono e12)) (ev_var rfl (h2.mono e12)) ro_eqI) (by simp)) fun v H3 e3 av => q v H3 (e12.trans e3) av
  | bool b => cases hd
  | list l => cases hd
  | tuple l => cases hd
  | dict l => cases hd
def R_al1 : List PyData → PyData → Prop := fun ds z => ∃ l : List PyData, ds = [.tuple l, .tuple l] ∧ (∀ d ∈ l, flatD d = true) ∧ l.length ≤ 1000 ∧ z = .bool true
theorem ok_alike1 (F : FnP K "_law_alike" (top 47) f fd) (T : Fre mg) (c__law_alike : Cal P w K mg base 1 "_law_alike" ["_law_found", "_law_due"] (spG K R_al0)) : FnOk P w K mg base CX0 2 f fd ["_law_found", "_law_due"] (spG K R_al1) := by
  have nd := sc__law_alike.nd
  refine okG F sc__law_alike (fun ds z ⟨l, e, _⟩ => by rw [e]; rfl) fun cdv A0 outer s H vs Q E hr ds z hR hv q => ?_
  obtain ⟨l, rfl, hf, hl, rfl⟩ := hR
  obtain ⟨v1, v2, rfl, h1, h2⟩ := ats2 hv
  refine ⟨_, (pss_cons (ps_if (pt_val (pe_callB call_isiT (by rfl) T.f_isinstance (by decide +kernel) (pa_cons (pv 1) (pa_cons (pe_tup (pa_cons (T.n_tuple) (pa_cons (T.n_list) pa_nil))) pa_nil))))
      (pss_cons (ps_if (PW.pt (pw_or (pt_not (pt_val (pe_callB call_isiT (by rfl) T.f_isinstance (by decide +kernel) (pa_cons (pv 0) (pa_cons (pe_tup (pa_cons (T.n_tuple) (pa_cons (T.n_list) pa_nil))) pa_nil))))) (pw_or1 (pt_cmpR op_ne (pe_callB call_isi (by rfl) T.f_isinstance (by decide +kernel) (pa_cons (pv 0) (pa_cons (T.n_list) pa_nil))) (pe_callB call_isi (by rfl) T.f_isinstance (by decide +kernel) (pa_cons (pv 1) (pa_cons (T.n_list) pa_nil))) (nomark _)))))
        (pss_one (ps_ret pe_bl))
        pss_nil)
      (pss_cons (ps_if (pt_cmpR op_ne (pe_callB call_len_seq (by rfl) T.f_len (by decide +kernel) (pa_cons (pv 0) pa_nil)) (pe_callB call_len_seq (by rfl) T.f_len (by decide +kernel) (pa_cons (pv 1) pa_nil)) (nomark _))
        (pss_one (ps_ret pe_bl))
        pss_nil)
      (pss_one (ps_ret (pe_cmpR (k_eq0 (K := K) rfl (hu_of hr)) (pe_lc (own := [("_law_k", 2)]) (g := (gName 2)) rfl nd (pi_range1 (by rfl) T.f_range (pa_cons (pe_callB call_len_seq (by rfl) T.f_len (by decide +kernel) (pa_cons (pv 1) pa_nil)) pa_nil)) (blkOk_by (by kernel_rfl)) (fun _ _ _ _ _ => (pg_name (i := 2) nd rfl (.inl rfl))) (fun _ _ _ _ _ => pts_one (pt_not (pt_val (c__law_alike.call hr rfl (pa_cons (pe_ix (k_ixt (K := K) rfl) (pv 0) (pv 2) (fun _ _ => rfl)) (pa_cons (pe_ix (k_ixt (K := K) rfl) (pv 1) (pv 2) (fun _ _ => rfl)) pa_nil)) pass0)))) (fun _ _ _ _ _ => (pv 2))) (pe_lst pa_nil) (nomark _))))))
      pss_nil)
    (pss_cons (ps_if (PW.pt (pw_or (pt_cmpR op_isN (pv 1) pe_non (nomark _)) (pw_or1 (pt_val (pe_callB call_isi (by rfl) T.f_isinstance (by decide +kernel) (pa_cons (pv 1) (pa_cons (T.n_str) pa_nil)))))))
      (pss_one (ps_ret (pe_and (pe_cmpR (k_eqD (K := K) rfl hr.units) (pv 0) (pv 1) (nomark _)) (pe_one (pe_cmpR op_eq (pe_callB call_isi (by rfl) T.f_isinstance (by decide +kernel) (pa_cons (pv 0) (pa_cons (T.n_str) pa_nil))) (pe_callB call_isi (by rfl) T.f_isinstance (by decide +kernel) (pa_cons (pv 1) (pa_cons (T.n_str) pa_nil))) (nomark _))))))
      pss_nil)
    (pss_one (ps_ret (pe_and (pe_callB call_isi (by rfl) T.f_isinstance (by decide +kernel) (pa_cons (pv 0) (pa_cons (T.n_int) pa_nil))) (pe_and (pe_cmpR op_eq (pe_callB call_isi (by rfl) T.f_isinstance (by decide +kernel) (pa_cons (pv 0) (pa_cons (T.n_bool) pa_nil))) (pe_callB call_isi (by rfl) T.f_isinstance (by decide +kernel) (pa_cons (pv 1) (pa_cons (T.n_bool) pa_nil))) (nomark _)) (pe_one (pe_cmpR (k_eqD (K := K) rfl hr.units) (pv 0) (pv 1) (nomark _))))))))), ?_⟩
  refine s_if (ev_B (ev_isi2 (ev_var rfl h2) k_tt k_tl)) (fun _ H1 e1 => ?_) fun e => nomatch e
  refine s_if (b := false) (et_is (et_or (et_not (ev_B (ev_isi2 (ev_var rfl (h1.mono e1)) k_tt k_tl))) fun _ => ev_test (ev_op (ev_isi (ev_var rfl (h1.mono e1)) k_tl) (ev_isi (ev_var rfl (h2.mono e1)) k_tl) ro_neB)) rfl) (fun e => nomatch e) fun _ H2 e2 => ?_
  have e12 := e1.trans e2
  refine s_if (b := false) (et_is (ev_test (ev_op (ev_cb (ea_cons (ev_var rfl (h1.mono e12)) ea_nil) rc_lenT) (ev_cb (ea_cons (ev_var rfl (h2.mono e12)) ea_nil) rc_lenT) ro_neI)) (by simp)) (fun e => nomatch e) fun _ H3 e3 => ?_
  have e13 := e12.trans e3
  have key : ∀ k ∈ rng l.length, ∃ j : Nat, k = (j : Int) ∧ ∃ h : j < l.length, l[j]? = some l[j] ∧ flatD l[j] = true := fun k hk => by
    have := mem_rng.mp hk
    have hj : k.toNat < l.length := by omega
    exact ⟨k.toNat, by omega, hj, List.getElem?_eq_getElem hj, hf _ (List.getElem_mem hj)⟩
  have body : ∀ k ∈ rng l.length, ∀ (v : V) (H4 : Hp), Same H3 H4 → At K H4 v (.int k) → Item K (gName 2) (tNot (tB (tCall (spG K R_al0) [] E0 (tCons (tOp (rIxT K) (tVar 0) (tVar 2)) (tCons (tOp (rIxT K) (tVar 1) (tVar 2)) tNil))))) (tVar 2) [2] [some v1, some v2, none] H4 v false (.int k) := fun k hk v H4 e4 av => by
    obtain ⟨j, ej, hj, eg, fl⟩ := key k hk
    refine item1 rfl (et_is (et_not (ev_B (ev_call (ea_cons (ev_op (ev_var rfl (h1.mono (e13.trans e4))) (ev_var rfl av) (ro_ixT ej eg)) (ea_cons (ev_op (ev_var rfl (h2.mono (e13.trans e4))) (ev_var rfl av) (ro_ixT ej eg)) ea_nil)) ⟨l[j], rfl, fl, rfl⟩))) rfl) fun e => nomatch e
  refine s_ret (ev_is (d' := .bool true) (ev_op (ev_lc (rng l.length) PyData.int (fun _ => false) PyData.int (ei_rng (ea_cons (ev_cb (ea_cons (ev_var rfl (h2.mono e13)) ea_nil) rc_lenT) ea_nil) rfl (by omega)) (by rw [rng_len]; omega) (fun _ _ _ => rfl) body) (ev_lst ea_nil) ro_eq0) ?_) ?_
  · have e : (rng l.length).filter (fun _ => false) = [] := List.filter_eq_nil_iff.mpr fun _ _ z => by cases z
    rw [e]
    rfl
  · exact fun v H4 e4 av => q v H4 (e13.trans e4) av
end
end Hd
set_option Elab.async false
set_option linter.all false
set_option maxRecDepth 100000
set_option maxHeartbeats 4000000
/-! Handons: the row of numbers that the law draws from. -/
namespace Hd
open PySem PySem.Spec PyProof.Rows L2
/-- all but what stands at r is as it was -/
def ButR (r : Addr) (H H' : Hp) : Prop := ∀ b o, b ≠ r → H b = some o → H' b = some o
theorem ButR.refl {r : Addr} (H : Hp) : ButR r H H := fun _ _ _ h => h
theorem ButR.trans {r : Addr} {H H1 H2 : Hp} (a : ButR r H H1) (b : ButR r H1 H2) : ButR r H H2 := fun c o n h => b c o n (a c o n h)
theorem sb {r : Addr} {H H' : Hp} (e : Same H H') : ButR r H H' := fun b o _ h => e b o h
theorem ButR.upd {r : Addr} {H : Hp} {o : HO} : ButR r H (L2.upd H r o) := fun b u n h => by rw [upd_ne n]; exact h
theorem ButR.tups {r : Addr} {H H' : Hp} {xs : List V} (e : ButR r H H') (h : H r = some (.lst xs)) : Tups H H' :=
  ⟨fun a ys z => e a _ (fun q => by rw [q, h] at z; cases z) z, fun a o u z => e a _ (fun q => by rw [q, h] at z; cases z) z⟩
section
variable {K : PySem.W.Frag}
/-- what stands at a is no matter of the heap, or not at r -/
def Stay (K : PySem.W.Frag) (a r : Addr) (xs : List V) : Prop := (∀ H, SqL K H a xs) ∨ a ≠ r
theorem ButR.seq {r a : Addr} {H H' : Hp} {xs : List V} (e : ButR r H H') (n : Stay K a r xs) (h : SqL K H a xs) : SqL K H' a xs := by
  rcases n with s | n
  · exact s H'
  rcases h with (h | ⟨o, h⟩) | h
  · exact .inl (.inl (e _ _ n h))
  · exact .inl (.inr ⟨o, e _ _ n h⟩)
  · exact .inr h
theorem At.butL {r a : Addr} {H H' : Hp} {ds : List PyData} {xs : List V} (e : ButR r H H') (hr : H r = some (.lst xs)) (n : a ≠ r) (im : ∀ d ∈ ds, imm d = true) (h : At K H (.ref a) (.list ds)) : At K H' (.ref a) (.list ds) := by
  cases h with
  | lst h q => exact .lst (e _ _ n h) (q.tups (e.tups hr) (imm_all im))
/-- the row: the script, the place, the seed, what is left of a great number -/
def RowAt (K : PySem.W.Frag) (H : Hp) (r sa : Addr) (ns : List Int) (i a c : Int) : Prop := H r = some (.lst [.ref sa, .int i, .int a, .int c]) ∧ SqL K H sa (ns.map V.int) ∧ Stay K sa r (ns.map V.int) ∧ 0 ≤ i ∧ (0 ≤ a ∧ a < 2147483647) ∧ 0 ≤ c
def RowOk (K : PySem.W.Frag) (H : Hp) (r sa : Addr) (ns : List Int) : Prop := ∃ i a c, RowAt K H r sa ns i a c
theorem RowAt.mono {H H' : Hp} {r sa : Addr} {ns : List Int} {i a c : Int} (e : Same H H') (h : RowAt K H r sa ns i a c) : RowAt K H' r sa ns i a c := ⟨e _ _ h.1, e.seq h.2.1, h.2.2⟩
theorem RowOk.mono {H H' : Hp} {r sa : Addr} {ns : List Int} (e : Same H H') (h : RowOk K H r sa ns) : RowOk K H' r sa ns := by
  obtain ⟨i, a, c, h⟩ := h
  exact ⟨i, a, c, h.mono e⟩
theorem RowOk.lst {H : Hp} {r sa : Addr} {ns : List Int} (h : RowOk K H r sa ns) : ∃ xs, H r = some (.lst xs) := by
  obtain ⟨i, a, c, h⟩ := h
  exact ⟨_, h.1⟩
theorem At.row {H H' : Hp} {r sa : Addr} {ns : List Int} {v : V} {d : PyData} (R : RowOk K H r sa ns) (e : ButR r H H') (im : imm d = true) (h : At K H v d) : At K H' v d := by
  obtain ⟨xs, hx⟩ := R.lst
  exact h.tups (e.tups hx) im
variable {σ : L2.St} {H : Hp} {te : TE} {D : Ends} {r sa : Addr} {ns : List Int} {i a c : Int}
theorem ev_row {j z : Int} {xs : List V} (hs : σ[0]? = some (some (.ref r))) (h : H r = some (.lst xs)) (hx : atI xs j = some (.int z)) : Ev K (tOp (rIxL K) (tVar 0) (tC (.int j))) σ H (.int z) := fun H1 e Q q =>
  ⟨_, hs, r, xs, j, _, rfl, rfl, SqL.of (e _ _ h), hx, q _ H1 (Same.refl _) (.int z)⟩
theorem s_rowset {j z : Int} {jn : Nat} {xs : List V} (h : Ev K te σ H (.int z)) (hs : σ[0]? = some (some (.ref r))) (hr : H r = some (.lst xs)) (hj : ixN xs.length j = some jn) (k : ∀ H1, Same H H1 → D.nx σ (L2.upd H1 r (.lst (xs.set jn (.int z))))) : tAsg te (gSub (tVar 0) (tC (.int j)) L2.rSetL) D σ H :=
  h H (Same.refl H) _ fun v H1 e av => by
    rw [at_int av]
    exact ⟨_, hs, r, xs, j, jn, rfl, rfl, e _ _ hr, hj, k H1 e⟩
end
/-- a number of 0 .. m - 1 is drawn -/
def spTaken (K : PySem.W.Frag) : Sp := fun vs H Q _ => ∃ r sa ns m, vs = [.ref r, .int m] ∧ RowOk K H r sa ns ∧ (1 ≤ m ∧ m ≤ 1000000) ∧ ∀ k H', ButR r H H' → RowOk K H' r sa ns → 0 ≤ k → k < m → Q (.int k) H'
/-- one of some things -/
def spPick (K : PySem.W.Frag) : Sp := fun vs H Q _ => ∃ r sa ns th ds, vs = [.ref r, .ref th] ∧ RowOk K H r sa ns ∧ At K H (.ref th) (.list ds) ∧ th ≠ r ∧ ds ≠ [] ∧ ds.length ≤ 1000 ∧ (∀ d ∈ ds, imm d = true) ∧ ∀ d v H', d ∈ ds → ButR r H H' → RowOk K H' r sa ns → At K H' v d → Q v H'
def spBurn (K : PySem.W.Frag) : Sp := fun vs H Q _ => ∃ r sa ns, ∃ n : Nat, vs = [.ref r, .int n] ∧ n ≤ 100 ∧ RowOk K H r sa ns ∧ ∀ b v H', St n b → ButR r H H' → RowOk K H' r sa ns → At K H' v (tI b) → Q v H'
def spWeb (K : PySem.W.Frag) : Sp := fun vs H Q _ => ∃ r sa ns, vs = [.ref r, .int 5] ∧ RowOk K H r sa ns ∧ ∀ n A v H', Wb n A → ButR r H H' → RowOk K H' r sa ns → At K H' v (webD n A) → Q v H'
section
variable {P : Program} {w : World} {K : PySem.W.Frag} {mg : PySem.Str → Option Value} {base : Heap} {f : Addr} {fd : FuncData}
theorem wide1 {m : Int} (h : 1 ≤ m) (h2 : m ≤ 1000000) : CDivW m m := ⟨by omega, by
  have : m.natAbs < 2 ^ 20 := by omega
  exact Nat.lt_of_lt_of_le ((Nat.log2_lt (by omega)).mpr this) (by decide)⟩
theorem sc__law_taken : FnScope ["_law_row", "_law_many", "_law_found", "_law_cell"] ["_law_row", "_law_many"] (defScope (top 43)) := ⟨rfl, rfl, rfl, by decide +kernel, rfl, by decide +kernel, by decide +kernel⟩
theorem ok_law_taken (F : FnP K "_law_taken" (top 43) f fd) (T : Fre mg) : FnOk P w K mg base CX0 1 f fd ["_law_row", "_law_many"] (spTaken K) := by
  have nd := sc__law_taken.nd
  refine okS F sc__law_taken (fun vs H Q E ⟨r, sa, ns, m, e, _⟩ => by rw [e]; rfl) fun cdv A0 outer s H vs Q E hr h => ?_
  obtain ⟨r, sa, ns, m, rfl, ⟨i, a, c, R⟩, ⟨hm, hm2⟩, q⟩ := h
  obtain ⟨hR, hS, hne, i0, ⟨a0, a1⟩, c0⟩ := R
  refine ⟨_, (pss_cons (ps_if (pt_cmpR op_gt (pe_ix (k_ixl (K := K) rfl) (pv 0) pe_int (fun _ _ => rfl)) pe_int (nomark _))
      (pss_cons (ps_set (i := 2) nd rfl (.inl rfl) (pe_op op_mod (pe_callTy call_int1 (by rfl) T.f_int (by decide +kernel) (pa_cons (pe_ix (k_ixl (K := K) rfl) (pv 0) pe_int (fun _ _ => rfl)) pa_nil)) (pv 1)))
      (pss_cons (ps_asg (pe_op op_fdivW (pe_ix (k_ixl (K := K) rfl) (pv 0) pe_int (fun _ _ => rfl)) (pv 1)) (pg_sub (pv 0) pe_int set_list))
      (pss_one (ps_ret (pv 2)))))
      pss_nil)
    (pss_cons (ps_asg (pe_op op_add (pe_ix (k_ixl (K := K) rfl) (pv 0) pe_int (fun _ _ => rfl)) pe_int) (pg_sub (pv 0) pe_int set_list))
    (pss_cons (ps_if (pt_cmpR op_gt (pe_ix (k_ixl (K := K) rfl) (pv 0) pe_int (fun _ _ => rfl)) (pe_callB call_len_seq (by rfl) T.f_len (by decide +kernel) (pa_cons (pe_ix (k_ixl (K := K) rfl) (pv 0) pe_int (fun _ _ => rfl)) pa_nil)) (nomark _))
      (pss_cons (ps_asg (pe_op op_mod (pe_callTy call_int1 (by rfl) T.f_int (by decide +kernel) (pa_cons (pe_op op_add (pe_op op_mulW (pe_ix (k_ixl (K := K) rfl) (pv 0) pe_int (fun _ _ => rfl)) pe_int) pe_int) pa_nil)) pe_int) (pg_sub (pv 0) pe_int set_list))
      (pss_one (ps_ret (pe_op op_mod (pe_callTy call_int1 (by rfl) T.f_int (by decide +kernel) (pa_cons (pe_op op_fdivW (pe_ix (k_ixl (K := K) rfl) (pv 0) pe_int (fun _ _ => rfl)) pe_int) pa_nil)) (pv 1)))))
      pss_nil)
    (pss_cons (ps_set (i := 3) nd rfl (.inl rfl) (pe_ix (k_ixl (K := K) rfl) (pe_ix (k_ixl (K := K) rfl) (pv 0) pe_int (fun _ _ => rfl)) (pe_op op_sub (pe_ix (k_ixl (K := K) rfl) (pv 0) pe_int (fun _ _ => rfl)) pe_int) (fun _ _ => rfl)))
    (pss_cons (ps_asg (pe_op op_mod (pe_callTy call_int1 (by rfl) T.f_int (by decide +kernel) (pa_cons (pe_op op_add (pe_op op_add (pe_op op_mulW (pe_ix (k_ixl (K := K) rfl) (pv 0) pe_int (fun _ _ => rfl)) pe_int) (pv 3)) pe_int) pa_nil)) pe_int) (pg_sub (pv 0) pe_int set_list))
    (pss_cons (ps_if (pt_cmpR op_ge (pv 3) (pe_op op_pow pe_int pe_int) (nomark _))
      (pss_one (ps_asg (pe_op op_fdivW (pv 3) (pv 1)) (pg_sub (pv 0) pe_int set_list)))
      pss_nil)
    (pss_one (ps_ret (pe_op op_mod (pe_callTy call_int1 (by rfl) T.f_int (by decide +kernel) (pa_cons (pv 3) pa_nil)) (pv 1)))))))))), ?_⟩
  have hmul : ∀ {x : Int}, (0 ≤ x ∧ x < 2147483647) → CMulW x 48271 := fun {x} hx => wide_mul (a := 31) (b := 16) (by omega) (by decide) (by decide) (by decide) (by decide)
  have hmod : ∀ x : Int, 0 ≤ x % 2147483647 ∧ x % 2147483647 < 2147483647 := fun x => ⟨Int.emod_nonneg _ (by decide), Int.emod_lt_of_pos _ (by decide)⟩
  refine s_if (ev_test (ev_op (ev_row rfl hR rfl) ev_int ro_cmp)) (fun hb H1 e1 => ?_) fun hb H1 e1 => ?_
  · refine s_set (ev_op (ev_cb (ea_cons (ev_row rfl (e1 _ _ hR) rfl) ea_nil) rc_int) (ev_var rfl (.int m)) (ro_intC (by omega))) fun v2 H2 e2 h2 => ?_
    have e12 := e1.trans e2
    refine s_rowset (K := K) (ev_op (ev_row rfl (e12 _ _ hR) rfl) (ev_var rfl (.int m)) (ro_intC (g := fun i j => i / j) ⟨by omega, (wide1 hm hm2).2⟩)) rfl (e12 _ _ hR) rfl fun H3 e3 => ?_
    obtain rfl := at_int h2
    have e13 := e12.trans e3
    refine s_ret (ev_var (K := K) rfl (.int _)) fun v H4 e4 av => ?_
    obtain rfl := at_int av
    refine q _ H4 (((sb e13).trans ButR.upd).trans (sb e4)) ⟨i, a, c / m, e4 _ _ upd_same, ((ButR.upd (o := .lst _)).trans (sb e4)).seq hne (e13.seq hS), hne, i0, ⟨a0, a1⟩, Int.ediv_nonneg c0 (by omega)⟩ (Int.emod_nonneg _ (by omega)) (Int.emod_lt_of_pos _ (by omega))
  · refine s_rowset (K := K) (ev_op (ev_row rfl (e1 _ _ hR) rfl) ev_int ro_int) rfl (e1 _ _ hR) rfl fun H2 e2 => ?_
    have e12 := e1.trans e2
    have hR2 : (L2.upd H2 r (.lst [.ref sa, .int (i + 1), .int a, .int c])) r = some (.lst [.ref sa, .int (i + 1), .int a, .int c]) := upd_same
    have b2 : ButR r H (L2.upd H2 r (.lst [.ref sa, .int (i + 1), .int a, .int c])) := (sb e12).trans ButR.upd
    have hS2 : SqL K (L2.upd H2 r (.lst [.ref sa, .int (i + 1), .int a, .int c])) sa (ns.map V.int) := b2.seq hne hS
    dsimp only
    change tSeq _ _ _ _ (L2.upd H2 r (.lst [.ref sa, .int (i + 1), .int a, .int c]))
    generalize L2.upd H2 r (.lst [.ref sa, .int (i + 1), .int a, .int c]) = G2 at *
    have ev_len : ∀ H3, Same G2 H3 → Ev K (tCB (fun xs H Q => ∃ p ys, xs = [.ref p] ∧ (SqL K H p ys ∨ SqT K H p ys) ∧ Q (.int ys.length) H) (tCons (tOp (rIxL K) (tVar 0) (tC (.int 0))) tNil)) [some (.ref r), some (.int m), none, none] H3 (.int ns.length) := fun H3 e3 H4 e4 Q q =>
      ⟨_, rfl, r, _, 0, _, rfl, rfl, SqL.of (e4 _ _ (e3 _ _ hR2)), rfl, sa, _, rfl, .inl ((e3.trans e4).seq hS2), by rw [List.length_map]; exact q _ H4 (Same.refl _) (.int _)⟩
    refine s_if (ev_test (ev_op (ev_row rfl hR2 rfl) (ev_len G2 (Same.refl _)) ro_cmp)) (fun hb H3 e3 => ?_) fun hb H3 e3 => ?_
    · refine s_rowset (K := K) (ev_op (ev_cb (ea_cons (ev_op (ev_op (ev_row rfl (e3 _ _ hR2) rfl) ev_int (ro_intC (hmul ⟨a0, a1⟩))) ev_int ro_int) ea_nil) rc_int) ev_int (ro_intC (by decide))) rfl (e3 _ _ hR2) rfl fun H4 e4 => ?_
      have b4 : ButR r H (L2.upd H4 r (.lst [.ref sa, .int (i + 1), .int ((a * 48271 + 11) % 2147483647), .int c])) := (b2.trans (sb (e3.trans e4))).trans ButR.upd
      refine s_ret (ev_op (ev_cb (ea_cons (ev_op (ev_row rfl upd_same rfl) ev_int (ro_intC (g := fun i j => i / j) ⟨by decide, by decide⟩)) ea_nil) rc_int) (ev_var rfl (.int m)) (ro_intC (by omega))) fun v H5 e5 av => ?_
      obtain rfl := at_int av
      have b5 := b4.trans (sb e5)
      exact q _ H5 b5 ⟨i + 1, (a * 48271 + 11) % 2147483647, c, e5 _ _ upd_same, b5.seq hne hS, hne, by omega, hmod _, c0⟩ (Int.emod_nonneg _ (by omega)) (Int.emod_lt_of_pos _ (by omega))
    · have hi : i < ns.length := by
        have : ¬ ((ns.length : Int) < i + 1) := by simpa using hb
        omega
      obtain ⟨x, hx⟩ : ∃ x, ns[i.toNat]? = some x := ⟨ns[i.toNat]'(by omega), List.getElem?_eq_getElem (by omega)⟩
      have ev_cell : Ev K (tOp (rIxL K) (tOp (rIxL K) (tVar 0) (tC (.int 0))) (tOp (rI0 fun i j => V.int (i - j)) (tOp (rIxL K) (tVar 0) (tC (.int 1))) (tC (.int 1)))) [some (.ref r), some (.int m), none, none] H3 (.int x) := fun H4 e4 Q q => by
        refine ⟨_, rfl, r, _, 0, _, rfl, rfl, SqL.of (e4 _ _ (e3 _ _ hR2)), rfl, _, rfl, r, _, 1, _, rfl, rfl, SqL.of (e4 _ _ (e3 _ _ hR2)), rfl, _, _, rfl, rfl, sa, _, _, _, rfl, rfl, (e3.trans e4).seq hS2, ?_, q _ H4 (Same.refl _) (.int x)⟩
        have e : i + 1 - 1 = ((i.toNat : Nat) : Int) := by omega
        rw [e]
        exact atI_nat (by rw [List.getElem?_map, hx]; rfl)
      refine s_set ev_cell fun v3 H4 e4 h3 => ?_
      obtain rfl := at_int h3
      have e34 := e3.trans e4
      refine s_rowset (K := K) (ev_op (ev_cb (ea_cons (ev_op (ev_op (ev_op (ev_row rfl (e34 _ _ hR2) rfl) ev_int (ro_intC (hmul ⟨a0, a1⟩))) (ev_var rfl (.int x)) ro_int) ev_int ro_int) ea_nil) rc_int) ev_int (ro_intC (by decide))) rfl (e34 _ _ hR2) rfl fun H5 e5 => ?_
      have b5 : ButR r H (L2.upd H5 r (.lst [.ref sa, .int (i + 1), .int ((a * 48271 + x + 11) % 2147483647), .int c])) := (b2.trans (sb (e34.trans e5))).trans ButR.upd
      have hR5 : (L2.upd H5 r (.lst [.ref sa, .int (i + 1), .int ((a * 48271 + x + 11) % 2147483647), .int c])) r = some (.lst [.ref sa, .int (i + 1), .int ((a * 48271 + x + 11) % 2147483647), .int c]) := upd_same
      dsimp only
      change tSeq _ _ _ _ (L2.upd H5 r (.lst [.ref sa, .int (i + 1), .int ((a * 48271 + x + 11) % 2147483647), .int c]))
      generalize L2.upd H5 r (.lst [.ref sa, .int (i + 1), .int ((a * 48271 + x + 11) % 2147483647), .int c]) = G5 at *
      refine s_cut (fun σ' H' => σ' = [some (.ref r), some (.int m), none, some (.int x)] ∧ ButR r H H' ∧ RowOk K H' r sa ns) (fun N hN => ?_) ?_
      · refine s_if (ev_test (K := K) (ev_op (ev_var rfl (.int x)) (ev_op (z := .int (10 ^ 18)) ev_int ev_int ?_) ro_cmp)) (fun hb H6 e6 => ?_) fun hb H6 e6 => ?_
        · exact ro_intC (K := K) (g := fun i j => i ^ j.toNat) (a := 10) (b := 18) ⟨by decide, by decide, by decide⟩
        · have hx0 : (10 : Int) ^ 18 ≤ x := by simpa using hb
          have hx1 : 0 ≤ x := by
            have : (0 : Int) ≤ 10 ^ 18 := by decide
            omega
          refine s_rowset (K := K) (ev_op (ev_var rfl (.int x)) (ev_var rfl (.int m)) (ro_intC (g := fun i j => i / j) ⟨by omega, (wide1 hm hm2).2⟩)) rfl (e6 _ _ hR5) rfl fun H7 e7 => ?_
          have b7 : ButR r H (L2.upd H7 r (.lst [.ref sa, .int (i + 1), .int ((a * 48271 + x + 11) % 2147483647), .int (x / m)])) := (b5.trans (sb (e6.trans e7))).trans ButR.upd
          exact hN _ _ ⟨rfl, b7, _, _, _, upd_same, b7.seq hne hS, hne, by omega, hmod _, Int.ediv_nonneg hx1 (by omega)⟩
        · have b6 := b5.trans (sb e6)
          exact hN _ _ ⟨rfl, b6, _, _, _, e6 _ _ hR5, b6.seq hne hS, hne, by omega, hmod _, c0⟩
      · rintro σ' H6 ⟨rfl, b6, R6⟩
        refine s_ret (ev_op (ev_cb (ea_cons (ev_var rfl (.int x)) ea_nil) rc_int) (ev_var rfl (.int m)) (ro_intC (K := K) (by omega))) fun v H7 e7 av => ?_
        obtain rfl := at_int av
        exact q _ H7 (b6.trans (sb e7)) (R6.mono e7) (Int.emod_nonneg _ (by omega)) (Int.emod_lt_of_pos _ (by omega))
theorem sc__law_pick : FnScope ["_law_row", "_law_things"] ["_law_row", "_law_things"] (defScope (top 44)) := ⟨rfl, rfl, rfl, by decide +kernel, rfl, by decide +kernel, by decide +kernel⟩
theorem ok_law_pick (F : FnP K "_law_pick" (top 44) f fd) (T : Fre mg) (c__law_taken : Cal P w K mg base 1 "_law_taken" ["_law_row", "_law_many"] (spTaken K)) : FnOk P w K mg base CX0 2 f fd ["_law_row", "_law_things"] (spPick K) := by
  have nd := sc__law_pick.nd
  refine okS F sc__law_pick (fun vs H Q E ⟨r, sa, ns, th, ds, e, _⟩ => by rw [e]; rfl) fun cdv A0 outer s H vs Q E hr h => ?_
  obtain ⟨r, sa, ns, th, ds, rfl, R, aT, hne, hd, hl, him, q⟩ := h
  refine ⟨_, (pss_one (ps_ret (pe_ix (k_ixl (K := K) rfl) (pv 1) (c__law_taken.call hr rfl (pa_cons (pv 0) (pa_cons (pe_callB call_len_seq (by rfl) T.f_len (by decide +kernel) (pa_cons (pv 1) pa_nil)) pa_nil)) pass0) (fun _ _ => rfl)))), ?_⟩
  have h0 : 0 < ds.length := List.length_pos_iff.mpr hd
  cases aT with
  | lst hL hA =>
    rename_i xs
    refine ⟨_, rfl, _, rfl, _, rfl, th, _, rfl, .inl (SqL.of hL), r, sa, ns, _, rfl, R, ⟨by rw [hA.len]; omega, by rw [hA.len]; omega⟩, fun k H' b' R' k0 k1 => ?_⟩
    have hk : k.toNat < ds.length := by rw [hA.len] at k1; omega
    obtain ⟨v, hv, av⟩ := hA.get (List.getElem?_eq_getElem hk)
    refine ⟨th, xs, k, v, rfl, rfl, SqL.of (b' _ _ hne hL), ?_, q _ v H' (List.getElem_mem hk) b' R' (av.row R b' (him _ (List.getElem_mem hk)))⟩
    have e : k = ((k.toNat : Nat) : Int) := by omega
    rw [e]
    exact atI_nat hv
end
end Hd
set_option Elab.async false
set_option linter.all false
set_option maxRecDepth 100000
set_option maxHeartbeats 4000000
/-! Handons: webs and standings that the law draws. -/
namespace Hd
open PySem PySem.Spec PyProof.Rows L2
/-- the row without what is said of the script -/
def RowC (H : Hp) (r sa : Addr) : Prop := ∃ i a c, H r = some (.lst [.ref sa, .int i, .int a, .int c]) ∧ 0 ≤ i ∧ (0 ≤ a ∧ a < 2147483647) ∧ 0 ≤ c
section
variable {K : PySem.W.Frag} {H H2 : Hp} {r sa : Addr} {ns : List Int}
theorem RowOk.c (h : RowOk K H r sa ns) : RowC H r sa := by
  obtain ⟨i, a, c, h1, h2, h3, h4, h5, h6⟩ := h
  exact ⟨i, a, c, h1, h4, h5, h6⟩
theorem RowOk.mk (h : RowOk K H r sa ns) (b : ButR r H H2) (c : RowC H2 r sa) : RowOk K H2 r sa ns := by
  obtain ⟨_, _, _, _, h2, h3, _⟩ := h
  obtain ⟨i, a, c, g1, g2, g3, g4⟩ := c
  exact ⟨i, a, c, g1, b.seq h3 h2, h3, g2, g3, g4⟩
theorem RowC.upd {D : Addr} {o : HO} (h : RowC H r sa) (n : r ≠ D) : RowC (L2.upd H D o) r sa := by
  obtain ⟨i, a, c, h⟩ := h
  exact ⟨i, a, c, by rw [upd_ne n]; exact h.1, h.2⟩
theorem RowC.mono (e : Same H H2) (h : RowC H r sa) : RowC H2 r sa := by
  obtain ⟨i, a, c, h⟩ := h
  exact ⟨i, a, c, e _ _ h.1, h.2⟩
theorem RowC.lst (h : RowC H r sa) : ∃ xs, H r = some (.lst xs) := by
  obtain ⟨i, a, c, h⟩ := h
  exact ⟨_, h.1⟩
theorem RowC.some (h : RowC H r sa) : ∃ o, H r = .some o := by
  obtain ⟨xs, h⟩ := h.lst
  exact ⟨_, h⟩
/-- what is new may be written -/
theorem ButR.updN {H0 : Hp} {D : Addr} {o : HO} (b : ButR r H0 H) (h : H0 D = none) : ButR r H0 (L2.upd H D o) := fun a u n e => by
  rw [upd_ne (ne_of_none e h)]
  exact b a u n e
theorem pair_keys : ∀ {arr : List (Int × Int)} {xs : List V}, Ats K H xs (arr.map prD) → ∃ ks : List (Addr × List Int), xs = ks.map (fun p => V.ref p.1) ∧ (∀ p ∈ ks, SqT K H p.1 (p.2.map V.int)) ∧ ks.map (fun p => p.2) = arr.map fun p => [p.1, p.2]
  | [], _, .nil => ⟨[], rfl, by simp, rfl⟩
  | p :: arr, _, .cons a h => by
    obtain ⟨ks, h1, h2, h3⟩ := pair_keys h
    obtain ⟨t, rfl, ht⟩ := at_tI (ns := [p.1, p.2]) a
    refine ⟨(t, [p.1, p.2]) :: ks, by rw [h1]; rfl, fun q hq => ?_, by rw [List.map_cons, h3]; rfl⟩
    rcases List.mem_cons.mp hq with z | z
    · rw [z]; exact ht
    · exact h2 q z
/-- sorted(set(e)), e a list of pairs -/
theorem ssetP {σ : L2.St} {P : Program} {w : World} {te : TE} {n : Nat} {arr : List (Int × Int)} {Q : VK} (h : Ev K te σ H (.list (arr.map prD))) (hn : n ≤ 5) (h1 : 1 ≤ n) (hl : arr.length ≤ 30) (up : ∀ p ∈ arr, 0 ≤ p.1 ∧ p.1 < p.2 ∧ p.2 < n)
    (q : ∀ A v H2, Wb n A → Same H H2 → At K H2 v (.list (A.map prD)) → Q v H2) : tCB (rSortedT K P w) (tCons (tCB (rSetOfT K P w) (tCons te tNil)) tNil) σ H Q := h H (Same.refl H) _ fun v H1 e1 av => by
  cases av with
  | lst hL hA =>
    rename_i l xs
    obtain ⟨ks, rfl, hk, hm⟩ := pair_keys hA
    have lk : ks.length = arr.length := by
      have := congrArg List.length hm
      rwa [List.length_map, List.length_map] at this
    have inA : ∀ p ∈ ks, ∃ z ∈ arr, p.2 = [z.1, z.2] := fun p hp => by
      have : p.2 ∈ ks.map fun p => p.2 := List.mem_map.mpr ⟨p, hp, rfl⟩
      rw [hm] at this
      obtain ⟨z, hz, e⟩ := List.mem_map.mp this
      exact ⟨z, hz, e.symm⟩
    refine ⟨l, ks, rfl, SqL.of hL, hk, by omega, fun a L ha hsub hall => ⟨a, L, 2, 64, rfl, upd_same, fun p hp => same_t (same_new ha) (hk p (hsub p hp)), by decide, fun p hp => ?_, fun L' s hp hnd hlt hsrt hs => ?_⟩⟩
    · obtain ⟨z, hz, e⟩ := inA p (hsub p hp)
      have u := up z hz
      rw [e]
      refine ⟨rfl, fun m hm => ?_⟩
      rcases List.mem_cons.mp hm with y | y
      · omega
      · rw [List.mem_singleton] at y; omega
    · have inL : ∀ p ∈ L', p ∈ ks := fun p h => hsub p (hp.mem_iff.mp h)
      have e13 := (e1.trans (same_new (o := SetTO P w a L) ha)).trans (same_new (o := .lst (L'.map fun q => V.ref q.1)) hs)
      have e13' := (same_new (o := SetTO P w a L) ha).trans (same_new (o := .lst (L'.map fun q => V.ref q.1)) hs)
      refine q (L'.map fun p => (p.2.getD 0 0, p.2.getD 1 0)) _ _ ⟨h1, hn, fun p hp' => ?_, ?_, ?_⟩ e13 (.lst upd_same ?_)
      · obtain ⟨y, hy, rfl⟩ := List.mem_map.mp hp'
        obtain ⟨z, hz, e⟩ := inA y (inL y hy)
        rw [e]
        exact up z hz
      · rw [List.pairwise_map]
        have hnd' : L'.Pairwise fun a b => a.2 ≠ b.2 := List.pairwise_map.mp hnd
        refine (hsrt.and hnd').imp_of_mem fun {x y} hx hy hxy => ?_
        obtain ⟨z, hz, e⟩ := inA x (inL x hx)
        obtain ⟨z', hz', e'⟩ := inA y (inL y hy)
        rw [e, e'] at hxy
        have u := up z hz
        have u' := up z' hz'
        rw [e, e']
        exact pair_lt (x := z.1) (y := z.2) (x' := z'.1) (y' := z'.2) hxy.1 hxy.2 (by omega) (by omega) (by omega) (by omega)
      · rw [List.length_map]
        have : (L'.map fun p => p.2).length ≤ (arr.map fun p => [p.1, p.2]).length := by
          refine List.Nodup.length_le_of_subset hnd fun x hx => ?_
          obtain ⟨y, hy, rfl⟩ := List.mem_map.mp hx
          obtain ⟨z, hz, e⟩ := inA y (inL y hy)
          exact List.mem_map.mpr ⟨z, hz, e.symm⟩
        rw [List.length_map, List.length_map] at this
        omega
      · have key : ∀ M : List (Addr × List Int), (∀ p ∈ M, p ∈ ks) → Ats K (L2.upd (L2.upd H1 a (SetTO P w a L)) s (.lst (L'.map fun q => V.ref q.1))) (M.map fun q => V.ref q.1) ((M.map fun p => ((p.2.getD 0 0, p.2.getD 1 0) : Int × Int)).map prD) := fun M => by
          induction M with
          | nil => exact fun _ => .nil
          | cons p M ih =>
            intro hM
            obtain ⟨z, hz, e⟩ := inA p (hM p (by simp))
            have ht := same_t e13' (hk p (hM p (by simp)))
            refine .cons ?_ (ih fun x hx => hM x (by simp [hx]))
            show At K _ (V.ref p.1) (.tuple [.int (p.2.getD 0 0), .int (p.2.getD 1 0)])
            rw [e] at ht ⊢
            exact .tup ht (.cons (.int _) (.cons (.int _) .nil))
        exact key L' inL
end
section
variable {P : Program} {w : World} {K : PySem.W.Frag} {mg : PySem.Str → Option Value} {base : Heap} {f : Addr} {fd : FuncData}
theorem sc__law_burning : FnScope ["_law_row", "_law_many", "_law_thin", "_law_k"] ["_law_row", "_law_many"] (defScope (top 46)) := ⟨rfl, rfl, rfl, by decide +kernel, rfl, by decide +kernel, by decide +kernel⟩
theorem ok_law_burning (F : FnP K "_law_burning" (top 46) f fd) (T : Fre mg) (c__law_taken : Cal P w K mg base 1 "_law_taken" ["_law_row", "_law_many"] (spTaken K)) (c__law_pick : Cal P w K mg base 2 "_law_pick" ["_law_row", "_law_things"] (spPick K)) : FnOk P w K mg base CX0 3 f fd ["_law_row", "_law_many"] (spBurn K) := by
  have nd := sc__law_burning.nd
  refine okS F sc__law_burning (fun vs H Q E ⟨r, sa, ns, n, e, _⟩ => by rw [e]; rfl) fun cdv A0 outer s H vs Q E hr h => ?_
  obtain ⟨r, sa, ns, n, rfl, hn, R, q⟩ := h
  refine ⟨_, (pss_cons (ps_set (i := 2) nd rfl (.inr rfl) (c__law_pick.call hr rfl (pa_cons (pv 0) (pa_cons (pe_lst (pa_cons pe_int (pa_cons pe_int (pa_cons pe_int pa_nil)))) pa_nil)) pass0))
    (pss_one (ps_ret (pe_callTy call_tuple_of (by rfl) T.f_tuple (by decide +kernel) (pa_cons (pe_lc (own := [("_law_k", 3)]) (g := (gName 3)) rfl nd (pi_range1 (by rfl) T.f_range (pa_cons (pv 1) pa_nil)) (blkOk_by (by kernel_rfl)) (fun _ _ _ _ _ => (pg_name (i := 3) nd rfl (.inl rfl))) (fun _ _ _ _ _ => pts_one (pt_cmpR op_eq (c__law_taken.call hr rfl (pa_cons (pv 0) (pa_cons (pv 2) pa_nil)) pass0) pe_int (nomark _))) (fun _ _ _ _ _ => (pv 3))) pa_nil))))), ?_⟩
  obtain ⟨o, ho⟩ := R.c.some
  refine ⟨_, rfl, Nat.le_of_ble_eq_true rfl, fun th hth => ⟨r, sa, ns, th, [.int 2, .int 2, .int 4], rfl, R.mono (same_new hth), .lst upd_same (.cons (.int 2) (.cons (.int 2) (.cons (.int 4) .nil))), (ne_of_none ho hth).symm, by simp, by simp, by simp [imm], fun d v H1 hd b1 R1 av => ?_⟩⟩
  obtain ⟨t, rfl, ht⟩ : ∃ t : Int, d = .int t ∧ 1 ≤ t ∧ t ≤ 4 := by
    simp only [List.mem_cons, List.not_mem_nil, or_false] at hd
    rcases hd with h | h | h
    · exact ⟨2, h, by decide⟩
    · exact ⟨2, h, by decide⟩
    · exact ⟨4, h, by decide⟩
  obtain rfl := at_int av
  have b01 : ButR r H H1 := (sb (same_new hth)).trans b1
  refine ⟨_, rfl, (n : Int), rfl, by omega, by omega, fun D hD => ?_⟩
  have hDr : r ≠ D := by
    obtain ⟨o, h⟩ := R1.c.some
    exact ne_of_none h hD
  have hD0 : H D = none := by
    cases h : H D with
    | none => rfl
    | some o =>
      have := b01 D o hDr.symm h
      rw [hD] at this
      cases this
  refine lc_range (lo := 0) (n := n) (fun i H2 => ButR r H H2 ∧ RowC H2 r sa ∧ ∃ l : List Int, H2 D = some (.lst (l.map V.int)) ∧ l.Pairwise (· < ·) ∧ (∀ k ∈ l, 0 ≤ k ∧ k < i) ∧ l.length ≤ i) ⟨b01.updN hD0, R1.c.upd hDr, [], upd_same, .nil, by simp, Nat.le_refl _⟩ ?_ ?_
  · rintro i H2 hi ⟨b2, c2, l, hl, asc, hin, len⟩
    refine ⟨rfl, _, rfl, _, rfl, r, sa, ns, t, rfl, R.mk b2 c2, ⟨ht.1, by omega⟩, fun k H3 b3 R3 k0 k1 => ⟨rfl, _, rfl, ?_⟩⟩
    have hl3 := b3 _ _ hDr.symm hl
    refine ite2 (fun _ => ?_) fun _ => ?_
    · refine ⟨_, rfl, l.map V.int, hl3, by rw [List.length_map]; exact Nat.lt_of_le_of_lt (Nat.le_trans len (by omega : i ≤ 100)) (by decide), (b2.trans b3).updN hD0, R3.c.upd hDr, l ++ [(i : Int)], ?_, ?_, fun j hj => ?_, ?_⟩
      · rw [upd_same, List.map_append, List.map_singleton, Int.zero_add]
      · refine List.pairwise_append.mpr ⟨asc, by simp, fun x hx y hy => ?_⟩
        rw [List.mem_singleton.mp hy]
        exact (hin x hx).2
      · rcases List.mem_append.mp hj with z | z
        · have := hin j z; omega
        · rw [List.mem_singleton.mp z]; omega
      · rw [List.length_append, List.length_singleton]; omega
    · exact ⟨b2.trans b3, R3.c, l, hl3, asc, fun j hj => by have := hin j hj; omega, by omega⟩
  · rintro H2 ⟨b2, c2, l, hl, asc, hin, len⟩
    refine ⟨D, _, rfl, .inl ⟨SqL.of hl, fun p hp => ?_⟩⟩
    exact q l _ _ ⟨fun k hk => hin k hk, asc⟩ (b2.trans (sb (same_new hp))) ((R.mk b2 c2).mono (same_new hp)) (tI_at (.inl (.inl upd_same)))
end
end Hd
set_option Elab.async false
set_option linter.all false
set_option maxRecDepth 100000
set_option maxHeartbeats 4000000
/-! Handons: the web that the law draws. -/
namespace Hd
open PySem PySem.Spec PyProof.Rows L2
section
variable {P : Program} {w : World} {K : PySem.W.Frag} {mg : PySem.Str → Option Value} {base : Heap} {f : Addr} {fd : FuncData}
theorem imm_prs (arr : List (Int × Int)) : ∀ d ∈ arr.map prD, imm d = true := fun d hd => by
  obtain ⟨p, _, rfl⟩ := List.mem_map.mp hd
  rfl
theorem sc__law_web : FnScope ["_law_row", "_law_most", "_law_many", "_law_way", "_law_thin", "_law_arrows", "_law_k", "_law_j"] ["_law_row", "_law_most"] (defScope (top 45)) := ⟨rfl, rfl, rfl, by decide +kernel, rfl, by decide +kernel, by decide +kernel⟩
theorem ok_law_web (F : FnP K "_law_web" (top 45) f fd) (T : Fre mg) (c__law_taken : Cal P w K mg base 1 "_law_taken" ["_law_row", "_law_many"] (spTaken K)) (c__law_pick : Cal P w K mg base 2 "_law_pick" ["_law_row", "_law_things"] (spPick K)) : FnOk P w K mg base CX0 3 f fd ["_law_row", "_law_most"] (spWeb K) := by
  have nd := sc__law_web.nd
  refine okS F sc__law_web (fun vs H Q E ⟨r, sa, ns, e, _⟩ => by rw [e]; rfl) fun cdv A0 outer s H vs Q E hr h => ?_
  obtain ⟨r, sa, ns, rfl, R, q⟩ := h
  refine ⟨_, (pss_cons (ps_par (i := 2) (j := 3) (by rfl) nd rfl rfl (by decide) rfl rfl (pa_cons (pe_op op_add pe_int (c__law_taken.call hr rfl (pa_cons (pv 0) (pa_cons (pv 1) pa_nil)) pass0)) (pa_cons (c__law_taken.call hr rfl (pa_cons (pv 0) (pa_cons pe_int pa_nil)) pass0) pa_nil)) (by rfl))
    (pss_cons (ps_par (i := 4) (j := 5) (by rfl) nd rfl rfl (by decide) rfl rfl (pa_cons (c__law_pick.call hr rfl (pa_cons (pv 0) (pa_cons (pe_lst (pa_cons pe_int (pa_cons pe_int (pa_cons pe_int pa_nil)))) pa_nil)) pass0) (pa_cons (pe_lst pa_nil) pa_nil)) (by rfl))
    (pss_cons (ps_for PassesOwn.never rfl (pi_range1 (by rfl) T.f_range (pa_cons (pv 2) pa_nil)) (pg_name (i := 6) nd rfl (.inl rfl))
      (pss_one (ps_for PassesOwn.never rfl (pi_range2 (by rfl) T.f_range (pa_cons (pe_op op_add (pv 6) pe_int) (pa_cons (pv 2) pa_nil))) (pg_name (i := 7) nd rfl (.inl rfl))
        (pss_one (ps_if (PW.pt (pw_and (pt_cmpR op_lt (pv 3) pe_int (nomark _)) (pw_and1 (pt_cmpR op_eq (c__law_taken.call hr rfl (pa_cons (pv 0) (pa_cons (pv 4) pa_nil)) pass0) pe_int (nomark _)))))
          (pss_one (ps_expr (pe_bm PySem.F.plainAttrs_list PySem.F.slot_list_append PySem.F.type_list_append mt_append (pv 5) (pa_cons (pe_tup (pa_cons (pv 6) (pa_cons (pv 7) pa_nil))) pa_nil))))
          pss_nil)))))
    (pss_cons (ps_if (pt_cmpR op_eq (pv 3) pe_int (nomark _))
      (pss_one (ps_setLc (i := 5) (own := [("_law_k", 6)]) (g := (gName 6)) rfl nd rfl rfl (sw_true rfl rfl rfl (by decide +kernel)) (pi_range1 (by rfl) T.f_range (pa_cons (pe_op op_sub (pv 2) pe_int) pa_nil)) (blkOk_by (by kernel_rfl)) (fun _ _ _ _ _ => (pg_name (i := 6) nd rfl (.inl rfl))) (fun _ _ _ _ _ => pts_nil) (fun _ _ _ _ _ => (pe_tup (pa_cons (pv 6) (pa_cons (pe_op op_add (pv 6) pe_int) pa_nil))))))
      pss_nil)
    (pss_cons (ps_if (pt_cmpR op_eq (pv 3) pe_int (nomark _))
      (pss_one (ps_setLc (i := 5) (own := [("_law_k", 6)]) (g := (gName 6)) rfl nd rfl rfl (sw_true rfl rfl rfl (by decide +kernel)) (pi_range2 (by rfl) T.f_range (pa_cons pe_int (pa_cons (pv 2) pa_nil))) (blkOk_by (by kernel_rfl)) (fun _ _ _ _ _ => (pg_name (i := 6) nd rfl (.inl rfl))) (fun _ _ _ _ _ => pts_nil) (fun _ _ _ _ _ => (pe_tup (pa_cons (c__law_taken.call hr rfl (pa_cons (pv 0) (pa_cons (pv 6) pa_nil)) pass0) (pa_cons (pv 6) pa_nil))))))
      pss_nil)
    (pss_one (ps_ret (pe_tup (pa_cons (pv 2) (pa_cons (pe_callTy call_tuple_of (by rfl) T.f_tuple (by decide +kernel) (pa_cons (pe_callB (cr_sortedT rfl) (by rfl) T.f_sorted (by decide +kernel) (pa_cons (pe_callTy (cr_setOfT rfl hr.units) (by rfl) T.f_set (by decide +kernel) (pa_cons (pv 5) pa_nil)) pa_nil)) pa_nil)) pa_nil)))))))))), ?_⟩
  refine ⟨_, rfl, _, rfl, r, sa, ns, 5, rfl, R, ⟨by decide, by decide⟩, fun k1 H1 b1 R1 k10 k11 => ⟨1, k1, rfl, rfl, _, rfl, r, sa, ns, 6, rfl, R1, ⟨by decide, by decide⟩, fun wy H2 b2 R2 w0 w1 => ⟨_, _, rfl, ?_⟩⟩⟩
  obtain ⟨n, hn⟩ : ∃ n : Nat, 1 + k1 = (n : Int) := ⟨(1 + k1).toNat, by omega⟩
  dsimp only
  rw [hn]
  have n1 : 1 ≤ n := by omega
  have n5 : n ≤ 5 := by omega
  obtain ⟨o2, ho2⟩ := R2.c.some
  refine ⟨_, rfl, Nat.le_of_ble_eq_true rfl, fun th hth => ⟨r, sa, ns, th, [.int 2, .int 3, .int 4], rfl, R2.mono (same_new hth), .lst upd_same (.cons (.int 2) (.cons (.int 3) (.cons (.int 4) .nil))), (ne_of_none ho2 hth).symm, by simp, by simp, by simp [imm], fun d v H3 hd b3 R3 av => ⟨Nat.zero_le _, fun p hp => ⟨_, _, rfl, ?_⟩⟩⟩⟩
  obtain ⟨t, rfl, ht⟩ : ∃ t : Int, d = .int t ∧ 1 ≤ t ∧ t ≤ 4 := by
    simp only [List.mem_cons, List.not_mem_nil, or_false] at hd
    rcases hd with h | h | h
    · exact ⟨2, h, by decide⟩
    · exact ⟨3, h, by decide⟩
    · exact ⟨4, h, by decide⟩
  obtain rfl := at_int av
  have b03 : ButR r H H3 := ((b1.trans b2).trans (sb (same_new hth))).trans b3
  obtain ⟨o3, ho3⟩ := R3.c.some
  have hpr : r ≠ p := ne_of_none ho3 hp
  have hp0 : H p = none := by
    cases h : H p with
    | none => rfl
    | some o =>
      have := b03 p o hpr.symm h
      rw [hp] at this
      cases this
  have b04 : ButR r H (L2.upd H3 p (.lst [])) := b03.updN hp0
  have R4 : RowOk K (L2.upd H3 p (.lst [])) r sa ns := R.mk b04 (R3.c.upd hpr)
  refine ⟨_, rfl, (n : Int), rfl, by omega, by omega, for_range (lo := 0) (n := n) (fun i σ H' => ∃ (y6 y7 : Option V) (arr : List (Int × Int)) (xs : List V), σ = [some (.ref r), some (.int 5), some (.int n), some (.int wy), some (.int t), some (.ref p), y6, y7] ∧ ButR r H H' ∧ RowC H' r sa ∧ H' p = some (.lst xs) ∧ Ats K H' xs (arr.map prD) ∧ (∀ z ∈ arr, 0 ≤ z.1 ∧ z.1 < z.2 ∧ z.2 < n) ∧ arr.length ≤ 5 * i)
    ⟨none, none, [], [], rfl, b04, R4.c, upd_same, .nil, by simp, Nat.zero_le _⟩ ?_ ?_⟩
  · rintro i σ H5 hi ⟨y6, y7, arr, xs, rfl, b5, c5, hx, hA, up, len⟩
    refine ⟨_, rfl, _, _, rfl, rfl, _, rfl, _, _, rfl, ⟨by omega, by omega, by omega, by omega⟩, for_range (lo := 0 + (i : Int) + 1) (n := ((n : Int) - (0 + (i : Int) + 1)).toNat) (fun j σ H' => ∃ (y7 : Option V) (arr : List (Int × Int)) (xs : List V), σ = [some (.ref r), some (.int 5), some (.int n), some (.int wy), some (.int t), some (.ref p), some (.int (0 + (i : Int))), y7] ∧ ButR r H H' ∧ RowC H' r sa ∧ H' p = some (.lst xs) ∧ Ats K H' xs (arr.map prD) ∧ (∀ z ∈ arr, 0 ≤ z.1 ∧ z.1 < z.2 ∧ z.2 < n) ∧ arr.length ≤ 5 * i + j)
      ⟨y7, arr, xs, rfl, b5, c5, hx, hA, up, by omega⟩ ?_ ?_⟩
    · clear b5 c5 hx hA up len
      rintro j σ H6 hj ⟨y7, arr, xs, rfl, b6, c6, hx, hA, up, len⟩
      have hlt : 0 + (i : Int) + 1 + (j : Int) < n := by omega
      have fin : ∀ H', ButR r H6 H' → RowC H' r sa → ∃ (y7 : Option V) (arr : List (Int × Int)) (xs : List V), [some (.ref r), some (.int 5), some (.int n), some (.int wy), some (.int t), some (.ref p), some (.int (0 + (i : Int))), some (.int (0 + (i : Int) + 1 + (j : Int)))] = [some (.ref r), some (.int 5), some (.int n), some (.int wy), some (.int t), some (.ref p), some (.int (0 + (i : Int))), y7] ∧ ButR r H H' ∧ RowC H' r sa ∧ H' p = some (.lst xs) ∧ Ats K H' xs (arr.map prD) ∧ (∀ z ∈ arr, 0 ≤ z.1 ∧ z.1 < z.2 ∧ z.2 < n) ∧ arr.length ≤ 5 * i + (j + 1) := fun H' b' c' => by
        obtain ⟨rs, hrs⟩ := c6.lst
        exact ⟨_, arr, xs, rfl, b6.trans b', c', b' _ _ hpr.symm hx, hA.tups (b'.tups hrs) (imm_all (imm_prs arr)), up, by omega⟩
      refine ⟨_, rfl, _, _, rfl, rfl, _, rfl, ite2 (fun hw => ?_) fun hw => ?_⟩
      · refine ⟨_, rfl, _, rfl, r, sa, ns, t, rfl, R.mk b6 c6, ⟨ht.1, by omega⟩, fun k H7 b7 R7 _ _ => ⟨rfl, _, rfl, ite2 (fun hk => ?_) fun hk => ?_⟩⟩
        · obtain ⟨rs, hrs⟩ := c6.lst
          have hx7 := b7 _ _ hpr.symm hx
          have hA7 := hA.tups (b7.tups hrs) (imm_all (imm_prs arr))
          have hn2 : xs.length < 100000 := by rw [hA.len, List.length_map]; omega
          refine s_app (K := K) rfl hx7 hn2 (ev_tup (ea_cons (ev_var rfl (.int _)) (ea_cons (ev_var rfl (.int _)) ea_nil))) fun v H8 e8 av => ?_
          have b8 := (b6.trans b7).trans (sb e8)
          have tp : Tups H8 (L2.upd H8 p (.lst (xs ++ [v]))) := Tups.lst (e8 _ _ hx7)
          refine ⟨_, arr ++ [(0 + (i : Int), 0 + (i : Int) + 1 + (j : Int))], xs ++ [v], rfl, b8.updN hp0, (R7.c.mono e8).upd hpr, upd_same, ?_, fun z hz => ?_, ?_⟩
          · rw [List.map_append]
            exact ((hA7.mono e8).tups tp (imm_all (imm_prs arr))).app (.cons (av.tups tp rfl) .nil)
          · rcases List.mem_append.mp hz with h | h
            · exact up z h
            · rw [List.mem_singleton.mp h]
              exact ⟨by show 0 ≤ 0 + (i : Int); omega, by show 0 + (i : Int) < 0 + (i : Int) + 1 + (j : Int); omega, hlt⟩
          · rw [List.length_append, List.length_singleton]
            omega
        · exact fin H7 b7 R7.c
      · exact fin H6 (ButR.refl _) c6
    · rintro σ H6 ⟨y7, arr, xs, rfl, b6, c6, hx, hA, up, len⟩
      exact ⟨_, _, arr, xs, rfl, b6, c6, hx, hA, up, by omega⟩
  · rintro σ H5 ⟨y6, y7, arr, xs, rfl, b5, c5, hx, hA, up, len⟩
    have aA : At K H5 (.ref p) (.list (arr.map prD)) := .lst hx hA
    have lA : arr.length ≤ 25 := by omega
    clear len hx hA
    generalize V.ref p = v5 at *
    dsimp only
    refine s_cut (fun σ' H' => ∃ (y6 y7 : Option V) (arr : List (Int × Int)) (v5 : V), σ' = [some (.ref r), some (.int 5), some (.int n), some (.int wy), some (.int t), some v5, y6, y7] ∧ ButR r H H' ∧ RowC H' r sa ∧ At K H' v5 (.list (arr.map prD)) ∧ (∀ z ∈ arr, 0 ≤ z.1 ∧ z.1 < z.2 ∧ z.2 < n) ∧ arr.length ≤ 25) (fun N hN => ?_) ?_
    · refine s_if (ev_test (K := K) (ev_op (ev_var rfl (.int wy)) ev_int ro_eqI)) (fun hb H6 e6 => ?_) fun hb H6 e6 => ?_
      · refine s_set (ev_lc (rng (n - 1)) PyData.int (fun _ => true) (fun k => prD (k, k + 1)) (ei_rng (K := K) (ea_cons (ev_op (ev_var rfl (.int _)) ev_int ro_int) ea_nil) (by omega) (by omega)) (by rw [rng_len]; omega) (fun _ _ _ => rfl) fun k hk v H7 e7 av => item1 rfl et_yes fun _ => ev_tup (ea_cons (ev_var rfl av) (ea_cons (ev_op (ev_var rfl av) ev_int ro_int) ea_nil))) fun v7 H7 e7 a7 => ?_
        rw [filter_yes] at a7
        have e67 := e6.trans e7
        refine hN _ _ ⟨_, _, (rng (n - 1)).map fun k => (k, k + 1), v7, rfl, b5.trans (sb e67), c5.mono e67, by rw [List.map_map]; exact a7, fun z hz => ?_, by rw [List.length_map, rng_len]; omega⟩
        obtain ⟨k, hk, rfl⟩ := List.mem_map.mp hz
        have := mem_rng.mp hk
        exact ⟨this.1, by show k < k + 1; omega, by show k + 1 < (n : Int); omega⟩
      · exact hN _ _ ⟨_, _, arr, v5, rfl, b5.trans (sb e6), c5.mono e6, aA.mono e6, up, lA⟩
    · clear b5 c5 aA up lA
      rintro σ H6 ⟨y6, y7, arr, v5, rfl, b6, c6, aA, up, lA⟩
      refine s_cut (fun σ' H' => ∃ (y6 y7 : Option V) (arr : List (Int × Int)) (v5 : V), σ' = [some (.ref r), some (.int 5), some (.int n), some (.int wy), some (.int t), some v5, y6, y7] ∧ ButR r H H' ∧ RowC H' r sa ∧ At K H' v5 (.list (arr.map prD)) ∧ (∀ z ∈ arr, 0 ≤ z.1 ∧ z.1 < z.2 ∧ z.2 < n) ∧ arr.length ≤ 25) (fun N hN => ?_) ?_
      · refine s_if (ev_test (K := K) (ev_op (ev_var rfl (.int wy)) ev_int ro_eqI)) (fun hb H7 e7 => ?_) fun hb H7 e7 => ?_
        · have b7 := b6.trans (sb e7)
          have c7 := c6.mono e7
          refine ⟨_, rfl, _, _, rfl, ⟨by decide, by decide, by omega, by omega⟩, fun D hD => ?_⟩
          have hDr : r ≠ D := by
            obtain ⟨o, h⟩ := c7.some
            exact ne_of_none h hD
          have hD0 : H D = none := by
            cases h : H D with
            | none => rfl
            | some o =>
              have := b7 D o hDr.symm h
              rw [hD] at this
              cases this
          refine lc_range (lo := 1) (n := ((n : Int) - 1).toNat) (fun i H2 => ButR r H H2 ∧ RowC H2 r sa ∧ ∃ (arr : List (Int × Int)) (xs : List V), H2 D = some (.lst xs) ∧ Ats K H2 xs (arr.map prD) ∧ (∀ z ∈ arr, 0 ≤ z.1 ∧ z.1 < z.2 ∧ z.2 < n) ∧ arr.length ≤ i) ⟨b7.updN hD0, c7.upd hDr, [], [], upd_same, .nil, by simp, Nat.le_refl _⟩ ?_ ?_
          · rintro i H8 hi ⟨b8, c8, arr, xs, hx, hA, up, len⟩
            obtain ⟨rs, hrs⟩ := c8.lst
            refine ⟨rfl, ?_⟩
            unfold tYes
            dsimp only
            first | rw [if_pos rfl] | skip
            refine ⟨_, rfl, _, rfl, r, sa, ns, _, rfl, R.mk b8 c8, ⟨by omega, by omega⟩, fun k H9 b9 R9 k0 k1 => ⟨_, rfl, Nat.le_of_ble_eq_true rfl, fun q2 hq2 => ?_⟩⟩
            have hx9 := b9 _ _ hDr.symm hx
            have hA9 := hA.tups (b9.tups hrs) (imm_all (imm_prs arr))
            have e9 := same_new (o := .tup [.int k, .int (1 + (i : Int))]) hq2
            have hx10 := e9 _ _ hx9
            have tp : Tups (L2.upd H9 q2 (.tup [.int k, .int (1 + (i : Int))])) (L2.upd (L2.upd H9 q2 (.tup [.int k, .int (1 + (i : Int))])) D (.lst (xs ++ [.ref q2]))) := Tups.lst hx10
            refine ⟨xs, hx10, by rw [hA.len, List.length_map]; exact Nat.lt_of_le_of_lt (Nat.le_trans len (by omega : i ≤ 10)) (by decide), ((b8.trans b9).trans (sb e9)).updN hD0, (R9.c.mono e9).upd hDr, arr ++ [(k, 1 + (i : Int))], _, upd_same, ?_, fun z hz => ?_, ?_⟩
            · rw [List.map_append]
              exact ((hA9.mono e9).tups tp (imm_all (imm_prs arr))).app (.cons (At.tups tp rfl (.tup (.inl (.inl upd_same)) (.cons (.int _) (.cons (.int _) .nil)))) .nil)
            · rcases List.mem_append.mp hz with h | h
              · exact up z h
              · rw [List.mem_singleton.mp h]
                exact ⟨k0, k1, by show 1 + (i : Int) < n; omega⟩
            · rw [List.length_append, List.length_singleton]
              omega
          · rintro H8 ⟨b8, c8, arr, xs, hx, hA, up, len⟩
            exact hN _ _ ⟨_, _, arr, .ref D, rfl, b8, c8, .lst hx hA, up, by omega⟩
        · exact hN _ _ ⟨_, _, arr, v5, rfl, b6.trans (sb e7), c6.mono e7, aA.mono e7, up, lA⟩
      · clear b6 c6 aA up lA
        rintro σ H7 ⟨y6, y7, arr, v5, rfl, b7, c7, aA, up, lA⟩
        refine ⟨_, rfl, ssetP (K := K) (n := n) (ev_var rfl aA) n5 n1 (by omega) up fun A v H8 W e8 av => ?_⟩
        cases av with
        | lst hL hA =>
          rename_i ax xs
          refine ⟨_, _, rfl, .inl ⟨SqL.of hL, fun l hl => ⟨Nat.le_of_ble_eq_true rfl, fun z hz => ?_⟩⟩⟩
          have e9 := same_new (o := .tup xs) hl
          have e10 := same_new (H := L2.upd H8 l (.tup xs)) (o := .tup [.int (n : Int), .ref l]) hz
          have eT := e8.trans (e9.trans e10)
          exact q n A _ _ W (b7.trans (sb eT)) ((R.mk b7 c7).mono eT) (.tup (.inl (.inl upd_same)) (.cons (.int _) (.cons (.tup (.inl (.inl (e10 _ _ upd_same))) (hA.mono (e9.trans e10))) .nil)))
end
end Hd
set_option Elab.async false
set_option linter.all false
set_option maxRecDepth 100000
set_option maxHeartbeats 4000000
/-! Handons: the program's exceptions are made. -/
namespace Hdx
open PySem PySem.W PySem.Calls PyProof.Rows PySem.HandSPX
abbrev sInv : Stmt := L2.inClass (PySem.Challenge.pw_handons_k63_whole_desks.main.body.getD 7 (.Pass ⟨0, 0, 0, 0⟩)) 0
/-- what the written part says of InvalidLine, at C, and of its __init__, at fI -/
structure InvTxt (P : Program) (K : Frag) (mg : PySem.Str → Option Value) (C fI : Addr) : Prop where
  gC : mg "InvalidLine" = some (.ref C)
  cls : ∃ nm q N bs bm sn sub ab col dd k0 k1 k2 k3 k5, K.lookup C = some (excClassObj nm q C N bs bm true sn sub ab col dd k0 k1 k2 k3 k5 "ValueError.__new__") ∧ refsVE bm = true
  sa : findIn K (.ref C) "__setattr__" = some (some (.builtin "object.__setattr__"))
  noN : findIn K (.ref C) "word" = some none
  iC : findIn K (.ref C) "__init__" = some (some (.ref fI))
  tC : typeIn K (.ref fI) = some (.type "function")
  kC : keepIn K (.ref C) = true
  exC : subIn K (.ref C) (.type "BaseException") = some true
  veC : subIn K (.ref C) (.type "ValueError") = some true
  tyC : typeIn K (.ref C) = some (.type "type")
  mro : mroIn K C (.ref C) = some true
  sup : ks_superIn K C C "__init__" = some (some (.builtin "ValueError.__init__"))
  opq : nsIn K cStatics "thirdparty.any" = some none
  noS : mg "super" = none
  top : (P.main.scope.names.lookup ("super" : PySem.Str)).isSome = false
  fn : ∃ (oc : Value) (od : Option Addr) (doc pm : Value) (an : Option Addr) (cda cc : Addr) (ct : Value) (osl : Array (Option Value)) (ccl cl : Value) (cdd cld : Option Addr) (vs : Array Value) (ccs csl : Array (Option Value)) (file : PySem.Str) (tf : Tok),
    K.lookup fI = some ⟨oc, od, .func (fnX "__init__" "InvalidLine.__init__" (L2.defArgs sInv) (L2.defBody sInv) (L2.defScope sInv) [("__class__", cc)] .none .none doc pm an (.ref cda) ct), osl⟩ ∧ codeIn K (.ref cda) "InvalidLine.__init__" = true ∧
    K.lookup cda = some ⟨ccl, cdd, .fields vs, ccs⟩ ∧ vs[2]? = some (.str file tf) ∧ ((P.main.file : PySem.Str) == file) = true ∧ K.lookup cc = some ⟨cl, cld, .cell (some (.ref C)), csl⟩
theorem one_size (v : Value) : [v].length ≤ sizeLine := by
  rw [sizeLine_eq]
  exact (by decide : 1 ≤ 16777216)
/-- what __init__ leaves of a fresh exception at x -/
structure InitEnd (h h' : Heap) (x C dx : Addr) (v : Value) : Prop where
  keep : ∀ b o, b ≠ x → h.get? b = some o → h'.get? b = some o
  obj : ∃ t1, h'.get? x = some { cls := .ref C, dict := some dx, data := .fields #[.ref t1, .none, .none, .none, .bool false, .none] }
  dbig : h.objs.size ≤ dx
  dne : dx ≠ x
  ns : h'.Ns1 dx (fun y => if y = "word" then some v else none)
/-- a made error -/
structure OwnMade (h h' : Heap) (e C d : Addr) (v : Value) : Prop where
  keep : ∀ b o, h.get? b = some o → h'.get? b = some o
  new : h.objs.size ≤ e
  obj : ∃ oe vs, h'.get? e = some oe ∧ oe.cls = .ref C ∧ oe.dict = some d ∧ oe.data = .fields vs ∧ vs[1]? = some .none
  dbig : h.objs.size ≤ d
  dne : d ≠ e
  ns : h'.Ns1 d (fun y => if y = "word" then some v else none)
section
variable {prog : Program} {w : World} {A : Around} {E : Value → Shared → Prop} {R : Result → Shared → Prop} {s : Shared} {K : Frag} {mg mb : PySem.Str → Option Value} {C fI : Addr}
theorem cw1 {M : Model} {pos : Pos} {env : Env} {e : Expr} {rest : List Expr} {u x : Addr} {i : String} {Q : Value → Shared → Prop}
    (h : wpAny M A (spliced (backTo pos (starEach (e :: rest) env))) (fun vs s₁ => KxsAt i u x s₁.heap ∧ wpAny M A (call (.ref u) vs) Q E s₁) E s)
    (he : starEach (e :: rest) env = (false, eval e env) :: starEach rest env := by rfl) (hplain : (backTo pos (starEach rest env)).any (·.1) = false := by rfl) :
    wpAny M A (callWith pos (.ref u) [] (backTo pos (starEach (e :: rest) env)) []) Q E s := by
  rw [he] at h ⊢
  refine kxs_callWith (i := i) (x := x) (by show (false || (backTo pos (starEach rest env)).any (·.1)) = false; rw [hplain]; rfl) ?_
  exact evalArgs_plain h
theorem ldC {M : Model} {name : PySem.Str} {scope : Scope} {L a cc : Addr} {cd : Value} {m : PySem.Str → Option Value} {x : PySem.Str} {pos : Pos} {v : Value} {Q : Value → Shared → Prop} (hn : s.heap.Ns L m) (hv : m x = some v) (h : Q v s)
    (hk : scope.kind = .function := by rfl) (hl : (ksEnv name scope L a cd cc).kindOf x = some .local := by rfl) (hd : (x == ("__debug__" : PySem.Str)) = false := by decide) :
    wpAny M A (eval (.Name x pos) (ksEnv name scope L a cd cc)) Q E s := wpAny_Name (wpAny_loadName_local hk hl hn hv h) hd
theorem mw_call {u e C t0 : Addr} {rest : List Value} {nm q : PySem.Str} {N : Addr} {bs bm : List Value} {sn : List PySem.Str} {sub : List Value} {ab : Bool} {col : Option Bool} {dd : Option Addr} {k0 k1 k2 k3 k5 : Option Value} {h : Heap} {g : Array GenState} {d : Drawn} {t : Nat} {os : OsState} {Q : Value → Shared → Prop}
    (hC : h.get? C = some (excClassObj nm q C N bs bm true sn sub ab col dd k0 k1 k2 k3 k5 "ValueError.__new__")) (he : h.get? e = some (excO C t0)) (hu : h.get? u = some (kxs_mw "ValueError.__init__" e)) (hz : rest.length ≤ sizeLine)
    (hq : ∀ h' t1, (∀ b o, b ≠ e → h.get? b = some o → h'.get? b = some o) → h'.get? e = some (excO C t1) → Q .none ⟨h', g, d, t, os⟩) : wpAny (model prog w) A (call (.ref u) rest) Q E ⟨h, g, d, t, os⟩ := by
  refine wpAny_call (codeAny_of_tree ?_)
  show wpAny _ A.in1 (callAny (.ref u) ⟨rest, []⟩) _ _ _
  simp only [callAny]
  refine wpAny_bind (wpAny_load hu ?_)
  simp only [kxs_mw, show (Value.type "method-wrapper" == Value.type "method" || Value.type "method-wrapper" == Value.type "builtin_function_or_method" || Value.type "method-wrapper" == Value.type "method-wrapper") = true by decide, if_true]
  refine KFB.if_so (by decide) ?_
  refine wpAny_bind (check_bound_init F.excBase_ValueError.toExcCallFacts hC he rfl ?_)
  refine wpAny_bind (wpAny_pure (wpAny_pure ?_))
  refine ⟨plainId_quiet F.excBase_ValueError.init.plain _, codeAny_builtin F.excBase_ValueError.initEntry ?_⟩
  exact exc_init_tree (cls := .ref C) (t0 := t0) (dv := none) (c2 := .none) (c3 := .none) (b4 := .bool false) he hz fun h' k e' _ => hq h' _ k e'
theorem inv_init (T : InvTxt prog K mg C fI) {x t0 : Addr} {v : Value} (X : K.In s.heap) (hlim : s.heap.NoLimit) (G : s.heap.Ns mainGlobals mg) (Bt : s.heap.Ns builtinsNs mb) (hb : mb "super" = some (.type "super")) (hx : s.heap.get? x = some (excO C t0)) (hnx : K.lookup x = none) (hroom : A.depth < recursionLimit)
    (hq : ∀ h' tk dx, InitEnd s.heap h' x C dx v → R (.ok (.ret .none)) { s with heap := h', toks := tk }) :
    codeAny (model prog w) A (.call (.ref fI) ⟨[.ref x, v], []⟩) R s := by
  obtain ⟨oc, od, doc, pm, an, cda, cc, ct, osl, ccl, cl, cdd, cld, vs, ccs, csl, file, tf, ho, hcd, hcode, hvs, hfile, hcell⟩ := T.fn
  obtain ⟨nm, q, N, bs, bm, sn, sub, ab, col, dd, k0, k1, k2, k3, k5, hC, hbm⟩ := T.cls
  have hcl : clsIn K C = some { name := nm, bases := bs, mro := .ref C :: bm, ns := N, qualname := q, hasDict := true, slotNames := sn, subclasses := sub, abstract := ab, collection := col, hasDel := false } := by unfold clsIn; rw [hC] <;> rfl
  refine ks_codeAny_call_defAt (fd := ksFn "__init__" "InvalidLine.__init__" (L2.defArgs sInv) (L2.defBody sInv) (L2.defScope sInv) .none .none doc pm an (.ref cda) ct cc) (body := L2.defBody sInv) (binds := [("self", .ref x), ("word", v)]) hroom (X _ _ ho) rfl hlim (codeRec_of X hcd) rfl (BindsTo.of_eq rfl) (show ∀ x ∈ (L2.defScope sInv).names, x.2 ≠ .cell by decide +kernel) ?_ (fun h₁ hn k => ?_) rfl rfl rfl
  · intro y hy
    rcases List.mem_cons.mp hy with z | z
    · rw [z]; rfl
    · rw [List.mem_singleton.mp z]; rfl
  have X₁ : K.In h₁ := X.keeps k
  have hx₁ := k _ _ hx
  have hC₁ := X₁ _ _ hC
  -- super().__init__(word)
  refine ks_wpAt_execs_cons (ks_wpAt_Expr_any (ks_wpAt_MethodCall ?_))
  refine ks_wpAt_super_base (env := ksEnv "InvalidLine.__init__" (L2.defScope sInv) s.heap.objs.size fI (.ref cda) cc) rfl rfl (by decide) rfl (X₁ _ _ ho) rfl rfl rfl (X₁ _ _ hcode) rfl hvs hfile T.top ?_
  refine ks_loadName_global rfl rfl (loadGlobal_builtin (env := ksEnv "InvalidLine.__init__" (L2.defScope sInv) s.heap.objs.size fI (.ref cda) cc) (G.keeps k) T.noS (Bt.keeps k) hb ⟨rfl, ?_⟩)
  refine wpAny_loadName_free rfl rfl rfl ⟨_, X₁ _ _ hcell, rfl⟩ ?_
  refine wpAny_loadName_local rfl rfl hn (v := .ref x) (by rfl) ?_
  refine ks_wpAny_isType_cls hC₁ rfl ⟨rfl, ?_⟩
  refine ks_wpAny_call_super hC₁ rfl hx₁ rfl (fun c e => by cases e) (looks_mroIn X₁ T.mro) (fun h₂ e₂ k₂ => ?_)
  have X₂ : K.In h₂ := X₁.keeps k₂
  have hx₂ := k₂ _ _ hx₁
  have hC₂ := X₂ _ _ hC
  have hxC : x ≠ C := fun z => by
    rw [z, hC₂] at hx₂
    cases hx₂
  have I₂ : InstAt h₂ x (excO C t0) C none := ⟨hx₂, rfl, rfl, trivial⟩
  have hsup : alongIn K "__init__" (((Value.ref C :: bm).dropWhile (· != .ref C)).drop 1) = some (some (.builtin "ValueError.__init__")) := by
    have z := T.sup
    unfold ks_superIn at z
    rw [hcl] at z
    exact z
  refine kxs_getMethod kxs_ValueError e₂ (looks_opaque X₂ T.opq) (l₀ := .ref C :: bm) (fun A Q E s k q => wpAny_bind ((looks_clsIn X₂ hcl) A _ E s k (wpAny_pure q))) rfl X₂ hsup (I₂.type.andThen (looks_subIn X₂ T.veC)) hxC (by decide) ?_
  have k₃ : ∀ b o, h₂.get? b = some o → (h₂.push (kxs_mw "ValueError.__init__" x)).get? b = some o := fun b o e => Heap.get?_push_of_some _ e
  have k13 : ∀ b o, h₁.get? b = some o → (h₂.push (kxs_mw "ValueError.__init__" x)).get? b = some o := fun b o e => k₃ b o (k₂ b o e)
  have hu : (h₂.push (kxs_mw "ValueError.__init__" x)).get? h₂.objs.size = some (kxs_mw "ValueError.__init__" x) := Heap.get?_push_at rfl rfl
  refine cw1 (i := "ValueError.__init__") (x := x) (Calls.spliced_cons (ldC (hn.keeps k13) (v := v) (by rfl) (Calls.spliced_nil ⟨hu, ?_⟩)))
  refine mw_call (k13 _ _ hC₁) (k13 _ _ hx₁) hu (one_size v) fun h₄ t1 k₄ hx₄ => ?_
  have k14 : ∀ b o, b ≠ x → h₁.get? b = some o → h₄.get? b = some o := fun b o hb e => k₄ b o hb (k13 b o e)
  have hxL : s.heap.objs.size ≠ x := Nat.ne_of_gt (Heap.lt_size hx)
  have hn₄ : h₄.Ns s.heap.objs.size (fun y => ([("self", Value.ref x), ("word", v)] : List (PySem.Str × Value)).reverse.lookup y) := by
    obtain ⟨oL, es, ep, hL, r⟩ := hn
    exact ⟨oL, es, ep, k14 _ _ hxL hL, r⟩
  have X₄ : K.In h₄ := fun a o e => by
    by_cases ha : a = x
    · rw [ha, hnx] at e
      cases e
    · exact k14 _ _ ha (X₁ _ _ e)
  -- self.word = word
  dsimp only
  refine wpAt_of_wpAny ?_
  refine wpAny_execs_cons (plainObj_wpAny_Assign_Attribute ?_)
  refine ldC (v := v) hn₄ (by rfl) (ldC (v := .ref x) hn₄ (by rfl) ?_)
  refine set_plain X₄ (ox := excO C t1) (od := none) ⟨hx₄, rfl, rfl, trivial⟩ T.sa ?_
  refine exc_osa X₄ hx₄ hcl (show refsVE (.ref C :: bm) = true from hbm) rfl T.noN (fun h₅ tk₅ dx k₅ dn dne hx₅ hn₅ => ?_)
  show wpAny _ _ (execs _ _) _ _ _
  have z : s.heap.objs.size < h₄.objs.size := hn₄.lt
  exact wpAny_execs_nil (hq h₅ tk₅ dx ⟨fun b o hb e => k₅ b o hb (k14 b o hb (k b o e)), ⟨t1, hx₅⟩, Nat.le_trans (Nat.le_of_lt z) dn, dne, hn₅⟩)
theorem inv_made (T : InvTxt prog K mg C fI) {v : Value} (X : K.In s.heap) (hlim : s.heap.NoLimit) (G : s.heap.Ns mainGlobals mg) (Bt : s.heap.Ns builtinsNs mb) (hb : mb "super" = some (.type "super")) (hroom : A.depth + 1 < recursionLimit)
    (hq : ∀ h' tk e d, OwnMade s.heap h' e C d v → R (.ok (.ret (.ref e))) { s with heap := h', toks := tk }) :
    codeAny (model prog w) A (.call (.ref C) ⟨[v], []⟩) R s := by
  obtain ⟨nm, q, N, bs, bm, sn, sub, ab, col, dd, k0, k1, k2, k3, k5, hC, hbm⟩ := T.cls
  obtain ⟨hp, g, dr, tk, os⟩ := s
  have k : ∀ b o, hp.get? b = some o → ((hp.push (kdv_tup [v])).push (excO C hp.objs.size)).get? b = some o := fun b o e => Heap.get?_push_of_some _ (Heap.get?_push_of_some _ e)
  have hget : ((hp.push (kdv_tup [v])).push (excO C hp.objs.size)).get? (hp.objs.size + 1) = some (excO C hp.objs.size) := by heap_get
  have hnx : K.lookup (hp.objs.size + 1) = none := by
    cases e : K.lookup (hp.objs.size + 1) with
    | none => rfl
    | some o =>
      have z : hp.get? (hp.objs.size + 1) = some o := X _ _ e
      exact absurd (Nat.lt_of_succ_lt (Heap.lt_size z)) (Nat.lt_irrefl _)
  refine call_own F.excBase_ValueError (fun X => refsVE_contains X bm hbm) (X _ _ hC) (looks_findIn X T.iC) (fun self => bind_fn X self T.tC) (one_size v) ?_
  refine inv_init (s := ⟨(hp.push (kdv_tup [v])).push (excO C hp.objs.size), g, dr, tk, os⟩) T (X.keeps k) (hlim.keeps k) (G.keeps k) (Bt.keeps k) hb hget hnx ?_ fun h' tk' dx M => ?_
  · show A.depth + 1 < recursionLimit
    exact hroom
  · obtain ⟨t1, hx⟩ := M.obj
    have old : ∀ b o, hp.get? b = some o → h'.get? b = some o := fun b o e => M.keep b o (Nat.ne_of_lt (Nat.lt_succ_of_lt (Heap.lt_size e))) (k b o e)
    have z : hp.objs.size + 1 + 1 ≤ dx := by
      have q := M.dbig
      simp only [Heap.size_push] at q
      exact q
    exact ⟨rfl, hq h' tk' (hp.objs.size + 1) dx ⟨old, Nat.le_succ _, ⟨_, _, hx, rfl, rfl, rfl, rfl⟩, Nat.le_trans (Nat.le_trans (Nat.le_succ _) (Nat.le_succ _)) z, M.dne, M.ns⟩⟩
end
end Hdx
namespace Hd
open PySem PySem.Spec PyProof.Rows L2
theorem relO_word {v : V} {v' : Value} (r : RelV v v') (f : PySem.Str) : RelO (List.lookup f [(("word" : PySem.Str), v)]) (if f = "word" then some v' else none) := by
  by_cases hw : f = "word"
  · subst hw
    rw [if_pos rfl]
    have q : List.lookup ("word" : PySem.Str) [(("word" : PySem.Str), v)] = some v := by simp [List.lookup]
    rw [q]
    exact r
  · rw [if_neg hw]
    have qw : (f == ("word" : PySem.Str)) = false := by simpa using hw
    have q2 : List.lookup f [(("word" : PySem.Str), v)] = none := by simp [List.lookup, qw]
    rw [q2]
    trivial
section
variable {X : Cx} {C fI : Addr}
/-- InvalidLine(e) -/
def tMkInv (C : Addr) (ta : TA) : L2.St → Hp → XK → Prop := fun σ H Q => ta σ H fun vs H1 => ∃ v, vs = [v] ∧ ∀ d, H1 d = none → Q (.ref C) (some d) (L2.upd H1 d (.xd [(("word" : PySem.Str), v)]))
theorem pmk_inv {a : Expr} {ta : TA} {p pos : Pos} {k : Nat} (T : Hdx.InvTxt X.prog X.K X.mg C fI) (hr : Room k X.A) (ha : PA X [a] ta) (hg : Gl X "InvalidLine" := by rfl)
    (he : starEach (a :: []) X.env = (false, eval a X.env) :: starEach [] X.env := by rfl) (hpl : (backTo pos (starEach [] X.env)).any (·.1) = false := by rfl) :
    PMk X (.Call (.Name "InvalidLine" p) [a] [] pos) (tMkInv C ta) := by
  intro pins s σ H Q I h
  refine wpAny_Call_Name_kw (ld_glob I hg T.gC ?_)
  refine PySem.W.callWith_K (h₀ := X.base) I.ok.mod.kin T.kC (thn (ha.run pos pins s σ H _ I h) fun us s1 hh => ?_) he hpl
  obtain ⟨vs, H1, I1, r1, v, ev, q1⟩ := hh
  subst ev
  refine ⟨I1.kIn, ?_⟩
  cases r1 with
  | cons rv rn =>
    rename_i v' us'
    cases rn
    show wpAny _ _ (call (.ref C) [v']) _ _ _
    have hlim := I1.nolimit
    have hG := I1.mod.glob.keeps I1.bk
    obtain ⟨mb, hB, hb⟩ := I1.mod.blt
    have hB := hB.keeps I1.bk
    have hs : mb "super" = some (.type "super") := (hb "super" (by decide)).trans (by decide +kernel)
    obtain ⟨hp, g, dr, tk, os⟩ := s1
    refine wpAny_call (Hdx.inv_made T I1.kIn hlim hG hB hs (by have := hr.dp; omega) fun h' tk' e d M => ?_)
    show MkP X pins σ Q (.ref e) ⟨h', g, dr, tk', os⟩
    obtain ⟨oe, fv, hoe, hc, hd, hdat, h1⟩ := M.obj
    have hns := M.ns
    obtain ⟨G', g1, g2⟩ := restrict h' fun b => decide (b ≠ e)
    have gk : ∀ b, b ≠ e → G'.get? b = h'.get? b := fun b hb => g1 b (decide_eq_true hb)
    have ge : G'.get? e = none := g2 e (by simp)
    have old : ∀ b o, hp.get? b = some o → G'.get? b = some o := fun b o q => (gk b (Nat.ne_of_lt (Nat.lt_of_lt_of_le (Heap.lt_size q) M.new))).trans (M.keep b o q)
    have ob : ObjOk X.prog X.w (L2.upd H1 d (.xd [(("word" : PySem.Str), v)])) G' d (.xd [(("word" : PySem.Str), v)]) :=
      ⟨_, hns.at (fun o q => (gk d M.dne).trans q), fun f => relO_word rv f⟩
    have J : Inv X pins σ (L2.upd H1 d (.xd [(("word" : PySem.Str), v)])) ⟨G', g, dr, tk', os⟩ := I1.laid (t' := tk') old M.dbig ob
    refine ⟨e, oe, fv, ⟨G', g, dr, tk', os⟩, _, .ref C, some d, rfl, J, fun b o q => ?_, ge, hoe, ⟨hc, hd⟩, hdat, h1, ?_, rfl, I1.bare, raises_own T.exC T.tyC, q1 d (I1.hok.fresh M.dbig)⟩
    · by_cases hb : b = e
      · have q' : G'.get? b = some o := q
        rw [hb, ge] at q'; cases q'
      · exact (gk b hb).symm.trans q
    · rw [upd_ne (Ne.symm M.dne)]
      exact I1.hok.fresh M.new
/-- raise InvalidLine(e) -/
def tRaiseInv (C : Addr) (W : WX) (ta : TA) : TS := fun _ σ H => tMkInv C ta σ H fun cls d H' => W cls d σ H'
theorem ps_raiseInv {a : Expr} {ta : TA} {W : WX} {p pos pos2 : Pos} {k : Nat} (hc : X.calm = true) (T : Hdx.InvTxt X.prog X.K X.mg C fI) (hr : Room k X.A) (tk : Takes X W) (ha : PA X [a] ta) (hg : Gl X "InvalidLine" := by rfl)
    (he : starEach (a :: []) X.env = (false, eval a X.env) :: starEach [] X.env := by rfl) (hpl : (backTo pos (starEach [] X.env)).any (·.1) = false := by rfl) :
    PS X (.Raise (some (.Call (.Name "InvalidLine" p) [a] [] pos)) none pos2) (tRaiseInv C W ta) := ps_raise hc tk (pmk_inv T hr ha hg he hpl)
/-- X(), an own class over own classes over a built-in one, none with its own __init__ -/
theorem pmk_own0 {C : Addr} {bmB : List Value} {B newId initId : String} {x : PySem.Str} {p pos : Pos} (F : ExcBaseFacts B newId initId bmB) (q : PySem.W.excIn X.K C bmB newId = true) (gC : X.mg x = some (.ref C))
    (kC : PySem.W.keepIn X.K (.ref C) = true) (r : Raises X (.ref C)) (hg : Gl X x) (hdb : (x == ("__debug__" : PySem.Str)) = false := by decide) : PMk X (.Call (.Name x p) [] [] pos) (fun σ H Q => Q (.ref C) none H) := by
  intro pins s σ H Q I h
  refine wpAny_Call_Name_kw (ld_glob I hg gC ?_ hdb)
  refine PySem.W.callWith_K0 I.kIn kC ?_
  show wpAny _ _ (call (.ref C) []) _ _ _
  obtain ⟨bm, N, nm, qn, bs, hdct, sn, sub, ab, col, dd, k0, k1, k2, k3, k5, mN, hC, hN, hni, T⟩ := exc_obj I.kIn q
  refine wpAny_call_exc_subT F T hC hN hni (fun h' e hm => ?_) (Nat.zero_le _)
  exact mk_of I hm r h (I.hok.gone hm.new)
end
end Hd
set_option Elab.async false
set_option linter.all false
set_option maxRecDepth 100000
set_option maxHeartbeats 4000000
/-! Handons: what the law makes of an exception. -/
namespace Hd
open PySem PySem.Spec PyProof.Rows L2
/-- isinstance(e, c), e the exception that the suite holds, with a dict or without -/
def rIsG (K : PySem.W.Frag) (a : Addr) (cls : Value) (d : Option Addr) : List V → Hp → VK → Prop := fun xs H Q => ∃ (c : V) (cv : Value) (b : Bool) (D : Addr), xs = [.ref a, c] ∧ cls = .ref D ∧ ExcC K D ∧ (d = none ∨ ∃ dd fs, d = some dd ∧ H dd = some (.xd fs)) ∧
  (∀ u, L2.RelV c u → u = cv) ∧ PySem.W.kitOne K (.ref D) cv = some b ∧ Q (.bl b) H
theorem call_isG {X : Cx} {a : Addr} {oe : Obj} {cls : Value} {d : Option Addr} {pn : List (Addr × Obj)} (hz : Zc cls d oe) (hf : ∃ vs, oe.data = .fields vs) : CallR (X.suite a ((a, oe) :: pn)) (.builtin "isinstance") (rIsG X.K a cls d) := by
  intro pins s σ H xs us Q I r h
  obtain ⟨c, cv, b, D, rfl, rfl, C, hd, hcv, e, q⟩ := h
  obtain ⟨u1, u2, rfl, r1, r2⟩ := vals2 r
  cases (show u1 = Value.ref a from r1)
  have ec := hcv _ r2
  subst ec
  obtain ⟨hget, _⟩ := I.pin (a, oe) (List.mem_append.mpr (.inl List.mem_cons_self))
  obtain ⟨vs, hv⟩ := hf
  have hno : PySem.W.notCls oe = true := by unfold PySem.W.notCls; rw [hv] <;> rfl
  have hcl : (PySem.W.clsIn X.K D).isSome = true := by
    obtain ⟨cd, hc, _⟩ := PySem.W.any_some C.hd
    rw [hc]
    rfl
  obtain ⟨od, J⟩ : ∃ od, PySem.W.InstAt s.heap a oe D od := by
    rcases hd with rfl | ⟨dd, fs, rfl, hx⟩
    · exact ⟨none, hget, hz.1, hno, by rw [hz.2]; trivial⟩
    · have ob : ObjOk X.prog X.w H s.heap dd (.xd fs) := I.hok dd _ hx
      obtain ⟨mA, hns, _⟩ := ob
      obtain ⟨od, ho, _⟩ := lookIn_ns hns
      exact ⟨some od, hget, hz.1, hno, by rw [hz.2]; exact ho⟩
  exact PySem.W.kia_one (PySem.W.kitx_exc hcl C.hg C.hk C.hs C.ha C.hn C.ht C.hm) I.kIn J e (fun z => nomatch z) fun tk => ⟨.bl b, H, I.kept (t' := tk) fun _ _ z => z, rfl, q⟩
/-! ### the law's errors -/
structure Ers where
  u : Addr
  r : Addr
  t : Addr
  i : Addr
/-- an error, by its class, its dict and the heap, and how the law names it -/
inductive ErrIs (c : Ers) : Value → Option Addr → Hp → PySem.Str → Prop
  | undo {H : Hp} : ErrIs c (.ref c.u) none H "undo!"
  | redo {H : Hp} : ErrIs c (.ref c.r) none H "redo!"
  | text {H : Hp} : ErrIs c (.ref c.t) none H "text!"
  | line {H : Hp} {d : Addr} {k : Int} (h : H d = some (.xd [(("word" : PySem.Str), .int k)])) (h0 : 0 ≤ k) (h1 : k < 10) : ErrIs c (.ref c.i) (some d) H (("line!" : PySem.Str) ++ sI k)
/-- what the written part says of the four classes and of HandError -/
structure ErrTxt (K : PySem.W.Frag) (mg : PySem.Str → Option Value) (c : Ers) (hE : Addr) : Prop where
  gE : mg "HandError" = some (.ref hE)
  gu : mg "NothingToUndo" = some (.ref c.u)
  gr : mg "NothingToRedo" = some (.ref c.r)
  gt : mg "NotText" = some (.ref c.t)
  gi : mg "InvalidLine" = some (.ref c.i)
  mu : PySem.W.exmOne K (.ref c.u) (.ref hE) = some true
  mr : PySem.W.exmOne K (.ref c.r) (.ref hE) = some true
  mt : PySem.W.exmOne K (.ref c.t) (.ref hE) = some true
  mi : PySem.W.exmOne K (.ref c.i) (.ref hE) = some true
  cu : ExcC K c.u
  cr : ExcC K c.r
  ct : ExcC K c.t
  ci : ExcC K c.i
  uu : PySem.W.kitOne K (.ref c.u) (.ref c.u) = some true
  ur : PySem.W.kitOne K (.ref c.u) (.ref c.r) = some false
  ut : PySem.W.kitOne K (.ref c.u) (.ref c.t) = some false
  ui : PySem.W.kitOne K (.ref c.u) (.ref c.i) = some false
  ru : PySem.W.kitOne K (.ref c.r) (.ref c.u) = some false
  rr : PySem.W.kitOne K (.ref c.r) (.ref c.r) = some true
  rt : PySem.W.kitOne K (.ref c.r) (.ref c.t) = some false
  ri : PySem.W.kitOne K (.ref c.r) (.ref c.i) = some false
  tu : PySem.W.kitOne K (.ref c.t) (.ref c.u) = some false
  tr : PySem.W.kitOne K (.ref c.t) (.ref c.r) = some false
  tt : PySem.W.kitOne K (.ref c.t) (.ref c.t) = some true
  ti : PySem.W.kitOne K (.ref c.t) (.ref c.i) = some false
  iu : PySem.W.kitOne K (.ref c.i) (.ref c.u) = some false
  ir : PySem.W.kitOne K (.ref c.i) (.ref c.r) = some false
  it : PySem.W.kitOne K (.ref c.i) (.ref c.t) = some false
  ii : PySem.W.kitOne K (.ref c.i) (.ref c.i) = some true
  xi : XfC K c.i
  no : PySem.W.findIn K (.ref c.i) "word" = some none
/-- what becomes of a lambda's reading: its answer, or the error's name -/
def TRs (c : Ers) : (XK → Hp → VK → Prop) → Hp → VK → Prop := fun tl H Q => tl (fun cls d H' => ∃ out, ErrIs c cls d H' out ∧ ∀ H2, Same H' H2 → Q (.str out) H2) H Q
section
variable {K : PySem.W.Frag} {mg : PySem.Str → Option Value} {c : Ers} {hE : Addr}
/-- the four answers of isinstance -/
structure Four (K : PySem.W.Frag) (c : Ers) (D : Addr) (b1 b2 b3 b4 : Bool) : Prop where
  ex : ExcC K D
  h1 : PySem.W.kitOne K (.ref D) (.ref c.u) = some b1
  h2 : PySem.W.kitOne K (.ref D) (.ref c.r) = some b2
  h3 : PySem.W.kitOne K (.ref D) (.ref c.t) = some b3
  h4 : PySem.W.kitOne K (.ref D) (.ref c.i) = some b4
theorem ref_rel {x : Addr} (u : Value) (r : L2.RelV (.ref x) u) : u = .ref x := r
/-- the suite's reading, of one error -/
theorem suite_reads {a D : Addr} {y0 y2 : Option V} {cls : Value} {d : Option Addr} {b1 b2 b3 b4 : Bool} {j : Nat} {nm : PySem.Str} {H : Hp} {D' : Ends} {Q : VK} (F : Four K c D b1 b2 b3 b4) (ec : cls = .ref D) (hd : d = none ∨ ∃ dd fs, d = some dd ∧ H dd = some (.xd fs))
    (hc : ([b1, b2, b3, b4].count true) = 1) (hj : [b1, b2, b3, b4][j]? = some true) (hb : ∀ m, m < j → [b1, b2, b3, b4][m]? = some false) (hn : ([("undo!" : PySem.Str), "redo!", "text!", "line!"])[j]? = some nm) (hl : nm.length ≤ 100) (tx : TE) (rest : PySem.Str) (hr : rest.length ≤ 100)
    (ht : ∀ H1, Same H H1 → ∀ σ : L2.St, σ[1]? = some (some (.ref a)) → ∀ Q : VK, Q (.str rest) H1 → (b4 = true → tx σ H1 Q) ∧ (b4 = false → rest = "")) (q : ∀ H1, Same H H1 → Q (.str (nm ++ rest)) H1) (hrt : D'.rt = Q) :
    tSeq (tAsg (tLst (tCons (tCB (rIsG K a cls d) (tCons (tVar 1) (tCons (tC (.ref c.u)) tNil))) (tCons (tCB (rIsG K a cls d) (tCons (tVar 1) (tCons (tC (.ref c.r)) tNil))) (tCons (tCB (rIsG K a cls d) (tCons (tVar 1) (tCons (tC (.ref c.t)) tNil))) tNil)))) (gName 2))
      (tSeq (tAsg (tOp rCat (tVar 2) (tLst (tCons (tCB (rIsG K a cls d) (tCons (tVar 1) (tCons (tC (.ref c.i)) tNil))) tNil))) (gName 2))
      (tSeq (tIfS (tTest (tOp rNe (tBM K "list" (rCntB K) (tVar 2) (tCons (tC (.bl true)) tNil)) (tC (.int 1)))) (tRet (tC (.str "other"))) tNext)
      (tRet (tOp (fun x y H Q => ∃ i j, x = .str i ∧ y = .str j ∧ i.length + j.length ≤ sizeLine ∧ Q (.str (i ++ j)) H) (tOp (rIxL K) (tLst (tCons (tC (.str "undo!")) (tCons (tC (.str "redo!")) (tCons (tC (.str "text!")) (tCons (tC (.str "line!")) tNil))))) (tBM K "list" (rIndex K) (tVar 2) (tCons (tC (.bl true)) tNil)))
        (tIf (tB (tOp (rIxL K) (tVar 2) (tC (.int 3)))) tx (tC (.str ""))))))) D' [y0, some (.ref a), y2] H := by
  subst ec
  refine ⟨_, rfl, _, _, b1, D, rfl, rfl, F.ex, hd, ref_rel, F.h1, _, rfl, _, _, b2, D, rfl, rfl, F.ex, hd, ref_rel, F.h2, _, rfl, _, _, b3, D, rfl, rfl, F.ex, hd, ref_rel, F.h3, Nat.le_of_ble_eq_true rfl, fun p hp => ?_⟩
  have e1 := same_new (o := .lst [.bl b1, .bl b2, .bl b3]) hp
  have hd1 : d = none ∨ ∃ dd fs, d = some dd ∧ (L2.upd H p (.lst [.bl b1, .bl b2, .bl b3])) dd = some (.xd fs) := by
    rcases hd with z | ⟨dd, fs, z, y⟩
    · exact .inl z
    · exact .inr ⟨dd, fs, z, e1 _ _ y⟩
  refine ⟨_, rfl, _, rfl, _, _, b4, D, rfl, rfl, F.ex, hd1, ref_rel, F.h4, Nat.le_of_ble_eq_true rfl, fun p2 hp2 => ?_⟩
  have e2 := same_new (o := .lst [.bl b4]) hp2
  refine ⟨p, p2, _, _, rfl, rfl, e2 _ _ upd_same, upd_same, Nat.le_of_ble_eq_true rfl, fun p3 hp3 => ?_⟩
  have e3 := same_new (o := .lst ([.bl b1, .bl b2, .bl b3] ++ [.bl b4])) hp3
  have eT := e1.trans (e2.trans e3)
  have hp3' : (L2.upd (L2.upd (L2.upd H p (.lst [.bl b1, .bl b2, .bl b3])) p2 (.lst [.bl b4])) p3 (.lst ([.bl b1, .bl b2, .bl b3] ++ [.bl b4]))) p3 = some (.lst [.bl b1, .bl b2, .bl b3, .bl b4]) := upd_same
  show tSeq _ _ _ _ (L2.upd (L2.upd (L2.upd H p (.lst [.bl b1, .bl b2, .bl b3])) p2 (.lst [.bl b4])) p3 (.lst ([.bl b1, .bl b2, .bl b3] ++ [.bl b4])))
  generalize L2.upd (L2.upd (L2.upd H p (.lst [.bl b1, .bl b2, .bl b3])) p2 (.lst [.bl b4])) p3 (.lst ([.bl b1, .bl b2, .bl b3] ++ [.bl b4])) = G at *
  refine ⟨_, rfl, .inl ⟨rfl, _, SqL.of hp3'⟩, p3, [b1, b2, b3, b4], true, rfl, rfl, SqL.of hp3', rfl, _, rfl, ?_⟩
  rw [hc]
  refine iteNS (by rfl) ?_
  refine ⟨Nat.le_of_ble_eq_true rfl, fun p4 hp4 => ?_⟩
  have e4 := same_new (o := .lst [.str "undo!", .str "redo!", .str "text!", .str "line!"]) hp4
  have hp34 := e4 _ _ hp3'
  have hG : ∀ l : List Bool, ∀ m : Nat, (l.map V.bl)[m]? = l[m]?.map V.bl := fun l m => List.getElem?_map ..
  refine ⟨_, rfl, .inl ⟨rfl, _, SqL.of hp34⟩, p3, [b1, b2, b3, b4].map V.bl, .bl true, j, .bl true, rfl, rfl, SqL.of hp34, rfl, rfl, ?_, rfl, fun m z' hm hz => ?_, p4, ([("undo!" : PySem.Str), "redo!", "text!", "line!"]).map V.str, (j : Int), .str nm, rfl, rfl, SqL.of upd_same, atI_nat ?_, ?_⟩
  · rw [hG, hj]; rfl
  · rw [hG, hb m hm] at hz
    cases hz
    rfl
  · rw [List.getElem?_map, hn]; rfl
  refine ⟨_, rfl, p3, _, 3, .bl b4, rfl, rfl, SqL.of hp34, rfl, b4, rfl, ?_⟩
  have fin : ∀ H1, Same H H1 → ∃ i j, V.str nm = .str i ∧ V.str rest = .str j ∧ i.length + j.length ≤ sizeLine ∧ D'.rt (.str (i ++ j)) H1 := fun H1 e => ⟨nm, rest, rfl, rfl, Nat.le_trans (Nat.add_le_add hl hr) (by decide), by rw [hrt]; exact q H1 e⟩
  have eG := eT.trans e4
  have t2 := ht _ eG [y0, some (.ref a), some (.ref p3)] rfl (fun y H3 => ∃ i j, V.str nm = .str i ∧ y = .str j ∧ i.length + j.length ≤ sizeLine ∧ D'.rt (.str (i ++ j)) H3) (fin _ eG)
  cases b4 with
  | true => exact t2.1 rfl
  | false =>
    have e0 := t2.2 rfl
    rw [e0] at fin
    exact fin _ eG
end
end Hd
set_option Elab.async false
set_option linter.all false
set_option maxRecDepth 100000
set_option maxHeartbeats 4000000
/-! Handons: _law_desk_raises. -/
namespace Hd
open PySem PySem.Spec PyProof.Rows L2
theorem sc48 : FnScope ["_law_work", "error", "_law_known"] ["_law_work"] (defScope (top 48)) := ⟨rfl, rfl, rfl, by decide +kernel, rfl, by decide +kernel, by decide +kernel⟩
theorem takes_len {X : Cx} {W : WX} (tk : Takes X W) : Takes X fun cls d σ H => σ.length = X.N.length → W cls d σ H := fun u s' xx => tk u s' (by
  obtain ⟨a, B, sI, pins', σ', H', cls, d, e1, J, e3, e4, e5, e6, e7, e8, w⟩ := xx
  exact ⟨a, B, sI, pins', σ', H', cls, d, e1, J, e3, e4, e5, e6, e7, e8, w J.len⟩)
theorem raises_gives {X : Cx} {q : PySem.Str} {c : Ers} {hE g : Addr} {cdg : Value} (T : Fre X.mg) (Y : ErrTxt X.K X.mg c hE) : LamX.GivesTo X ["_law_work", "error", "_law_known"] "_law_desk_raises" (defScope (top 48)) g cdg (defBody (top 48)) "_law_work" q (TRs c) := by
  intro f c' s H Q tl act hc h
  have nd := sc48.nd
  refine ⟨_, pss_one (ps_try_as (i := 1) (X := (cxOf C8.CX0 X.prog X.w X.K X.mg X.base ["_law_work", "error", "_law_known"] "_law_desk_raises" (defScope (top 48)) g cdg X.A X.stack s H C8.E0).nox) (c := .ref hE)
    (tb := fun W D σ H => ∃ Ech : XK, (∀ cls d (σ' : L2.St) H', Ech cls d H' → σ'.length = 3 → W cls d σ' H') ∧ σ[0]? = some (some (.ref f)) ∧ H c' = some (LamX.CodeO c' q) ∧ tl Ech H D.rt)
    (ts := fun a cls d => tSeq (tAsg (tLst (tCons (tCB (rIsG X.K a cls d) (tCons (tVar 1) (tCons (tC (.ref c.u)) tNil))) (tCons (tCB (rIsG X.K a cls d) (tCons (tVar 1) (tCons (tC (.ref c.r)) tNil))) (tCons (tCB (rIsG X.K a cls d) (tCons (tVar 1) (tCons (tC (.ref c.t)) tNil))) tNil)))) (gName 2))
      (tSeq (tAsg (tOp rCat (tVar 2) (tLst (tCons (tCB (rIsG X.K a cls d) (tCons (tVar 1) (tCons (tC (.ref c.i)) tNil))) tNil))) (gName 2))
      (tSeq (tIfS (tTest (tOp rNe (tBM X.K "list" (rCntB X.K) (tVar 2) (tCons (tC (.bl true)) tNil)) (tC (.int 1)))) (tRet (tC (.str "other"))) tNext)
      (tRet (tOp (fun x y H Q => ∃ i j, x = .str i ∧ y = .str j ∧ i.length + j.length ≤ sizeLine ∧ Q (.str (i ++ j)) H) (tOp (rIxL X.K) (tLst (tCons (tC (.str "undo!")) (tCons (tC (.str "redo!")) (tCons (tC (.str "text!")) (tCons (tC (.str "line!")) tNil))))) (tBM X.K "list" (rIndex X.K) (tVar 2) (tCons (tC (.bl true)) tNil)))
        (tIf (tB (tOp (rIxL X.K) (tVar 2) (tC (.int 3)))) (tCB (fun xs H Q => ∃ i, xs = [.int i] ∧ i.natAbs.log2 < 1920 ∧ Q (.str (toString i)) H) (tCons (tXf a cls d c.i "word" (tVar 1)) tNil)) (tC (.str ""))))))))
    rfl rfl nd rfl rfl ⟨rfl, by decide, .inl Y.gE⟩ LamX.takes0 (fun W pn xe tk _ => ?_) (fun a oe cls d pn hz hf => ?_)), ?_⟩
  · refine ⟨fun pins s' σ H' D I h' => ?_⟩
    obtain ⟨Ech, hW, h1, h2, h3⟩ := h'
    exact (pss_one (ps_ret (act _ pn xe Ech _ _ (takes_len tk) hW))).run pins s' σ H' D I ⟨h1, h2, h3⟩
  · exact (pss_cons (ps_set (i := 2) nd rfl (.inl rfl) (pe_lst (pa_cons (pe_callB (call_isG hz hf) (by rfl) T.f_isinstance (by decide +kernel) (pa_cons (pv 1) (pa_cons (pe_glob rfl Y.gu rfl) pa_nil))) (pa_cons (pe_callB (call_isG hz hf) (by rfl) T.f_isinstance (by decide +kernel) (pa_cons (pv 1) (pa_cons (pe_glob rfl Y.gr rfl) pa_nil))) (pa_cons (pe_callB (call_isG hz hf) (by rfl) T.f_isinstance (by decide +kernel) (pa_cons (pv 1) (pa_cons (pe_glob rfl Y.gt rfl) pa_nil))) pa_nil)))))
      (pss_cons (ps_set (i := 2) nd rfl (.inl rfl) (pe_op op_cat (pv 2) (pe_lst (pa_cons (pe_callB (call_isG hz hf) (by rfl) T.f_isinstance (by decide +kernel) (pa_cons (pv 1) (pa_cons (pe_glob rfl Y.gi rfl) pa_nil))) pa_nil))))
      (pss_cons (ps_if (pt_cmpR op_ne (pe_bm PySem.F.plainAttrs_list PySem.F.slot_list_count PySem.F.type_list_count mt_cntB (pv 2) (pa_cons pe_bl pa_nil)) pe_int (nomark _))
        (pss_one (ps_ret pe_str))
        pss_nil)
      (pss_one (ps_ret (pe_op op_add_str (pe_ix ix_list (pe_lst (pa_cons pe_str (pa_cons pe_str (pa_cons pe_str (pa_cons pe_str pa_nil))))) (pe_bm PySem.F.plainAttrs_list PySem.F.slot_list_index PySem.F.type_list_index mt_index (pv 2) (pa_cons pe_bl pa_nil)) (fun _ _ => rfl)) (pe_ifExp (pt_val (pe_ix ix_list (pv 2) pe_int (fun _ _ => rfl))) (pe_callTy call_str_int (by rfl) T.f_str (by decide +kernel) (pa_cons (pe_xf Y.xi Y.no hz hf (pv 1)) pa_nil)) pe_str)))))))
  · have l0 : ("" : PySem.Str).length ≤ 100 := by decide +kernel
    have au : ("undo!" : PySem.Str) ++ ("" : PySem.Str) = "undo!" := by decide +kernel
    have ar : ("redo!" : PySem.Str) ++ ("" : PySem.Str) = "redo!" := by decide +kernel
    have at' : ("text!" : PySem.Str) ++ ("" : PySem.Str) = "text!" := by decide +kernel
    refine ⟨fun cls d H' => ∃ out, ErrIs c cls d H' out ∧ ∀ H2, Same H' H2 → Q (.str out) H2, fun cls d σ' H' ⟨out, he, hq⟩ hlen => ?_, rfl, hc, h⟩
    obtain ⟨y0, y1, y2, rfl⟩ : ∃ y0 y1 y2, σ' = [y0, y1, y2] := by
      cases σ' with
      | nil => cases hlen
      | cons y0 σ' =>
        cases σ' with
        | nil => cases hlen
        | cons y1 σ' =>
          cases σ' with
          | nil => cases hlen
          | cons y2 σ' =>
            cases σ' with
            | nil => exact ⟨_, _, _, rfl⟩
            | cons y3 σ' => simp at hlen
    have nt : ∀ (a : Addr) (H1 : Hp), Same H' H1 → ∀ σ : L2.St, σ[1]? = some (some (.ref a)) → ∀ Q : VK, Q (.str "") H1 → (false = true → tCB (fun xs H Q => ∃ i, xs = [.int i] ∧ i.natAbs.log2 < 1920 ∧ Q (.str (toString i)) H) (tCons (tXf a cls d c.i "word" (tVar 1)) tNil) σ H1 Q) ∧ (false = false → ("" : PySem.Str) = "") := fun _ _ _ _ _ _ _ => ⟨fun z => (nomatch z), fun _ => rfl⟩
    cases he with
    | undo => exact ⟨true, Y.mu, fun _ a ha => suite_reads (j := 0) (nm := "undo!") ⟨Y.cu, Y.uu, Y.ur, Y.ut, Y.ui⟩ rfl (.inl rfl) rfl rfl (fun m hm => absurd hm (by omega)) rfl (by decide +kernel) _ "" l0 (nt a) (fun H1 e => by rw [au]; exact hq H1 e) rfl, fun z => nomatch z⟩
    | redo => exact ⟨true, Y.mr, fun _ a ha => suite_reads (j := 1) (nm := "redo!") ⟨Y.cr, Y.ru, Y.rr, Y.rt, Y.ri⟩ rfl (.inl rfl) rfl rfl (fun m hm => by obtain rfl : m = 0 := by omega
                                                                                                                                                          rfl) rfl (by decide +kernel) _ "" l0 (nt a) (fun H1 e => by rw [ar]; exact hq H1 e) rfl, fun z => nomatch z⟩
    | text => exact ⟨true, Y.mt, fun _ a ha => suite_reads (j := 2) (nm := "text!") ⟨Y.ct, Y.tu, Y.tr, Y.tt, Y.ti⟩ rfl (.inl rfl) rfl rfl (fun m hm => by
        have : m = 0 ∨ m = 1 := by omega
        rcases this with rfl | rfl <;> rfl) rfl (by decide +kernel) _ "" l0 (nt a) (fun H1 e => by rw [at']; exact hq H1 e) rfl, fun z => nomatch z⟩
    | @line _ dd k h h0 h1 =>
      refine ⟨true, Y.mi, fun _ a ha => suite_reads (j := 3) (nm := "line!") ⟨Y.ci, Y.iu, Y.ir, Y.it, Y.ii⟩ rfl (.inr ⟨dd, _, rfl, h⟩) rfl rfl (fun m hm => by
        have : m = 0 ∨ m = 1 ∨ m = 2 := by omega
        rcases this with rfl | rfl | rfl <;> rfl) rfl (by decide +kernel) _ (sI k) (by rw [sI_len h0 h1]; decide) (fun H1 e σ hs Q q => ⟨fun _ => ?_, fun z => (nomatch z)⟩) hq rfl, fun z => nomatch z⟩
      exact ⟨_, hs, rfl, rfl, dd, _, .int k, rfl, e _ _ h, by simp [List.lookup], k, rfl, small_log h0 (by omega), q⟩
end Hd
set_option Elab.async false
set_option linter.all false
set_option maxRecDepth 100000
set_option maxHeartbeats 4000000
/-! Handons: the desk, its fields. -/
namespace Hd
open PySem PySem.Spec PyProof.Rows L2
/-! ### (o.f, ..) = .. -/
def gFld (K : PySem.W.Frag) (ta : TE) (f : PySem.Str) : TG := fun v σ H Q => ta σ H fun x H1 => ∃ a C dx fs, x = .ref a ∧ H1 a = some (.ins C dx fs) ∧ Cls K C ∧ NoAttr K C f ∧ fs.length < 1000 ∧ Q σ (L2.upd H1 a (.ins C dx (putF f v fs)))
theorem pg_fld {X : Cx} {o : Expr} {f : PySem.Str} {pos : Pos} {ta : TE} (ho : PE X o ta) : PG X (.Attribute o f pos) (gFld X.K ta f) := by
  refine ⟨fun pins s σ H v u Q I r h => ?_⟩
  rw [assign_Attribute]
  refine wpAny_bind (wpAny_holding (thn (ho.run pins s σ H _ I h) fun ov s1 ⟨x, H1, I1, rx, a, C, dx, fs, ex, ea, c, n, l, q⟩ => ?_))
  subst ex
  obtain rfl : ov = Value.ref a := rx
  refine wpAny_bind (wpAny_standAt (wpAny_bind (wpAny_holding ?_)))
  exact setattr_ok I1 ea c n l r fun s2 I2 => wpAny_release ⟨σ, _, I2, q⟩
/-! ### the desk -/
def dF (vw vg vn : V) (lp lf : Addr) : List (PySem.Str × V) := [("web", vw), ("goal", vg), ("now", vn), ("past", .ref lp), ("future", .ref lf)]
theorem dF_web {vw vg vn : V} {lp lf : Addr} : (dF vw vg vn lp lf).lookup ("web" : PySem.Str) = some vw := by rfl
theorem dF_goal {vw vg vn : V} {lp lf : Addr} : (dF vw vg vn lp lf).lookup ("goal" : PySem.Str) = some vg := by rfl
theorem dF_now {vw vg vn : V} {lp lf : Addr} : (dF vw vg vn lp lf).lookup ("now" : PySem.Str) = some vn := by rfl
theorem dF_past {vw vg vn : V} {lp lf : Addr} : (dF vw vg vn lp lf).lookup ("past" : PySem.Str) = some (.ref lp) := by rfl
theorem dF_future {vw vg vn : V} {lp lf : Addr} : (dF vw vg vn lp lf).lookup ("future" : PySem.Str) = some (.ref lf) := by rfl
theorem dF_put_now {vw vg vn v : V} {lp lf : Addr} : putF "now" v (dF vw vg vn lp lf) = dF vw vg v lp lf := by rfl
theorem dF_put_future {vw vg vn : V} {lp lf l : Addr} : putF "future" (.ref l) (dF vw vg vn lp lf) = dF vw vg vn lp l := by rfl
theorem dF_init {vw vg vn : V} {lp lf : Addr} : putF "future" (.ref lf) (putF "past" (.ref lp) (putF "now" vn (putF "goal" vg (putF "web" vw [])))) = dF vw vg vn lp lf := by rfl
/-- one of the law's errors that is made without a word -/
structure OwnX (K : PySem.W.Frag) (mg : PySem.Str → Option Value) (x : PySem.Str) (C : Addr) : Prop where
  g : mg x = some (.ref C)
  q : PySem.W.excIn K C [.type "ValueError", .type "Exception", .type "BaseException", .type "object"] "ValueError.__new__" = true
  kp : PySem.W.keepIn K (.ref C) = true
  b : PySem.W.subIn K (.ref C) (.type "BaseException") = some true
  t : PySem.W.typeIn K (.ref C) = some (.type "type")
abbrev sD (i : Nat) : Stmt := inClass (top 41) i
/-- a method that keeps a promise -/
def CalM (P : Program) (w : World) (K : PySem.W.Frag) (mg : PySem.Str → Option Value) (base : Heap) (C : Addr) (CX : CXT) (k : Nat) (m : PySem.Str) (ps : List PySem.Str) (sp : Sp) : Prop :=
  ∃ f fd, FnOk P w K mg base CX k f fd ps sp ∧ Meth K C m f ∧ L2.Binds K fd ps []
theorem CalM.call {X : Cx} {C : Addr} {CX : CXT} {k j : Nat} {m : PySem.Str} {ps : List PySem.Str} {sp : Sp} {E : XK} {o e : Expr} {es : List Expr} {ta : TE} {t : TA} {apos pos : Pos} {pl : Sem Bool} (M : CalM X.prog X.w X.K X.mg X.base C CX k m ps sp) (hr : Room j X.A) (he : PE X o ta) (c : Cls X.K C)
    (ha : PA X (e :: es) t) (hx : Passes CX X E) (hk : k ≤ j := by decide) (hst : starEach (e :: es) X.env = (false, eval e X.env) :: starEach es X.env := by rfl) (hpl : (backTo pos (starEach es X.env)).any (·.1) = false := by rfl)
    (ht : eval (.Call (.Attribute o m apos) (e :: es) [] pos) X.env = (do
      let ov ← eval o X.env
      standAt apos.atName
      let (f, first) ← holding [ov] (getMethod ov m pl)
      callWith pos f first (backTo pos (starEach (e :: es) X.env)) (backToKw pos (keywordEach [] X.env))) := by rfl) :
    PE X (.Call (.Attribute o m apos) (e :: es) [] pos) (tMeth C m sp [] E ta t) := by
  obtain ⟨f, fd, F, hm, b⟩ := M
  exact pe_meth he c hm F (hr.mono hk) b .nil hx ha hst hpl ht
theorem CalM.call0 {X : Cx} {C : Addr} {CX : CXT} {k j : Nat} {m : PySem.Str} {ps : List PySem.Str} {sp : Sp} {E : XK} {o : Expr} {ta : TE} {apos pos : Pos} {pl : Sem Bool} (M : CalM X.prog X.w X.K X.mg X.base C CX k m ps sp) (hr : Room j X.A) (he : PE X o ta) (c : Cls X.K C) (hx : Passes CX X E) (hk : k ≤ j := by decide)
    (ht : eval (.Call (.Attribute o m apos) [] [] pos) X.env = (do
      let ov ← eval o X.env
      standAt apos.atName
      let (f, first) ← holding [ov] (getMethod ov m pl)
      callWith pos f first (backTo pos (starEach [] X.env)) (backToKw pos (keywordEach [] X.env))) := by rfl) :
    PE X (.Call (.Attribute o m apos) [] [] pos) (tMeth C m sp [] E ta tNil) := by
  obtain ⟨f, fd, F, hm, b⟩ := M
  exact pe_meth0 he c hm F (hr.mono hk) b .nil hx ht
structure DeskTxt (K : PySem.W.Frag) (C : Addr) : Prop where
  cl : Cls K C
  nW : NoAttr K C "web"
  nG : NoAttr K C "goal"
  nN : NoAttr K C "now"
  nP : NoAttr K C "past"
  nF : NoAttr K C "future"
/-- a desk's state -/
structure Dsk where
  n : Nat
  A : List (Int × Int)
  g : List Int
  b : List Int
  past : List (List Int × PySem.Str)
  future : List (List Int × PySem.Str)
abbrev stD (q : List Int × PySem.Str) : PyData := .tuple [tI q.1, .str q.2]
theorem imm_st (l : List (List Int × PySem.Str)) : imm.immAll (l.map stD) = true := imm_all fun d hd => by
  obtain ⟨q, _, rfl⟩ := List.mem_map.mp hd
  simp only [imm, imm.immAll, Bool.true_and, Bool.and_true]
  exact imm_ints _
theorem imm_web (n : Nat) (A : List (Int × Int)) : imm (webD n A) = true := by
  simp only [imm, imm.immAll, Bool.true_and, Bool.and_true]
  exact imm_all fun d hd => by
    obtain ⟨p, _, rfl⟩ := List.mem_map.mp hd
    rfl
structure DeskAt (K : PySem.W.Frag) (H : Hp) (C p lp lf : Addr) (s : Dsk) : Prop where
  ex : ∃ dx vw vg vn xs ys, H p = some (.ins C dx (dF vw vg vn lp lf)) ∧ At K H vw (webD s.n s.A) ∧ At K H vg (tI s.g) ∧ At K H vn (tI s.b) ∧ H lp = some (.lst xs) ∧ Ats K H xs (s.past.map stD) ∧ H lf = some (.lst ys) ∧ Ats K H ys (s.future.map stD) ∧ lp ≠ lf
def DOk (s : Dsk) : Prop := Wb s.n s.A ∧ St s.n s.g ∧ St s.n s.b
/-- all but the desk and its two lists is as it was -/
def FrD (p lp lf : Addr) (H H' : Hp) : Prop := ∀ b o, b ≠ p → b ≠ lp → b ≠ lf → H b = some o → H' b = some o
theorem DeskAt.mono {K : PySem.W.Frag} {H H' : Hp} {C p lp lf : Addr} {s : Dsk} (e : Same H H') (h : DeskAt K H C p lp lf s) : DeskAt K H' C p lp lf s := by
  obtain ⟨dx, vw, vg, vn, xs, ys, h1, h2, h3, h4, h5, h6, h7, h8, h9⟩ := h.ex
  exact ⟨dx, vw, vg, vn, xs, ys, e _ _ h1, h2.mono e, h3.mono e, h4.mono e, e _ _ h5, h6.mono e, e _ _ h7, h8.mono e, h9⟩
/-- the desk where something else was written -/
theorem DeskAt.but {K : PySem.W.Frag} {H H' : Hp} {C p lp lf : Addr} {s : Dsk} (e1 : ∀ o, H p = some o → H' p = some o) (e2 : ∀ o, H lp = some o → H' lp = some o) (e3 : ∀ o, H lf = some o → H' lf = some o) (t : Tups H H') (h : DeskAt K H C p lp lf s) : DeskAt K H' C p lp lf s := by
  obtain ⟨dx, vw, vg, vn, xs, ys, h1, h2, h3, h4, h5, h6, h7, h8, h9⟩ := h.ex
  exact ⟨dx, vw, vg, vn, xs, ys, e1 _ h1, h2.tups t (imm_web _ _), h3.tups t (imm_tI _), h4.tups t (imm_tI _), e2 _ h5, h6.tups t (imm_st _), e3 _ h7, h8.tups t (imm_st _), h9⟩
section
variable {K : PySem.W.Frag} {σ : L2.St} {H : Hp} {D : Ends}
theorem ev_fld {i : Nat} {p C dx : Addr} {fs : List (PySem.Str × V)} {f : PySem.Str} {v : V} {d : PyData} (hs : σ[i]? = some (some (.ref p))) (hp : H p = some (.ins C dx fs)) (cl : Cls K C) (n : NoAttr K C f) (l : fs.lookup f = some v) (av : At K H v d) : Ev K (tFld K (tVar i) f) σ H d := fun H1 e Q q =>
  ⟨_, hs, p, C, dx, fs, v, rfl, e _ _ hp, cl, n, l, q v H1 (Same.refl H1) (av.mono e)⟩
end
/-! ### __init__, burning, steps -/
section
variable {P : Program} {w : World} {K : PySem.W.Frag} {mg : PySem.Str → Option Value} {base : Heap} {f C : Addr} {fd : FuncData}
theorem okX {x q : PySem.Str} {st : Stmt} {N ps : List PySem.Str} {k : Nat} {sp : Sp} (F : FunD K x q (defArgs st) (defBody st) (defScope st) [] [] f fd) (S : FnScope N ps (defScope st)) (len : ∀ vs H Q E, sp vs H Q E → vs.length = ps.length)
    (hb : ∀ (cdv : Value) (A : Around) (outer : List Env) (s : Shared) (H : Hp) (vs : List V) (Q : VK) (E : XK), Room k (A.deeper (envOfC q (defScope st) s.heap.objs.size f cdv)) → sp vs H Q E →
      ∃ t, PSs (cxOf (L2.CX P w) P w K mg base N q (defScope st) f cdv A outer s H E) (defBody st) t ∧ t { nx := fun _ H' => Q .non H', rt := Q } (start N vs) H) : FnOk P w K mg base (L2.CX P w) (k + 1) f fd ps sp := F.ok S len hb
def spInit (K : PySem.W.Frag) (C : Addr) : Sp := fun vs H Q _ => ∃ p dx vw vb vg n A g b, vs = [.ref p, vw, vb, vg] ∧ H p = some (.ins C dx []) ∧ At K H vw (webD n A) ∧ At K H vb (tI b) ∧ At K H vg (tI g) ∧ DOk ⟨n, A, g, b, [], []⟩ ∧
  ∀ lp lf H', H lp = none → H lf = none → (∀ a o, a ≠ p → H a = some o → H' a = some o) → DeskAt K H' C p lp lf ⟨n, A, g, b, [], []⟩ → Q .non H'
theorem sc_Desk___init__ : FnScope ["self", "web", "burning", "goal"] ["self", "web", "burning", "goal"] (defScope (sD 0)) := ⟨rfl, rfl, rfl, by decide +kernel, rfl, by decide +kernel, by decide +kernel⟩
theorem ok_init (F : FunD K "__init__" "Desk.__init__" (defArgs (sD 0)) (defBody (sD 0)) (defScope (sD 0)) [] [] f fd) (Y : DeskTxt K C) (c_need_two : Cal P w K mg base 5 "need_two" ["web", "one", "other"] (spG K R_need_two)) : FnOk P w K mg base CX0 6 f fd ["self", "web", "burning", "goal"] (spInit K C) := by
  have nd := sc_Desk___init__.nd
  refine okS F sc_Desk___init__ (fun vs H Q E ⟨p, dx, vw, vb, vg, n, A, g, b, e, _⟩ => by rw [e]; rfl) fun cdv A0 outer s H vs Q E hr h => ?_
  obtain ⟨p, dx, vw, vb, vg, n, A, g, b, rfl, hp, aw, ab, ag, ⟨W, Sg, Sb⟩, q⟩ := h
  refine ⟨_, (pss_cons (ps_expr (c_need_two.call hr rfl (pa_cons (pv 1) (pa_cons (pv 2) (pa_cons (pv 3) pa_nil))) pass0))
    (pss_cons (ps_fld (pv 0) (pv 1) rfl)
    (pss_cons (ps_fld (pv 0) (pv 3) rfl)
    (pss_cons (ps_fld (pv 0) (pv 2) rfl)
    (pss_cons (ps_fld (pv 0) (pe_lst pa_nil) rfl)
    (pss_one (ps_fld (pv 0) (pe_lst pa_nil) rfl))))))), ?_⟩
  refine s_drop (ev_call (ea_cons (ev_var rfl aw) (ea_cons (ev_var rfl ab) (ea_cons (ev_var rfl ag) ea_nil))) ⟨n, A, b, g, rfl, W, Sb, Sg, rfl⟩) fun H1 e1 => ?_
  have hp1 := e1 _ _ hp
  refine ⟨_, rfl, _, rfl, p, C, dx, _, rfl, hp1, Y.cl, Y.nW, Nat.le_of_ble_eq_true rfl, ?_⟩
  refine ⟨_, rfl, _, rfl, p, C, dx, _, rfl, upd_same, Y.cl, Y.nG, Nat.le_of_ble_eq_true rfl, ?_⟩
  refine ⟨_, rfl, _, rfl, p, C, dx, _, rfl, upd_same, Y.cl, Y.nN, Nat.le_of_ble_eq_true rfl, ?_⟩
  refine ⟨Nat.zero_le _, fun lp hlp => ?_⟩
  have npl : p ≠ lp := ne_of_none upd_same hlp
  refine ⟨_, rfl, p, C, dx, _, rfl, (by rw [upd_ne npl]; exact upd_same), Y.cl, Y.nP, Nat.le_of_ble_eq_true rfl, ?_⟩
  refine ⟨Nat.zero_le _, fun lf hlf => ?_⟩
  have npf : p ≠ lf := ne_of_none upd_same hlf
  refine ⟨_, rfl, p, C, dx, _, rfl, (by rw [upd_ne npf]; exact upd_same), Y.cl, Y.nF, Nat.le_of_ble_eq_true rfl, ?_⟩
  have g1 : H1 lp = none := by
    rw [upd_ne npl.symm, upd_ne npl.symm, upd_ne npl.symm] at hlp
    exact hlp
  have nfl : lp ≠ lf := by
    intro z
    subst z
    rw [upd_ne npl.symm, upd_same] at hlf
    cases hlf
  have g2 : H1 lf = none := by
    rw [upd_ne npf.symm, upd_ne nfl.symm, upd_ne npf.symm, upd_ne npf.symm, upd_ne npf.symm] at hlf
    exact hlf
  refine q lp lf _ (e1.free g1) (e1.free g2) (fun a o na ha => ?_) ?_
  · have ha1 := e1 _ _ ha
    have nl : a ≠ lp := ne_of_none ha1 g1
    have nf : a ≠ lf := ne_of_none ha1 g2
    rw [upd_ne na, upd_ne nf, upd_ne na, upd_ne nl, upd_ne na, upd_ne na, upd_ne na]
    exact ha1
  · generalize hG : L2.upd (L2.upd (L2.upd (L2.upd (L2.upd (L2.upd (L2.upd H1 p _) p _) p _) lp _) p _) lf _) p _ = G
    have tp : Tups H1 G := by
      rw [← hG]
      exact (((((((Tups.ins hp1).trans (Tups.ins upd_same)).trans (Tups.ins upd_same)).trans (Same.tups (same_new hlp))).trans (Tups.ins (by rw [upd_ne npl]; exact upd_same))).trans (Same.tups (same_new hlf))).trans (Tups.ins (by rw [upd_ne npf]; exact upd_same)))
    refine ⟨dx, vw, vg, vb, [], [], ?_, (aw.mono e1).tups tp (imm_web _ _), (ag.mono e1).tups tp (imm_tI _), (ab.mono e1).tups tp (imm_tI _), ?_, .nil, ?_, .nil, nfl⟩
    · rw [← hG, upd_same]
      rfl
    · rw [← hG, upd_ne npl.symm, upd_ne nfl, upd_ne npl.symm, upd_same]
    · rw [← hG, upd_ne npf.symm, upd_same]
/-- burning: what the desk holds as now -/
def spBurning (K : PySem.W.Frag) (C : Addr) : Sp := fun vs H Q _ => ∃ p lp lf s, vs = [.ref p] ∧ DeskAt K H C p lp lf s ∧ ∀ v H', Same H H' → At K H' v (tI s.b) → Q v H'
theorem sc_Desk_burning : FnScope ["self"] ["self"] (defScope (sD 1)) := ⟨rfl, rfl, rfl, by decide +kernel, rfl, by decide +kernel, by decide +kernel⟩
theorem ok_burning (F : FunD K "burning" "Desk.burning" (defArgs (sD 1)) (defBody (sD 1)) (defScope (sD 1)) [] [] f fd) (Y : DeskTxt K C) : FnOk P w K mg base CX0 1 f fd ["self"] (spBurning K C) := by
  have nd := sc_Desk_burning.nd
  refine okS F sc_Desk_burning (fun vs H Q E ⟨p, lp, lf, s, e, _⟩ => by rw [e]; rfl) fun cdv A0 outer s H vs Q E hr h => ?_
  obtain ⟨p, lp, lf, s, rfl, hD, q⟩ := h
  obtain ⟨dx, vw, vg, vn, xs, ys, h1, h2, h3, h4, h5, h6, h7, h8, h9⟩ := hD.ex
  refine ⟨_, (pss_one (ps_ret (pe_fld (pv 0) rfl))), ?_⟩
  exact s_ret (ev_fld rfl h1 Y.cl Y.nN dF_now h4) q
def spSteps (K : PySem.W.Frag) (C : Addr) : Sp := fun vs H Q _ => ∃ p lp lf s, vs = [.ref p] ∧ DeskAt K H C p lp lf s ∧ s.past.length ≤ 1000 ∧ ∀ v H', Same H H' → At K H' v (.tuple (s.past.map fun q => .str q.2)) → Q v H'
theorem sc_Desk_steps : FnScope ["self", "here", "text"] ["self"] (defScope (sD 2)) := ⟨rfl, rfl, rfl, by decide +kernel, rfl, by decide +kernel, by decide +kernel⟩
theorem ok_steps (F : FunD K "steps" "Desk.steps" (defArgs (sD 2)) (defBody (sD 2)) (defScope (sD 2)) [] [] f fd) (T : Fre mg) (Y : DeskTxt K C) : FnOk P w K mg base CX0 1 f fd ["self"] (spSteps K C) := by
  have nd := sc_Desk_steps.nd
  refine okS F sc_Desk_steps (fun vs H Q E ⟨p, lp, lf, s, e, _⟩ => by rw [e]; rfl) fun cdv A0 outer s H vs Q E hr h => ?_
  obtain ⟨p, lp, lf, s, rfl, hD, hl, q⟩ := h
  obtain ⟨dx, vw, vg, vn, xs, ys, h1, h2, h3, h4, h5, h6, h7, h8, h9⟩ := hD.ex
  refine ⟨_, (pss_one (ps_ret (pe_callTy call_tuple_of (by rfl) T.f_tuple (by decide +kernel) (pa_cons (pe_lc (own := [("here", 1), ("text", 2)]) (g := (gTup K 2 (gCons (gName 1) (gCons (gName 2) gNil)))) rfl nd (pi_list (pe_fld (pv 0) rfl)) (blkOk_by (by kernel_rfl)) (fun _ _ _ _ _ => (pg_tup rfl (pgs_cons (pg_name (i := 1) nd rfl (.inl rfl)) (pgs_cons (pg_name (i := 2) nd rfl (.inl rfl)) pgs_nil)))) (fun _ _ _ _ _ => pts_nil) (fun _ _ _ _ _ => (pv 2))) pa_nil)))), ?_⟩
  refine s_ret (ev_cb (ea_cons (ev_is (ev_lc s.past stD (fun _ => true) (fun q => .str q.2) (ei_list (ev_fld rfl h1 Y.cl Y.nP dF_past (.lst h5 h6))) (by omega) (fun _ _ _ => rfl) fun x hx v H1 e1 av => item2 av fun u1 u2 a1 a2 => ⟨rfl, et_yes, fun _ => ev_var rfl a2⟩) (d' := .list (s.past.map fun q => .str q.2)) (by rw [filter_yes])) ea_nil) rc_tup) ?_
  exact q
/-! ### undo, redo -/
def spUndo (K : PySem.W.Frag) (C : Addr) (c : Ers) : Sp := fun vs H Q E => ∃ p lp lf s, vs = [.ref p] ∧ DeskAt K H C p lp lf s ∧ s.past.length ≤ 1000 ∧ s.future.length ≤ 1000 ∧ (s.past = [] → ∀ H', Same H H' → E (.ref c.u) none H') ∧
  ∀ past b0 t, s.past = past ++ [(b0, t)] → ∀ H', FrD p lp lf H H' → DeskAt K H' C p lp lf ⟨s.n, s.A, s.g, b0, past, s.future ++ [(s.b, t)]⟩ → Q .non H'
theorem sc_Desk_undo : FnScope ["self", "here", "text"] ["self"] (defScope (sD 3)) := ⟨rfl, rfl, rfl, by decide +kernel, rfl, by decide +kernel, by decide +kernel⟩
theorem snoc_cases {α : Type} (l : List α) (h : l ≠ []) : ∃ m x, l = m ++ [x] := ⟨l.dropLast, l.getLast h, (List.dropLast_concat_getLast h).symm⟩
theorem ok_undo (F : FunD K "undo" "Desk.undo" (defArgs (sD 3)) (defBody (sD 3)) (defScope (sD 3)) [] [] f fd) (T : Fre mg) (Y : DeskTxt K C) {c : Ers} (Z_NothingToUndo : OwnX K mg "NothingToUndo" c.u) : FnOk P w K mg base (L2.CX P w) 1 f fd ["self"] (spUndo K C c) := by
  have nd := sc_Desk_undo.nd
  refine okX F sc_Desk_undo (fun vs H Q E ⟨p, lp, lf, s, e, _⟩ => by rw [e]; rfl) fun cdv A0 outer s H vs Q E hr h => ?_
  obtain ⟨p, lp, lf, s, rfl, hD, lP, lF, hE, q⟩ := h
  obtain ⟨dx, vw, vg, vn, xs, ys, h1, h2, h3, h4, h5, h6, h7, h8, h9⟩ := hD.ex
  have np1 : p ≠ lp := ne_of h1 h5 (by intro z; cases z)
  have np2 : p ≠ lf := ne_of h1 h7 (by intro z; cases z)
  refine ⟨_, (pss_cons (ps_if (pt_cmpR (k_eq0 (K := K) rfl (hu_of hr)) (pe_fld (pv 0) rfl) (pe_lst pa_nil) (nomark _))
      (pss_one (ps_raise rfl (takes_of rfl rfl rfl rfl) (pmk_own0 PySem.F.excBase_ValueError Z_NothingToUndo.q Z_NothingToUndo.g Z_NothingToUndo.kp (raises_own Z_NothingToUndo.b Z_NothingToUndo.t) (by rfl))))
      pss_nil)
    (pss_cons (ps_asg (pe_bm0 PySem.F.plainAttrs_list PySem.F.slot_list_pop PySem.F.type_list_pop mt_pop (pe_fld (pv 0) rfl)) (pg_tup rfl (pgs_cons (pg_name (i := 1) nd rfl (.inl rfl)) (pgs_cons (pg_name (i := 2) nd rfl (.inl rfl)) pgs_nil))))
    (pss_cons (ps_expr (pe_bm PySem.F.plainAttrs_list PySem.F.slot_list_append PySem.F.type_list_append mt_append (pe_fld (pv 0) rfl) (pa_cons (pe_tup (pa_cons (pe_fld (pv 0) rfl) (pa_cons (pv 2) pa_nil))) pa_nil)))
    (pss_one (ps_fld (pv 0) (pv 1) rfl))))), ?_⟩
  refine s_if (ev_test (ev_op (ev_fld rfl h1 Y.cl Y.nP dF_past (.lst h5 h6)) (ev_lst ea_nil) ro_eq0)) (fun hb H1 e1 => ?_) fun hb H1 e1 => ?_
  · refine hE ?_ H1 e1
    cases hp : s.past with
    | nil => rfl
    | cons x l => rw [hp] at hb; cases hb
  · obtain ⟨past, ⟨b0, t⟩, hp⟩ := snoc_cases s.past (by intro z; rw [z] at hb; cases hb)
    rw [hp, List.map_append] at h6
    obtain ⟨us, v, rfl, hus, hv⟩ := h6.snoc_inv
    have hl1 := e1 _ _ h5
    refine ⟨_, rfl, p, C, dx, _, _, rfl, e1 _ _ h1, Y.cl, Y.nP, dF_past, .inl ⟨rfl, _, SqL.of hl1⟩, lp, us ++ [v], v, rfl, rfl, hl1, by simp, ?_⟩
    rw [List.dropLast_concat]
    have t2 : Tups H1 (L2.upd H1 lp (.lst us)) := Tups.lst hl1
    have hv2 := (hv.mono e1).tups t2 (by simp only [imm, imm.immAll, Bool.true_and, Bool.and_true]; exact imm_ints _)
    cases hv2 with
    | tup ht hr2 =>
      obtain ⟨x1, x2, rfl, a1, a2⟩ := ats2 hr2
      refine ⟨_, _, rfl, ht, rfl, _, _, rfl, _, _, rfl, rfl, ?_⟩
      have g1 : (L2.upd H1 lp (.lst us)) p = some (.ins C dx (dF vw vg vn lp lf)) := by rw [upd_ne np1]; exact e1 _ _ h1
      have g7 : (L2.upd H1 lp (.lst us)) lf = some (.lst ys) := by rw [upd_ne h9.symm]; exact e1 _ _ h7
      refine ⟨_, rfl, p, C, dx, _, _, rfl, g1, Y.cl, Y.nF, dF_future, .inl ⟨rfl, _, SqL.of g7⟩, ?_⟩
      refine (ev_tup (ea_cons (ev_fld rfl g1 Y.cl Y.nN dF_now ((h4.mono e1).tups t2 (imm_tI _))) (ea_cons (ev_var rfl a2) ea_nil))) _ (Same.refl _) _ fun tv H3 e3 at3 => ?_
      have k7 := e3 _ _ g7
      refine ⟨lf, ys, tv, rfl, rfl, k7, by rw [h8.len, List.length_map]; exact Nat.lt_of_le_of_lt lF (by decide), ?_⟩
      have t4 : Tups H3 (L2.upd H3 lf (.lst (ys ++ [tv]))) := Tups.lst k7
      have k1 : (L2.upd H3 lf (.lst (ys ++ [tv]))) p = some (.ins C dx (dF vw vg vn lp lf)) := by rw [upd_ne np2]; exact e3 _ _ g1
      refine ⟨_, rfl, _, rfl, p, C, dx, _, rfl, k1, Y.cl, Y.nN, Nat.le_of_ble_eq_true rfl, ?_⟩
      have t5 : Tups (L2.upd H3 lf (.lst (ys ++ [tv]))) (L2.upd (L2.upd H3 lf (.lst (ys ++ [tv]))) p (.ins C dx (dF vw vg x1 lp lf))) := Tups.ins k1
      have t14 := (Same.tups e1).trans (t2.trans ((Same.tups e3).trans (t4.trans t5)))
      have t35 := t4.trans t5
      have t25 := (Same.tups e3).trans t35
      rw [dF_put_now]
      refine q past b0 t hp _ (fun b o n1 n2 n3 ho => ?_) ⟨dx, vw, vg, x1, us, ys ++ [tv], upd_same, h2.tups t14 (imm_web _ _), h3.tups t14 (imm_tI _), a1.tups t25 (imm_tI _), ?_, hus.tups t14 (imm_st _), ?_, ?_, h9⟩
      · rw [upd_ne n1, upd_ne n3]
        refine e3 _ _ ?_
        rw [upd_ne n2]
        exact e1 _ _ ho
      · rw [upd_ne np1.symm, upd_ne h9]
        exact e3 _ _ upd_same
      · rw [upd_ne np2.symm, upd_same]
      · rw [List.map_append]
        exact (h8.tups t14 (imm_st _)).app (.cons (at3.tups t35 (by simp only [imm, imm.immAll, Bool.true_and, Bool.and_true]; exact imm_ints _)) .nil)
def spRedo (K : PySem.W.Frag) (C : Addr) (c : Ers) : Sp := fun vs H Q E => ∃ p lp lf s, vs = [.ref p] ∧ DeskAt K H C p lp lf s ∧ s.past.length ≤ 1000 ∧ s.future.length ≤ 1000 ∧ (s.future = [] → ∀ H', Same H H' → E (.ref c.r) none H') ∧
  ∀ future b0 t, s.future = future ++ [(b0, t)] → ∀ H', FrD p lp lf H H' → DeskAt K H' C p lp lf ⟨s.n, s.A, s.g, b0, s.past ++ [(s.b, t)], future⟩ → Q .non H'
theorem sc_Desk_redo : FnScope ["self", "here", "text"] ["self"] (defScope (sD 4)) := ⟨rfl, rfl, rfl, by decide +kernel, rfl, by decide +kernel, by decide +kernel⟩
theorem ok_redo (F : FunD K "redo" "Desk.redo" (defArgs (sD 4)) (defBody (sD 4)) (defScope (sD 4)) [] [] f fd) (T : Fre mg) (Y : DeskTxt K C) {c : Ers} (Z_NothingToRedo : OwnX K mg "NothingToRedo" c.r) : FnOk P w K mg base (L2.CX P w) 1 f fd ["self"] (spRedo K C c) := by
  have nd := sc_Desk_redo.nd
  refine okX F sc_Desk_redo (fun vs H Q E ⟨p, lp, lf, s, e, _⟩ => by rw [e]; rfl) fun cdv A0 outer s H vs Q E hr h => ?_
  obtain ⟨p, lp, lf, s, rfl, hD, lP, lF, hE, q⟩ := h
  obtain ⟨dx, vw, vg, vn, xs, ys, h1, h2, h3, h4, h5, h6, h7, h8, h9⟩ := hD.ex
  have np1 : p ≠ lp := ne_of h1 h5 (by intro z; cases z)
  have np2 : p ≠ lf := ne_of h1 h7 (by intro z; cases z)
  refine ⟨_, (pss_cons (ps_if (pt_cmpR (k_eq0 (K := K) rfl (hu_of hr)) (pe_fld (pv 0) rfl) (pe_lst pa_nil) (nomark _))
      (pss_one (ps_raise rfl (takes_of rfl rfl rfl rfl) (pmk_own0 PySem.F.excBase_ValueError Z_NothingToRedo.q Z_NothingToRedo.g Z_NothingToRedo.kp (raises_own Z_NothingToRedo.b Z_NothingToRedo.t) (by rfl))))
      pss_nil)
    (pss_cons (ps_asg (pe_bm0 PySem.F.plainAttrs_list PySem.F.slot_list_pop PySem.F.type_list_pop mt_pop (pe_fld (pv 0) rfl)) (pg_tup rfl (pgs_cons (pg_name (i := 1) nd rfl (.inl rfl)) (pgs_cons (pg_name (i := 2) nd rfl (.inl rfl)) pgs_nil))))
    (pss_cons (ps_expr (pe_bm PySem.F.plainAttrs_list PySem.F.slot_list_append PySem.F.type_list_append mt_append (pe_fld (pv 0) rfl) (pa_cons (pe_tup (pa_cons (pe_fld (pv 0) rfl) (pa_cons (pv 2) pa_nil))) pa_nil)))
    (pss_one (ps_fld (pv 0) (pv 1) rfl))))), ?_⟩
  refine s_if (ev_test (ev_op (ev_fld rfl h1 Y.cl Y.nF dF_future (.lst h7 h8)) (ev_lst ea_nil) ro_eq0)) (fun hb H1 e1 => ?_) fun hb H1 e1 => ?_
  · refine hE ?_ H1 e1
    cases hp : s.future with
    | nil => rfl
    | cons x l => rw [hp] at hb; cases hb
  · obtain ⟨future, ⟨b0, t⟩, hp⟩ := snoc_cases s.future (by intro z; rw [z] at hb; cases hb)
    rw [hp, List.map_append] at h8
    obtain ⟨us, v, rfl, hus, hv⟩ := h8.snoc_inv
    have hl1 := e1 _ _ h7
    refine ⟨_, rfl, p, C, dx, _, _, rfl, e1 _ _ h1, Y.cl, Y.nF, dF_future, .inl ⟨rfl, _, SqL.of hl1⟩, lf, us ++ [v], v, rfl, rfl, hl1, by simp, ?_⟩
    rw [List.dropLast_concat]
    have t2 : Tups H1 (L2.upd H1 lf (.lst us)) := Tups.lst hl1
    have hv2 := (hv.mono e1).tups t2 (by simp only [imm, imm.immAll, Bool.true_and, Bool.and_true]; exact imm_ints _)
    cases hv2 with
    | tup ht hr2 =>
      obtain ⟨x1, x2, rfl, a1, a2⟩ := ats2 hr2
      refine ⟨_, _, rfl, ht, rfl, _, _, rfl, _, _, rfl, rfl, ?_⟩
      have g1 : (L2.upd H1 lf (.lst us)) p = some (.ins C dx (dF vw vg vn lp lf)) := by rw [upd_ne np2]; exact e1 _ _ h1
      have g7 : (L2.upd H1 lf (.lst us)) lp = some (.lst xs) := by rw [upd_ne h9]; exact e1 _ _ h5
      refine ⟨_, rfl, p, C, dx, _, _, rfl, g1, Y.cl, Y.nP, dF_past, .inl ⟨rfl, _, SqL.of g7⟩, ?_⟩
      refine (ev_tup (ea_cons (ev_fld rfl g1 Y.cl Y.nN dF_now ((h4.mono e1).tups t2 (imm_tI _))) (ea_cons (ev_var rfl a2) ea_nil))) _ (Same.refl _) _ fun tv H3 e3 at3 => ?_
      have k7 := e3 _ _ g7
      refine ⟨lp, xs, tv, rfl, rfl, k7, by rw [h6.len, List.length_map]; exact Nat.lt_of_le_of_lt lP (by decide), ?_⟩
      have t4 : Tups H3 (L2.upd H3 lp (.lst (xs ++ [tv]))) := Tups.lst k7
      have k1 : (L2.upd H3 lp (.lst (xs ++ [tv]))) p = some (.ins C dx (dF vw vg vn lp lf)) := by rw [upd_ne np1]; exact e3 _ _ g1
      refine ⟨_, rfl, _, rfl, p, C, dx, _, rfl, k1, Y.cl, Y.nN, Nat.le_of_ble_eq_true rfl, ?_⟩
      have t5 : Tups (L2.upd H3 lp (.lst (xs ++ [tv]))) (L2.upd (L2.upd H3 lp (.lst (xs ++ [tv]))) p (.ins C dx (dF vw vg x1 lp lf))) := Tups.ins k1
      have t14 := (Same.tups e1).trans (t2.trans ((Same.tups e3).trans (t4.trans t5)))
      have t35 := t4.trans t5
      have t25 := (Same.tups e3).trans t35
      rw [dF_put_now]
      refine q future b0 t hp _ (fun b o n1 n2 n3 ho => ?_) ⟨dx, vw, vg, x1, xs ++ [tv], us, upd_same, h2.tups t14 (imm_web _ _), h3.tups t14 (imm_tI _), a1.tups t25 (imm_tI _), ?_, ?_, ?_, hus.tups t14 (imm_st _), h9⟩
      · rw [upd_ne n1, upd_ne n2]
        refine e3 _ _ ?_
        rw [upd_ne n3]
        exact e1 _ _ ho
      · rw [upd_ne np1.symm, upd_same]
      · rw [List.map_append]
        exact (h6.tups t14 (imm_st _)).app (.cons (at3.tups t35 (by simp only [imm, imm.immAll, Bool.true_and, Bool.and_true]; exact imm_ints _)) .nil)
      · rw [upd_ne np2.symm, upd_ne h9.symm]
        exact e3 _ _ upd_same
end
end Hd
set_option Elab.async false
set_option linter.all false
set_option maxRecDepth 100000
set_option maxHeartbeats 4000000
/-! Handons: the desk: told, after. -/
namespace Hd
open PySem PySem.Spec PyProof.Rows L2
section
variable {n : Nat} {a : Int → Int → Bool} {b : List Int} {q : Pr}
theorem tl_burning : tlF n a b q "burning" = lstS b := by rfl
theorem tl_can : tlF n a b q "can" = lstS (sel n (doab n a (has b))) := by rfl
theorem tl_left : tlF n a b q "left" = sI (dist n a (has b) q) := by rfl
theorem tl_next : tlF n a b q "next" = lstS ((sel n (nxt n a (has b) q)).take 1) := by rfl
theorem tl_spare : tlF n a b q "spare" = lstS (sel n (sp n a (has b) q)) := by rfl
theorem sel_small {n : Nat} (n5 : n ≤ 5) (p : Pr) : (∀ k ∈ sel n p, 0 ≤ k ∧ k < 10) ∧ (sel n p).length ≤ 100 := ⟨fun k hk => by have := (mem_sel.mp hk).1; omega, by have := sel_len n p; omega⟩
end
section
variable {K : PySem.W.Frag} {σ : L2.St} {H : Hp} {te ty : TE} {tr : TA}
/-- way_in(..)[:1] -/
theorem ev_way {n : Nat} {A : List (Int × Int)} {a b : List Int} (h : EvA K tr σ H [webD n A, tI a, tI b]) (W : Wb n A) (S1 : St n a) (S2 : St n b) : Ev K (tSl (rSlL K) (tCall (spWay K) [] E0 tr) tNoPart (tPart (tC (.int 1)))) σ H (lI ((sel n (nxt n (ar A) (has a) (has b))).take 1)) := fun H1 e Q k =>
  h H1 e _ fun vs H2 e2 avs => by
    rw [List.append_nil]
    refine ⟨n, A, a, b, avs, W, S1, S2, fun Wd v H3 e3 ht av => ?_⟩
    have z := ev_first (K := K) (te := fun _ H Q => Q v H) (σ := σ) (H := H3) (ds := Wd.map PyData.int) (fun H4 e4 Q4 q4 => q4 v H4 (Same.refl H4) (av.mono e4)) H3 (Same.refl H3) Q
    refine z fun v' H5 e5 av' => k v' H5 (e2.trans (e3.trans e5)) ?_
    rw [← List.map_take, ht] at av'
    exact av'
/-! ### dict([(str(k), k) for k in ..]) -/
def nmK (ns : List Int) : List (Key × V) := ns.map fun k => (Sum.inr (sI k), V.int k)
theorem dict_names {ns : List Int} {Q : VK} (h : Ev K te σ H (.list (ns.map fun k => .tuple [.str (sI k), .int k]))) (k : ∀ d H2, Same H H2 → H2 d = some (.dK (mergeK [] (nmK ns))) → Q (.ref d) H2) :
    tCB (fun xs H Q => ∃ (a : Addr) (ps : List Addr) (kvs : List (Key × V)), xs = [.ref a] ∧ SqL K H a (ps.map V.ref) ∧ Paired (fun p kv => SqT K H p [kV kv.1, kv.2]) ps kvs ∧ ∀ p, H p = none → Q (.ref p) (L2.upd H p (.dK (mergeK [] kvs)))) (tCons te tNil) σ H Q := h H (Same.refl H) _ fun v H1 e1 av => by
  cases av with
  | lst hL hA =>
    have key : ∀ {ns : List Int} {xs : List V}, Ats K H1 xs (ns.map fun k => .tuple [.str (sI k), .int k]) → ∃ ps : List Addr, xs = ps.map V.ref ∧ Paired (fun p kv => SqT K H1 p [kV kv.1, kv.2]) ps (nmK ns) := fun {ns} => by
      induction ns with
      | nil =>
        intro xs h
        cases h
        exact ⟨[], rfl, .nil⟩
      | cons x ns ih =>
        intro xs h
        cases h with
        | cons a r =>
          obtain ⟨ps, rfl, hp⟩ := ih r
          cases a with
          | tup ht hr =>
            obtain ⟨x1, x2, rfl, a1, a2⟩ := ats2 hr
            rw [at_str a1, at_int a2] at ht
            exact ⟨_ :: ps, rfl, .cons ht hp⟩
    obtain ⟨ps, rfl, hp⟩ := key hA
    exact ⟨_, ps, nmK ns, rfl, SqL.of hL, hp, fun p hn => k p _ (e1.trans (same_new hn)) upd_same⟩
theorem s_names {D : Ends} {i : Nat} {ns : List Int} (h : Ev K te σ H (.list (ns.map fun k => .tuple [.str (sI k), .int k]))) (k : ∀ d H2, Same H H2 → H2 d = some (.dK (mergeK [] (nmK ns))) → D.nx (σ.set i (some (.ref d))) H2) :
    tAsg (tCB (fun xs H Q => ∃ (a : Addr) (ps : List Addr) (kvs : List (Key × V)), xs = [.ref a] ∧ SqL K H a (ps.map V.ref) ∧ Paired (fun p kv => SqT K H p [kV kv.1, kv.2]) ps kvs ∧ ∀ p, H p = none → Q (.ref p) (L2.upd H p (.dK (mergeK [] kvs)))) (tCons te tNil)) (gName i) D σ H := dict_names h k
theorem merge_snoc (l : List (Key × V)) (x : Key × V) : mergeK [] (l ++ [x]) = putK (mergeK [] l) x.1 x.2 := by
  unfold mergeK
  rw [List.foldl_append]
  rfl
theorem sI_inj {j k : Int} (hj : 0 ≤ j ∧ j < 10) (hk : 0 ≤ k ∧ k < 10) (e : sI j = sI k) : j = k := by
  have h1 := sI_int hj.1 hj.2
  have h2 := sI_int hk.1 hk.2
  rw [e, h2] at h1
  exact (Option.some.inj h1).symm
/-- what the dict holds -/
theorem names_get (m : List Int) : (∀ k ∈ m, 0 ≤ k ∧ k < 10) → ∀ w : PySem.Str, (w ∉ m.map sI → valV (mergeK [] (nmK m)) (Sum.inr w) = none) ∧ ∀ k, k ∈ m → sI k = w → valV (mergeK [] (nmK m)) (Sum.inr w) = some (.int k) := by
  have key : ∀ l : List Int, (∀ k ∈ l.reverse, 0 ≤ k ∧ k < 10) → ∀ w : PySem.Str, (w ∉ l.reverse.map sI → valV (mergeK [] (nmK l.reverse)) (Sum.inr w) = none) ∧ ∀ k, k ∈ l.reverse → sI k = w → valV (mergeK [] (nmK l.reverse)) (Sum.inr w) = some (.int k) := by
    intro l
    induction l with
    | nil => exact fun _ w => ⟨fun _ => rfl, fun k hk => by simp at hk⟩
    | cons x l ih =>
      intro hm w
      have hm' : ∀ k ∈ l.reverse, 0 ≤ k ∧ k < 10 := fun k hk => hm k (by rw [List.reverse_cons]; simp [List.mem_reverse.mp hk])
      have hx := hm x (by rw [List.reverse_cons]; simp)
      obtain ⟨i1, i2⟩ := ih hm' w
      have e : nmK (x :: l).reverse = nmK l.reverse ++ [(Sum.inr (sI x), V.int x)] := by
        unfold nmK
        rw [List.reverse_cons, List.map_append]
        rfl
      rw [e, merge_snoc, valV_put]
      constructor
      · intro hw
        rw [List.reverse_cons, List.map_append, List.mem_append] at hw
        rw [if_neg (fun z => hw (.inr (by rw [Sum.inr.inj z]; simp)))]
        exact i1 fun z => hw (.inl z)
      · intro k hk hkw
        by_cases hxw : sI x = w
        · rw [if_pos (by rw [hxw])]
          have hk' := hm k hk
          rw [sI_inj hx hk' (hxw.trans hkw.symm)]
        · rw [if_neg (fun z => hxw (Sum.inr.inj z).symm)]
          refine i2 k ?_ hkw
          rw [List.reverse_cons, List.mem_append] at hk
          rcases hk with z | z
          · exact z
          · rw [List.mem_singleton.mp z] at hkw
            exact absurd hkw hxw
  have := key m.reverse
  rw [List.reverse_reverse] at this
  exact this
/-- w not in names -/
theorem ev_dnot {i : Nat} {w : PySem.Str} {d : Addr} {kvs : List (Key × V)} (hw : Ev K ty σ H (.str w)) (hs : σ[i]? = some (some (.ref d))) (hd : H d = some (.dK kvs)) : EvT (tB (tDNotIn ty (tVar i))) σ H (!(valV kvs (Sum.inr w)).isSome) := fun H1 e Q q => hw H1 e _ fun v H2 e2 av => by
  rw [at_str av]
  exact ⟨_, hs, d, valV kvs (Sum.inr w), rfl, DGet.k (k := Sum.inr w) ((e.trans e2) _ _ hd), _, rfl, q H2 e2⟩
/-- names[w] -/
theorem ev_dget {i : Nat} {w : PySem.Str} {d : Addr} {kvs : List (Key × V)} {k : Int} (hw : Ev K ty σ H (.str w)) (hs : σ[i]? = some (some (.ref d))) (hd : H d = some (.dK kvs)) (hv : valV kvs (Sum.inr w) = some (.int k)) : Ev K (tDGet (tVar i) ty) σ H (.int k) := fun H1 e Q q =>
  ⟨_, hs, hw H1 e _ fun v H2 e2 av => by
    rw [at_str av]
    refine ⟨d, .int k, rfl, ?_, q _ H2 e2 (.int k)⟩
    rw [← hv]
    exact DGet.k (k := Sum.inr w) ((e.trans e2) _ _ hd)⟩
end
section
variable {P : Program} {w : World} {K : PySem.W.Frag} {mg : PySem.Str → Option Value} {base : Heap} {f C : Addr} {fd : FuncData}
def spTold (K : PySem.W.Frag) (C : Addr) : Sp := fun vs H Q _ => ∃ p lp lf s x, vs = [.ref p, .str x] ∧ DeskAt K H C p lp lf s ∧ DOk s ∧ x ∈ qsL ∧ ∀ v H', Same H H' → At K H' v (.str (tlF s.n (ar s.A) s.b (has s.g) x)) → Q v H'
theorem sc_Desk_told : FnScope ["self", "word"] ["self", "word"] (defScope (sD 6)) := ⟨rfl, rfl, rfl, by decide +kernel, rfl, by decide +kernel, by decide +kernel⟩
theorem ok_told (F : FunD K "told" "Desk.told" (defArgs (sD 6)) (defBody (sD 6)) (defScope (sD 6)) [] [] f fd) (T : Fre mg) (Y : DeskTxt K C) (c_listed : Cal P w K mg base 1 "listed" ["lamps"] (spG K R_listed)) (c_doable : Cal P w K mg base 2 "doable" ["web", "burning"] (spG K R_doable))
    (c_fewest_in : Cal P w K mg base 4 "fewest_in" ["web", "one", "other"] (spG K R_fewest)) (c_way_in : Cal P w K mg base 7 "way_in" ["web", "one", "other"] (spWay K)) (c_spare_in : Cal P w K mg base 3 "spare_in" ["web", "one", "other"] (spG K R_spare)) : FnOk P w K mg base CX0 8 f fd ["self", "word"] (spTold K C) := by
  have nd := sc_Desk_told.nd
  refine okS F sc_Desk_told (fun vs H Q E ⟨p, lp, lf, s, x, e, _⟩ => by rw [e]; rfl) fun cdv A0 outer s0 H vs Q E hr h => ?_
  obtain ⟨p, lp, lf, s, x, rfl, hD, ⟨W, Sg, Sb⟩, hx, q⟩ := h
  obtain ⟨dx, vw, vg, vn, xs, ys, h1, h2, h3, h4, h5, h6, h7, h8, h9⟩ := hD.ex
  have n5 := W.n5
  have lb := Sb.len
  refine ⟨_, (pss_cons (ps_if (pt_cmpR op_eq (pv 1) pe_str (nomark _))
      (pss_one (ps_ret (c_listed.call hr rfl (pa_cons (pe_fld (pv 0) rfl) pa_nil) pass0)))
      pss_nil)
    (pss_cons (ps_if (pt_cmpR op_eq (pv 1) pe_str (nomark _))
      (pss_one (ps_ret (c_listed.call hr rfl (pa_cons (c_doable.call hr rfl (pa_cons (pe_fld (pv 0) rfl) (pa_cons (pe_fld (pv 0) rfl) pa_nil)) pass0) pa_nil) pass0)))
      pss_nil)
    (pss_cons (ps_if (pt_cmpR op_eq (pv 1) pe_str (nomark _))
      (pss_one (ps_ret (pe_callTy call_str_int (by rfl) T.f_str (by decide +kernel) (pa_cons (c_fewest_in.call hr rfl (pa_cons (pe_fld (pv 0) rfl) (pa_cons (pe_fld (pv 0) rfl) (pa_cons (pe_fld (pv 0) rfl) pa_nil))) pass0) pa_nil))))
      pss_nil)
    (pss_cons (ps_if (pt_cmpR op_eq (pv 1) pe_str (nomark _))
      (pss_one (ps_ret (c_listed.call hr rfl (pa_cons (pe_slice sl_list (c_way_in.call hr rfl (pa_cons (pe_fld (pv 0) rfl) (pa_cons (pe_fld (pv 0) rfl) (pa_cons (pe_fld (pv 0) rfl) pa_nil))) pass0) po_none (po_some pe_int)) pa_nil) pass0)))
      pss_nil)
    (pss_one (ps_ret (c_listed.call hr rfl (pa_cons (c_spare_in.call hr rfl (pa_cons (pe_fld (pv 0) rfl) (pa_cons (pe_fld (pv 0) rfl) (pa_cons (pe_fld (pv 0) rfl) pa_nil))) pass0) pa_nil) pass0))))))), ?_⟩
  have ew : ∀ H1, Same H H1 → Ev K (tFld K (tVar 0) "web") [some (.ref p), some (.str x)] H1 _ := fun H1 e => ev_fld rfl (e _ _ h1) Y.cl Y.nW dF_web (h2.mono e)
  have eg : ∀ H1, Same H H1 → Ev K (tFld K (tVar 0) "goal") [some (.ref p), some (.str x)] H1 _ := fun H1 e => ev_fld rfl (e _ _ h1) Y.cl Y.nG dF_goal (h3.mono e)
  have en : ∀ H1, Same H H1 → Ev K (tFld K (tVar 0) "now") [some (.ref p), some (.str x)] H1 _ := fun H1 e => ev_fld rfl (e _ _ h1) Y.cl Y.nN dF_now (h4.mono e)
  refine s_if (ev_test (K := K) (ev_op (ev_var rfl (.str x)) ev_str ro_eqS)) (fun hb H1 e1 => ?_) fun hb H1 e1 => ?_
  · obtain rfl : x = "burning" := by simpa using hb
    exact s_ret (ev_call (ea_cons (en H1 e1) ea_nil) ⟨s.b, .inr rfl, fun k hk => by have := Sb.inr k hk; omega, by omega, rfl⟩) fun v H2 e2 av => q v H2 (e1.trans e2) (by rw [tl_burning]; exact av)
  have hx1 : ¬ x = "burning" := by simpa using hb
  refine s_if (ev_test (K := K) (ev_op (ev_var rfl (.str x)) ev_str ro_eqS)) (fun hb H2 e2 => ?_) fun hb H2 e2 => ?_
  · obtain rfl : x = "can" := by simpa using hb
    have e12 := e1.trans e2
    obtain ⟨k1, k2⟩ := sel_small n5 (doab s.n (ar s.A) (has s.b))
    exact s_ret (ev_call (ea_cons (ev_call (ea_cons (ew H2 e12) (ea_cons (en H2 e12) ea_nil)) ⟨s.n, s.A, s.b, rfl, W, Sb, rfl⟩) ea_nil) ⟨_, .inl rfl, k1, k2, rfl⟩) fun v H3 e3 av => q v H3 (e12.trans e3) (by rw [tl_can]; exact av)
  have hx2 : ¬ x = "can" := by simpa using hb
  refine s_if (ev_test (K := K) (ev_op (ev_var rfl (.str x)) ev_str ro_eqS)) (fun hb H3 e3 => ?_) fun hb H3 e3 => ?_
  · obtain rfl : x = "left" := by simpa using hb
    have e13 := e1.trans (e2.trans e3)
    have := dist_le s.n (ar s.A) (has s.b) (has s.g)
    exact s_ret (ev_cb (ea_cons (ev_call (ea_cons (ew H3 e13) (ea_cons (en H3 e13) (ea_cons (eg H3 e13) ea_nil))) ⟨s.n, s.A, s.b, s.g, rfl, W, Sb, Sg, rfl⟩) ea_nil) (rc_str (by omega) (by omega))) fun v H4 e4 av => q v H4 (e13.trans e4) (by rw [tl_left]; exact av)
  have hx3 : ¬ x = "left" := by simpa using hb
  refine s_if (ev_test (K := K) (ev_op (ev_var rfl (.str x)) ev_str ro_eqS)) (fun hb H4 e4 => ?_) fun hb H4 e4 => ?_
  · obtain rfl : x = "next" := by simpa using hb
    have e14 := e1.trans (e2.trans (e3.trans e4))
    obtain ⟨k1, k2⟩ := sel_small n5 (nxt s.n (ar s.A) (has s.b) (has s.g))
    exact s_ret (ev_call (ea_cons (ev_way (ea_cons (ew H4 e14) (ea_cons (en H4 e14) (ea_cons (eg H4 e14) ea_nil))) W Sb Sg) ea_nil) ⟨_, .inl rfl, fun k hk => k1 k (List.mem_of_mem_take hk), by rw [List.length_take]; omega, rfl⟩) fun v H5 e5 av => q v H5 (e14.trans e5) (by rw [tl_next]; exact av)
  have hx4 : ¬ x = "next" := by simpa using hb
  obtain rfl : x = "spare" := by
    unfold qsL at hx
    simp only [List.mem_cons, List.not_mem_nil, or_false] at hx
    rcases hx with h | h | h | h | h
    · exact absurd h hx1
    · exact absurd h hx2
    · exact absurd h hx3
    · exact absurd h hx4
    · exact h
  have e14 := e1.trans (e2.trans (e3.trans e4))
  obtain ⟨k1, k2⟩ := sel_small n5 (sp s.n (ar s.A) (has s.b) (has s.g))
  exact s_ret (ev_call (ea_cons (ev_call (ea_cons (ew H4 e14) (ea_cons (en H4 e14) (ea_cons (eg H4 e14) ea_nil))) ⟨s.n, s.A, s.b, s.g, rfl, W, Sb, Sg, rfl⟩) ea_nil) ⟨_, .inl rfl, k1, k2, rfl⟩) fun v H5 e5 av => q v H5 (e14.trans e5) (by rw [tl_spare]; exact av)
def spAfter (K : PySem.W.Frag) (C : Addr) (c : Ers) : Sp := fun vs H Q E => ∃ p lp lf s vw x r, vs = [.ref p, vw] ∧ DeskAt K H C p lp lf s ∧ DOk s ∧ At K H vw (.list ((x :: r).map PyData.str)) ∧ x ∈ allL ∧ x ∉ qsL ∧ r.length ≤ 5000 ∧
  (∀ k, dueF s.n (ar s.A) s.b (has s.g) (x :: r) = .bad k → ∀ d H', Same H H' → H' d = some (.xd [(("word" : PySem.Str), .int k)]) → E (.ref c.i) (some d) H') ∧
  (∀ b', dueF s.n (ar s.A) s.b (has s.g) (x :: r) = .step b' → ∀ v H', Same H H' → At K H' v (tI b') → Q v H')
theorem sc_Desk_after : FnScope ["self", "words", "allowed", "names", "k"] ["self", "words"] (defScope (sD 5)) := ⟨rfl, rfl, rfl, by decide +kernel, rfl, by decide +kernel, by decide +kernel⟩
theorem ok_after (F : FunD K "after" "Desk.after" (defArgs (sD 5)) (defBody (sD 5)) (defScope (sD 5)) [] [] f fd) (T : Fre mg) (Y : DeskTxt K C) {c : Ers} {fI : Addr} (TI : Hdx.InvTxt P K mg c.i fI) (c_light_in : Cal P w K mg base 1 "light_in" ["web", "burning"] (spG K R_light)) (c_quench_in : Cal P w K mg base 1 "quench_in" ["web", "burning"] (spG K R_quench))
    (c_changed : Cal P w K mg base 1 "changed" ["burning", "lamp"] (spG K R_changed)) : FnOk P w K mg base (L2.CX P w) 3 f fd ["self", "words"] (spAfter K C c) := by
  have nd := sc_Desk_after.nd
  refine okX F sc_Desk_after (fun vs H Q E ⟨p, lp, lf, s, vw, x, r, e, _⟩ => by rw [e]; rfl) fun cdv A0 outer s0 H vs Q E hr h => ?_
  obtain ⟨p, lp, lf, s, vws, x, r, rfl, hD, ⟨W, Sg, Sb⟩, aW, hxa, hxq, lr, qB, qS⟩ := h
  obtain ⟨dx, vw, vg, vn, xs, ys, h1, h2, h3, h4, h5, h6, h7, h8, h9⟩ := hD.ex
  have n5 := W.n5
  obtain ⟨k1, k2⟩ := nsF_ok (n := s.n) (a := ar s.A) (b := s.b) x
  have k1' : ∀ k ∈ nsF s.n (ar s.A) s.b x, 0 ≤ k ∧ k < 10 := fun k hk => by have := k1 k hk; omega
  refine ⟨_, (pss_cons (ps_set (i := 2) nd rfl (.inl rfl) (pe_ifExp (pt_cmpR op_eq (pe_ix (k_ixl (K := K) rfl) (pv 1) pe_int (fun _ _ => rfl)) pe_str (nomark _)) (c_light_in.call hr rfl (pa_cons (pe_fld (pv 0) rfl) (pa_cons (pe_fld (pv 0) rfl) pa_nil)) pass0) (c_quench_in.call hr rfl (pa_cons (pe_fld (pv 0) rfl) (pa_cons (pe_fld (pv 0) rfl) pa_nil)) pass0)))
    (pss_cons (ps_set (i := 3) nd rfl (.inl rfl) (pe_callTy (call_dictP rfl) (by rfl) T.f_dict (by decide +kernel) (pa_cons (pe_lc (own := [("k", 4)]) (g := (gName 4)) rfl nd (pi_list (pv 2)) (blkOk_by (by kernel_rfl)) (fun _ _ _ _ _ => (pg_name (i := 4) nd rfl (.inl rfl))) (fun _ _ _ _ _ => pts_nil) (fun _ _ _ _ _ => (pe_tup (pa_cons (pe_callTy call_str_int (by rfl) T.f_str (by decide +kernel) (pa_cons (pv 4) pa_nil)) (pa_cons (pv 4) pa_nil))))) pa_nil)))
    (pss_cons (ps_if (PW.pt (pw_or (pt_cmpR op_lt (pe_callB call_len_seq (by rfl) T.f_len (by decide +kernel) (pa_cons (pv 1) pa_nil)) pe_int (nomark _)) (pw_or1 (pt_cmp (pc_dnotin (hu_of hr) (pe_ix (k_ixl (K := K) rfl) (pv 1) pe_int (fun _ _ => rfl)) (pv 3))))))
      (pss_one (ps_raiseInv rfl TI hr (takes_of rfl rfl rfl rfl) (pa_cons pe_int pa_nil)))
      pss_nil)
    (pss_cons (ps_if (pt_cmpR op_gt (pe_callB call_len_seq (by rfl) T.f_len (by decide +kernel) (pa_cons (pv 1) pa_nil)) pe_int (nomark _))
      (pss_one (ps_raiseInv rfl TI hr (takes_of rfl rfl rfl rfl) (pa_cons pe_int pa_nil)))
      pss_nil)
    (pss_one (ps_ret (c_changed.call hr rfl (pa_cons (pe_fld (pv 0) rfl) (pa_cons (pe_dget (hu_of hr) (pv 3) (pe_ix (k_ixl (K := K) rfl) (pv 1) pe_int (fun _ _ => rfl)) (fun _ _ => rfl)) pa_nil)) pass0))))))), ?_⟩
  have ew : ∀ H1, Same H H1 → ∀ σ : L2.St, σ[0]? = some (some (.ref p)) → Ev K (tFld K (tVar 0) "web") σ H1 (webD s.n s.A) := fun H1 e σ hs => ev_fld hs (e _ _ h1) Y.cl Y.nW dF_web (h2.mono e)
  have en : ∀ H1, Same H H1 → ∀ σ : L2.St, σ[0]? = some (some (.ref p)) → Ev K (tFld K (tVar 0) "now") σ H1 (tI s.b) := fun H1 e σ hs => ev_fld hs (e _ _ h1) Y.cl Y.nN dF_now (h4.mono e)
  have e0 := Same.refl H
  refine s_set (K := K) (d := lI (nsF s.n (ar s.A) s.b x)) (ev_if (ev_test (ev_op (ev_op (ev_var rfl aW) ev_int ro_ixl0) ev_str ro_eqS)) (fun hb => ?_) fun hb => ?_) fun va H1 e1 ha => ?_
  · refine ev_is (ev_call (ea_cons (ew H e0 _ rfl) (ea_cons (en H e0 _ rfl) ea_nil)) ⟨s.n, s.A, s.b, rfl, W, Sb, rfl⟩) ?_
    unfold nsF
    rw [if_pos (by simpa using hb)]
  · refine ev_is (ev_call (ea_cons (ew H e0 _ rfl) (ea_cons (en H e0 _ rfl) ea_nil)) ⟨s.n, s.A, s.b, rfl, W, Sb, rfl⟩) ?_
    unfold nsF
    rw [if_neg (by simpa using hb)]
  have hev : Ev K (tLc (iList K (tVar 2)) (gName 4) tYes (tTup (tCons (tCB (fun xs H Q => ∃ i, xs = [.int i] ∧ i.natAbs.log2 < 1920 ∧ Q (.str (toString i)) H) (tCons (tVar 4) tNil)) (tCons (tVar 4) tNil))) [4]) [some (.ref p), some vws, some va, none, none] H1 (.list ((nsF s.n (ar s.A) s.b x).map fun k => .tuple [.str (sI k), .int k])) :=
    ev_is (ev_lc (nsF s.n (ar s.A) s.b x) PyData.int (fun _ => true) (fun k => .tuple [.str (sI k), .int k]) (ei_list (ev_var rfl ha)) (by omega) (fun _ _ _ => rfl) fun k hk v H2 e2 av => item1 rfl et_yes fun _ => ev_tup (ea_cons (ev_cb (ea_cons (ev_var rfl av) ea_nil) (rc_str (k1 k hk).1 (by have := (k1 k hk).2; omega))) (ea_cons (ev_var rfl av) ea_nil))) (by rw [filter_yes])
  dsimp only
  refine s_names hev fun d H2 e2 hd => ?_
  have e02 := e1.trans e2
  have aW2 := aW.mono e02
  have bad : ∀ k H3, Same H H3 → dueF s.n (ar s.A) s.b (has s.g) (x :: r) = .bad k → ∀ v : V, v = .int k → ∃ u, [v] = [u] ∧ ∀ d, H3 d = none → E (.ref c.i) (some d) (L2.upd H3 d (.xd [(("word" : PySem.Str), u)])) := fun k H3 e hk v hv => ⟨v, rfl, fun d hd => by
    subst hv
    exact qB k hk d _ (e.trans (same_new hd)) upd_same⟩
  have hcom := names_get _ k1'
  cases r with
  | nil =>
    refine s_if (b := true) (et_or (a := true) (b := false) (ev_test (ev_op (ev_cb (ea_cons (ev_var rfl aW2) ea_nil) rc_lenL) ev_int ro_cmp)) fun z => nomatch z) (fun _ H3 e3 => ?_) fun z => nomatch z
    exact bad 2 H3 (e02.trans e3) (by rw [due_1, if_neg (fun z => z hxa), if_neg hxq]) _ rfl
  | cons v r2 =>
    refine s_if (et_or (et_is (b' := false) (ev_test (ev_op (ev_cb (ea_cons (ev_var rfl aW2) ea_nil) rc_lenL) ev_int ro_cmp)) (by simp; omega)) fun _ => ev_dnot (ev_op (ev_var rfl aW2) ev_int ro_ixl1) rfl hd) (fun hb H3 e3 => ?_) fun hb H3 e3 => ?_
    · have hv : v ∉ (nsF s.n (ar s.A) s.b x).map sI := by
        intro hv
        obtain ⟨k, hk, ek⟩ := List.mem_map.mp hv
        rw [(hcom v).2 k hk ek] at hb
        cases hb
      exact bad 2 H3 (e02.trans e3) (by rw [due_2, if_neg (fun z => z hxa), if_neg hxq, if_pos hv]) _ rfl
    have hv : v ∈ (nsF s.n (ar s.A) s.b x).map sI := by
      by_cases hv : v ∈ (nsF s.n (ar s.A) s.b x).map sI
      · exact hv
      · rw [(hcom v).1 hv] at hb
        cases hb
    have e03 := e02.trans e3
    refine s_if (ev_test (ev_op (ev_cb (ea_cons (ev_var rfl (aW2.mono e3)) ea_nil) rc_lenL) ev_int ro_cmp)) (fun hb H4 e4 => ?_) fun hb H4 e4 => ?_
    · have hr2 : r2 ≠ [] := by
        intro z
        subst z
        simp at hb
      exact bad 3 H4 (e03.trans e4) (by rw [due_2, if_neg (fun z => z hxa), if_neg hxq, if_neg (fun z => z hv), if_pos hr2]) _ rfl
    have hr2 : r2 = [] := by
      cases r2 with
      | nil => rfl
      | cons y r2 => simp at hb; omega
    subst hr2
    obtain ⟨m1, m2⟩ := kOf_spec hv
    have m3 := k1 _ m1
    have e04 := e03.trans e4
    exact s_ret (ev_call (ea_cons (en H4 e04 _ rfl) (ea_cons (ev_dget (ev_op (ev_var rfl (aW2.mono (e3.trans e4))) ev_int ro_ixl1) rfl ((e3.trans e4) _ _ hd) ((hcom v).2 _ m1 m2)) ea_nil)) ⟨s.n, s.b, _, rfl, by omega, Sb, m3.1, m3.2, rfl⟩) fun v' H5 e5 av => qS _ (by rw [due_2, if_neg (fun z => z hxa), if_neg hxq, if_neg (fun z => z hv), if_neg (by simp)]) v' H5 (e04.trans e5) av
end
end Hd
set_option Elab.async false
set_option linter.all false
set_option maxRecDepth 100000
set_option maxHeartbeats 4000000
/-! Handons: the desk: run. -/
namespace Hd
open PySem PySem.Spec PyProof.Rows L2
def dsL : List PySem.Str := ["light", "quench"]
theorem all_mem {w : PySem.Str} : w ∈ allL ↔ w ∈ dsL ∨ w ∈ qsL := by
  have e : allL = dsL ++ qsL := rfl
  rw [e, List.mem_append]
section
variable {P : Program} {w : World} {K : PySem.W.Frag} {mg : PySem.Str → Option Value} {base : Heap} {f C : Addr} {fd : FuncData}
theorem ev_const {σ : L2.St} {H : Hp} {v : V} {d : PyData} (h : ∀ H, At K H v d) : Ev K (tC v) σ H d := fun H1 e Q q => q v H1 (Same.refl H1) (h H1)
theorem k_ls : kitB "list" "str" = some false := by decide +kernel
def spRun (K : PySem.W.Frag) (C : Addr) (c : Ers) : Sp := fun vs H Q E => ∃ p lp lf s vt, vs = [.ref p, vt] ∧ DeskAt K H C p lp lf s ∧ DOk s ∧ s.past.length ≤ 1000 ∧
  ((∃ d, At K H vt d ∧ (d = .none ∨ ∃ l, d = .list l) ∧ ∀ H', Same H H' → E (.ref c.t) none H') ∨
  (∃ t, vt = .str t ∧ t.length ≤ 1000 ∧
    (∀ k, dueF s.n (ar s.A) s.b (has s.g) (wordsF t) = .bad k → ∀ d H', Same H H' → H' d = some (.xd [(("word" : PySem.Str), .int k)]) → E (.ref c.i) (some d) H') ∧
    (∀ x, dueF s.n (ar s.A) s.b (has s.g) (wordsF t) = .told x → ∀ H', Same H H' → Q (.str x) H') ∧
    (∀ b', dueF s.n (ar s.A) s.b (has s.g) (wordsF t) = .step b' → ∀ lf' H', H lf' = none → FrD p lp lf H H' → DeskAt K H' C p lp lf' ⟨s.n, s.A, s.g, b', s.past ++ [(s.b, t)], []⟩ → Q .non H')))
theorem sc_Desk_run : FnScope ["self", "text", "words", "there", "word"] ["self", "text"] (defScope (sD 7)) := ⟨rfl, rfl, rfl, by decide +kernel, rfl, by decide +kernel, by decide +kernel⟩
theorem ok_run (F : FunD K "run" "Desk.run" (defArgs (sD 7)) (defBody (sD 7)) (defScope (sD 7)) [] [] f fd) (T : Fre mg) (Y : DeskTxt K C) {c : Ers} {fI aD aQ : Addr} (TI : Hdx.InvTxt P K mg c.i fI) (Z_NotText : OwnX K mg "NotText" c.t)
    (g_DEEDS : mg "DEEDS" = some (.ref aD)) (r_DEEDS : L2.RelV (.ref aD) (.ref aD)) (hDe : ∀ H, At K H (.ref aD) (.tuple (dsL.map PyData.str))) (g_QUESTIONS : mg "QUESTIONS" = some (.ref aQ)) (r_QUESTIONS : L2.RelV (.ref aQ) (.ref aQ)) (hQu : ∀ H, At K H (.ref aQ) (.tuple (qsL.map PyData.str)))
    (m_told : CalM P w K mg base C CX0 8 "told" ["self", "word"] (spTold K C)) (m_after : CalM P w K mg base C (L2.CX P w) 3 "after" ["self", "words"] (spAfter K C c)) : FnOk P w K mg base (L2.CX P w) 9 f fd ["self", "text"] (spRun K C c) := by
  have nd := sc_Desk_run.nd
  refine okX F sc_Desk_run (fun vs H Q E ⟨p, lp, lf, s, vt, e, _⟩ => by rw [e]; rfl) fun cdv A0 outer s0 H vs Q E hr h => ?_
  obtain ⟨p, lp, lf, s, vt, rfl, hD, hOk, lP, hc⟩ := h
  obtain ⟨W, Sg, Sb⟩ := id hOk
  obtain ⟨dx, vw, vg, vn, xs, ys, h1, h2, h3, h4, h5, h6, h7, h8, h9⟩ := id hD.ex
  have np1 : p ≠ lp := ne_of h1 h5 (by intro z; cases z)
  have np2 : p ≠ lf := ne_of h1 h7 (by intro z; cases z)
  refine ⟨_, (pss_cons (ps_if (pt_not (pt_val (pe_callB call_isi (by rfl) T.f_isinstance (by decide +kernel) (pa_cons (pv 1) (pa_cons (T.n_str) pa_nil)))))
      (pss_one (ps_raise rfl (takes_of rfl rfl rfl rfl) (pmk_own0 PySem.F.excBase_ValueError Z_NotText.q Z_NotText.g Z_NotText.kp (raises_own Z_NotText.b Z_NotText.t) (by rfl))))
      pss_nil)
    (pss_cons (ps_setLc (i := 2) (own := [("word", 4)]) (g := (gName 4)) rfl nd rfl rfl (sw_true rfl rfl rfl (by decide +kernel)) (pi_list (pe_split (pv 1) pe_str)) (blkOk_by (by kernel_rfl)) (fun _ _ _ _ _ => (pg_name (i := 4) nd rfl (.inl rfl))) (fun _ _ _ _ _ => pts_one (pt_cmpR op_ne (pv 4) pe_str (nomark _))) (fun _ _ _ _ _ => (pv 4)))
    (pss_cons (ps_if (PW.pt (pw_or (pt_cmpR (k_eq0 (K := K) rfl (hu_of hr)) (pv 2) (pe_lst pa_nil) (nomark _)) (pw_or1 (PW.pt (pw_and (pt_cmpR (k_no (K := K) rfl) (pe_ix (k_ixl (K := K) rfl) (pv 2) pe_int (fun _ _ => rfl)) (pe_glob rfl g_DEEDS r_DEEDS) (by rfl)) (pw_and1 (pt_cmpR (k_no (K := K) rfl) (pe_ix (k_ixl (K := K) rfl) (pv 2) pe_int (fun _ _ => rfl)) (pe_glob rfl g_QUESTIONS r_QUESTIONS) (by rfl))))))))
      (pss_one (ps_raiseInv rfl TI hr (takes_of rfl rfl rfl rfl) (pa_cons pe_int pa_nil)))
      pss_nil)
    (pss_cons (ps_if (pt_cmpR (k_in (K := K) rfl) (pe_ix (k_ixl (K := K) rfl) (pv 2) pe_int (fun _ _ => rfl)) (pe_glob rfl g_QUESTIONS r_QUESTIONS) (by rfl))
      (pss_cons (ps_if (pt_cmpR op_gt (pe_callB call_len_seq (by rfl) T.f_len (by decide +kernel) (pa_cons (pv 2) pa_nil)) pe_int (nomark _))
        (pss_one (ps_raiseInv rfl TI hr (takes_of rfl rfl rfl rfl) (pa_cons pe_int pa_nil)))
        pss_nil)
      (pss_one (ps_ret (m_told.call hr (pv 0) Y.cl (pa_cons (pe_ix (k_ixl (K := K) rfl) (pv 2) pe_int (fun _ _ => rfl)) pa_nil) pass0))))
      pss_nil)
    (pss_cons (ps_set (i := 3) nd rfl (.inl rfl) (m_after.call hr (pv 0) Y.cl (pa_cons (pv 2) pa_nil) (passes_call (takes_of rfl rfl rfl rfl) fun _ _ _ _ h => h)))
    (pss_cons (ps_expr (pe_bm PySem.F.plainAttrs_list PySem.F.slot_list_append PySem.F.type_list_append mt_append (pe_fld (pv 0) rfl) (pa_cons (pe_tup (pa_cons (pe_fld (pv 0) rfl) (pa_cons (pv 1) pa_nil))) pa_nil)))
    (pss_cons (ps_asg (pe_tup (pa_cons (pv 3) (pa_cons (pe_lst pa_nil) pa_nil))) (pg_tup rfl (pgs_cons (pg_fld (pv 0)) (pgs_cons (pg_fld (pv 0)) pgs_nil))))
    (pss_one (ps_ret pe_non))))))))), ?_⟩
  rcases hc with ⟨d, ad, hd, hE⟩ | ⟨t, rfl, lt, qB, qT, qS⟩
  · have hk : kitB (tyN d) "str" = some false := by
      rcases hd with rfl | ⟨l, rfl⟩
      · exact k_ns
      · exact k_ls
    refine s_if (et_is (b' := true) (et_not (ev_B (ev_isi (ev_var rfl ad) hk))) rfl) (fun _ H1 e1 => hE H1 e1) fun e => nomatch e
  refine s_if (et_is (b' := false) (et_not (ev_B (ev_isi (ev_var (K := K) rfl (.str t)) k_ss))) rfl) (fun e => nomatch e) fun _ H1 e1 => ?_
  have ls := split_len t " "
  have lw := words_len t
  refine s_set (ev_is (ev_lc (Txt.split t " ") PyData.str (fun w => !decide (w = "")) PyData.str (ei_list (ev_split (ev_var (K := K) rfl (.str t)) ev_str (by decide +kernel) (by omega))) (by omega) (fun _ _ _ => rfl) fun x hx v H2 e2 av => item1 rfl (ev_test (ev_op (ev_var rfl av) ev_str ro_neS)) fun _ => ev_var rfl av) (d' := .list ((wordsF t).map PyData.str)) rfl) fun v2 H2 e2 a2 => ?_
  generalize hws : wordsF t = ws at *
  have e12 := e1.trans e2
  have bad : ∀ k H3, Same H H3 → dueF s.n (ar s.A) s.b (has s.g) ws = .bad k → ∃ u, [V.int k] = [u] ∧ ∀ d, H3 d = none → E (.ref c.i) (some d) (L2.upd H3 d (.xd [(("word" : PySem.Str), u)])) := fun k H3 e hk => ⟨_, rfl, fun d hd => qB k hk d _ (e.trans (same_new hd)) upd_same⟩
  cases ws with
  | nil =>
    refine s_if (b := true) (et_or (a := true) (b := false) (ev_test (ev_op (ev_var rfl a2) (ev_lst ea_nil) ro_eq0)) fun z => nomatch z) (fun _ H3 e3 => ?_) fun z => nomatch z
    exact bad 1 H3 (e12.trans e3) rfl
  | cons x r =>
    refine s_if (et_or (a := false) (ev_test (ev_op (ev_var rfl a2) (ev_lst ea_nil) ro_eq0)) fun _ => et_and (ev_test (ev_op (ev_op (ev_var rfl a2) ev_int ro_ixl0) (ev_const hDe) (ro_inST (neg := true)))) fun _ => ev_test (ev_op (ev_op (ev_var rfl a2) ev_int ro_ixl0) (ev_const hQu) (ro_inST (neg := true)))) (fun hb H3 e3 => ?_) fun hb H3 e3 => ?_
    · have hx : x ∉ allL := by
        rw [all_mem]
        simpa using hb
      exact bad 1 H3 (e12.trans e3) (due_no _ hx)
    have hx : x ∈ allL := by
      rw [all_mem]
      by_cases h : x ∈ dsL
      · exact .inl h
      · refine .inr ?_
        simpa [h] using hb
    have e13 := e12.trans e3
    have a2 := a2.mono e3
    refine s_if (ev_test (ev_op (ev_op (ev_var rfl a2) ev_int ro_ixl0) (ev_const hQu) (ro_inST (neg := false)))) (fun hb H4 e4 => ?_) fun hb H4 e4 => ?_
    · have hq : x ∈ qsL := by simpa using hb
      have e14 := e13.trans e4
      have a2 := a2.mono e4
      refine s_if (ev_test (ev_op (ev_cb (ea_cons (ev_var rfl a2) ea_nil) rc_lenL) ev_int ro_cmp)) (fun hb H5 e5 => ?_) fun hb H5 e5 => ?_
      · have hr' : r ≠ [] := by
          intro z
          subst z
          simp at hb
        exact bad 2 H5 (e14.trans e5) (due_q2 hx hq hr')
      have hr' : r = [] := by
        cases r with
        | nil => rfl
        | cons y r => simp at hb; omega
      subst hr'
      have e15 := e14.trans e5
      refine ⟨_, rfl, p, dx, _, rfl, e15 _ _ h1, by rfl, ?_⟩
      refine (ea_cons (ev_op (ev_var rfl (a2.mono e5)) ev_int ro_ixl0) ea_nil) H5 (Same.refl _) _ fun vs H6 e6 avs => ?_
      obtain ⟨v, rfl, av⟩ := ats1 avs
      rw [at_str av]
      have e16 := e15.trans e6
      exact ⟨p, lp, lf, s, x, rfl, hD.mono e16, hOk, hq, fun v H7 e7 av => by
        rw [at_str av]
        exact qT _ (by rw [due_1, if_neg (fun z => z hx), if_pos hq]) H7 (e16.trans e7)⟩
    · have hq : x ∉ qsL := by simpa using hb
      have e14 := e13.trans e4
      have a2 := a2.mono e4
      have lr : r.length ≤ 5000 := by
        have : (x :: r).length ≤ t.length + 2 := lw
        simp at this
        omega
      refine ⟨_, rfl, p, dx, _, rfl, e14 _ _ h1, by rfl, _, rfl, p, lp, lf, s, v2, x, r, rfl, hD.mono e14, hOk, a2, hx, hq, lr, fun k hk d H' e' hd => qB k hk d H' (e14.trans e') hd, fun b' hb' v3 H5 e5 a3 => ?_⟩
      have e15 := e14.trans e5
      -- self.past.append((self.now, text))
      have g1 := e15 _ _ h1
      refine ⟨_, rfl, p, C, dx, _, _, rfl, g1, Y.cl, Y.nP, dF_past, .inl ⟨rfl, _, SqL.of (e15 _ _ h5)⟩, ?_⟩
      refine (ev_tup (ea_cons (ev_fld rfl g1 Y.cl Y.nN dF_now (h4.mono e15)) (ea_cons (ev_var (K := K) rfl (.str t)) ea_nil))) _ (Same.refl _) _ fun tv H6 e6 at6 => ?_
      have e16 := e15.trans e6
      have k5 := e16 _ _ h5
      refine ⟨lp, xs, tv, rfl, rfl, k5, by rw [h6.len, List.length_map]; exact Nat.lt_of_le_of_lt lP (by decide), ?_⟩
      have t7 : Tups H6 (L2.upd H6 lp (.lst (xs ++ [tv]))) := Tups.lst k5
      have g7 : (L2.upd H6 lp (.lst (xs ++ [tv]))) p = some (.ins C dx (dF vw vg vn lp lf)) := by rw [upd_ne np1]; exact e16 _ _ h1
      -- (self.now, self.future) = (there, [])
      refine ⟨_, rfl, Nat.zero_le _, fun l hl => ⟨Nat.le_of_ble_eq_true rfl, fun tq htq => ?_⟩⟩
      have s8 := same_new (o := .lst []) hl
      have s9 := same_new (o := .tup [v3, .ref l]) htq
      have g9 := s9 _ _ (s8 _ _ g7)
      have npl : p ≠ l := ne_of_none g7 hl
      refine ⟨tq, [v3, .ref l], rfl, .inl (.inl upd_same), rfl, _, _, rfl, ⟨_, rfl, p, C, dx, _, rfl, g9, Y.cl, Y.nN, Nat.le_of_ble_eq_true rfl, _, _, rfl, ⟨_, rfl, p, C, dx, _, rfl, upd_same, Y.cl, Y.nF, Nat.le_of_ble_eq_true rfl, rfl, ?_⟩⟩⟩
      rw [dF_put_now, dF_put_future]
      have t9 := (Same.tups s8).trans (Same.tups s9)
      have t10 : Tups (L2.upd (L2.upd (L2.upd H6 lp (.lst (xs ++ [tv]))) l (.lst [])) tq (.tup [v3, .ref l])) (L2.upd (L2.upd (L2.upd (L2.upd H6 lp (.lst (xs ++ [tv]))) l (.lst [])) tq (.tup [v3, .ref l])) p (.ins C dx (dF vw vg v3 lp lf))) := Tups.ins g9
      have t11 : Tups (L2.upd (L2.upd (L2.upd (L2.upd H6 lp (.lst (xs ++ [tv]))) l (.lst [])) tq (.tup [v3, .ref l])) p (.ins C dx (dF vw vg v3 lp lf))) (L2.upd (L2.upd (L2.upd (L2.upd (L2.upd H6 lp (.lst (xs ++ [tv]))) l (.lst [])) tq (.tup [v3, .ref l])) p (.ins C dx (dF vw vg v3 lp lf))) p (.ins C dx (dF vw vg v3 lp l))) := Tups.ins upd_same
      have t6 := t7.trans (t9.trans (t10.trans t11))
      have t0 := (Same.tups e16).trans t6
      have nlp : lp ≠ l := ne_of_none upd_same hl
      have ntp : p ≠ tq := ne_of_none (s8 _ _ g7) htq
      have ntlp : lp ≠ tq := ne_of_none (s8 _ _ upd_same) htq
      have ntl : l ≠ tq := ne_of_none upd_same htq
      have hlH : H l = none := by
        cases z : H l with
        | none => rfl
        | some o =>
          have := e16 _ _ z
          rw [upd_ne nlp.symm] at hl
          rw [hl] at this
          cases this
      refine qS b' hb' l _ hlH (fun b o n1 n2 n3 ho => ?_) ⟨dx, vw, vg, v3, xs ++ [tv], [], upd_same, h2.tups t0 (imm_web _ _), h3.tups t0 (imm_tI _), (a3.mono e6).tups t6 (imm_tI _), ?_, ?_, ?_, .nil, nlp⟩
      · have hb6 := e16 _ _ ho
        have nl : b ≠ l := ne_of_none ho hlH
        have s67 : (L2.upd H6 lp (.lst (xs ++ [tv]))) b = some o := by rw [upd_ne n2]; exact hb6
        have nt : b ≠ tq := ne_of_none (s8 _ _ s67) htq
        rw [upd_ne n1, upd_ne n1, upd_ne nt, upd_ne nl]
        exact s67
      · rw [upd_ne np1.symm, upd_ne np1.symm, upd_ne ntlp, upd_ne nlp, upd_same]
      · rw [List.map_append]
        exact (h6.tups t0 (imm_st _)).app (.cons (at6.tups t6 (by simp only [imm, imm.immAll, Bool.true_and, Bool.and_true]; exact imm_ints _)) .nil)
      · rw [upd_ne npl.symm, upd_ne npl.symm, upd_ne ntl, upd_same]
end
end Hd
set_option Elab.async false
set_option linter.all false
set_option maxRecDepth 100000
set_option maxHeartbeats 4000000
/-! Handons: a lambda with one default, handed to a def that calls it without arguments; str.replace where a token is out. -/
namespace Hd
open PySem PySem.Spec PyProof.Rows L2
/-! ### replace -/
section
variable {X : Cx}
theorem pe_opT {op : Operator} {r : R2} {c : PySem.Str} {j : Nat} {p pos : Pos} {f : Expr} {tf : TE} (ho : OpR X (binaryOp op) r) (hb : PET X f tf) : PE X (.BinOp (.Constant (.str c) j p) op f pos) (tOp r (tC (.str c)) tf) := by
  refine ⟨fun pins s σ H Q I h => ?_⟩
  refine wpAny_BinOp (Calls.Constant_str ?_)
  exact thn (hb pins { s with toks := s.toks + 1 } σ H _ (by show 1 ≤ s.toks + 1; omega) (I.tok _) h) fun u s2 ⟨y, H2, I2, r2, q2⟩ => ho pins s2 σ H2 (.str c) y _ u Q I2 ⟨_, rfl⟩ r2 q2
theorem ev_repl {K : PySem.W.Frag} {σ : L2.St} {H : Hp} {te : TE} {x y z : PySem.Str} (h : Ev K te σ H (.str x)) (hl : x.length + (x.length + 1) * z.length ≤ 16777216) : Ev K (CwR.tReplC te y z) σ H (.str (Txt.replace x y z)) := fun H1 e Q q => h H1 e _ fun v H2 e2 av => by
  rw [at_str av]
  exact ⟨x, rfl, hl, q _ H2 e2 (.str _)⟩
end
/-! ### the maker's end -/
abbrev dfn (dv : Value) (q : PySem.Str) (params : Arguments) (body : Expr) (scope : Scope) (cl : List (PySem.Str × Addr)) (pm cdv ct : Value) : FuncData := { PySem.W.kla_fn "<lambda>" q params body scope cl pm cdv ct with defaults := dv }
abbrev dob (dv : Value) (q : PySem.Str) (params : Arguments) (body : Expr) (scope : Scope) (cl : List (PySem.Str × Addr)) (pm cdv ct : Value) : Obj := { cls := .type "function", data := .func (dfn dv q params body scope cl pm cdv ct) }
section
open PySem.W PySem.Calls
variable {M : Model} {A : Around} {E : Value → Shared → Prop} {s : Shared} {q : PySem.Str} {params : Arguments} {body : Expr} {scope : Scope} {env : Env} {c P : Addr} {ps : Array Value} {pos : Pos} {line : Nat} {mg : PySem.Str → Option Value} {clos : List (PySem.Str × Addr)} {Q : Value → Shared → Prop} {dv : Value}
theorem tail_new (hcl : closureFor scope env = pure clos) (hge0 : env.globals = mainGlobals) (hg : s.heap.Ns mainGlobals mg) (hcode : env.code = .ref c) (C : CodeHd s.heap c P) (hP : s.heap.get? P = some (tabObj ps)) (ht : TriplesOk ps.toList)
    (hnf : codeAmong pos ps.toList = none) (hgP : mainGlobals ≠ P) (hb : s.heap.BuiltinsAt mg P)
    (h : ∀ c' ctv h' tk, Heap.ExtBut P s.heap h' → s.heap.objs.size ≤ c' → c' < h'.objs.size → h'.CodeRec (.ref c') q → h'.get? P = some (tabObj (ps ++ #[rawInt pos.line, rawInt pos.col, .ref c'])) →
      Q (.ref h'.objs.size) { s with heap := h'.push (dob dv q params body scope clos ((mg "__name__").getD .none) (.ref c') ctv), toks := tk }) :
    wpAny M A (makeTail "<lambda>" q params (.expr body) scope env dv .none none pos line) Q E s := by
  obtain ⟨bm, ob, hbm, hne0, _, hneP, hbo, hcls, hdict, hdata⟩ := hb
  unfold makeTail
  rw [hcl, hge0]
  refine wpAny_bind (wpAny_pure ?_)
  cases clos with
  | nil =>
    simp only [List.isEmpty_nil, if_true]
    refine wpAny_bind (wpAny_pure ?_)
    refine wpAny_bind (wpAny_functionCodeX hcode (C.code hP ht) (C.tab hP) hnf fun c' h' tk hx hge hlt _ hrec htb _ => ?_)
    have hg' := hg.extBut hx hgP
    refine wpAny_bind (wpAny_builtinsFor hg' hbm hne0 (hx _ _ hneP hbo) hcls hdict hdata ?_)
    refine wpAny_bind (wpAny_nsGet hg' ?_)
    exact wpAny_bind (wpAny_pure (wpAny_newObj_type (h c' .none h' tk hx hge hlt hrec htb.2) (by size_fits)))
  | cons z r =>
    simp only [List.isEmpty_cons, Bool.false_eq_true, if_false]
    refine wpAny_bind (wpAny_newTextTuple ?_)
    refine wpAny_bind (wpAny_functionCodeX hcode ((C.keeps fun b o e => Heap.get?_push_of_some _ e).code (Heap.get?_push_of_some _ hP) ht) ((C.keeps fun b o e => Heap.get?_push_of_some _ e).tab (Heap.get?_push_of_some _ hP)) hnf fun c' h' tk hx hge hlt _ hrec htb _ => ?_)
    have hg' := (hg.push _).extBut hx hgP
    have hx' : Heap.ExtBut P s.heap h' := fun b o hb' e => hx b o hb' (Heap.get?_push_of_some _ e)
    have hge' : s.heap.objs.size ≤ c' := Nat.le_trans (by rw [Heap.size_push]; omega) hge
    refine wpAny_bind (wpAny_builtinsFor hg' hbm hne0 (hx' _ _ hneP hbo) hcls hdict hdata ?_)
    refine wpAny_bind (wpAny_nsGet hg' ?_)
    exact wpAny_bind (wpAny_pure (wpAny_newObj_type (h c' _ h' tk hx' hge' hlt hrec htb.2) (by size_fits)))
theorem tail_hit {cv : Value} (hcl : closureFor scope env = pure clos) (hge0 : env.globals = mainGlobals) (hg : s.heap.Ns mainGlobals mg) (hcode : env.code = .ref c) (C : CodeHd s.heap c P) (hP : s.heap.get? P = some (tabObj ps)) (ht : TriplesOk ps.toList)
    (hf : codeAmong pos ps.toList = some cv) (hb : s.heap.BuiltinsAt mg P)
    (h : ∀ (ctv : Value) (h' : Heap) (tk : Tok), (∀ b o, s.heap.get? b = some o → h'.get? b = some o) → s.heap.objs.size ≤ h'.objs.size →
      Q (.ref h'.objs.size) { s with heap := h'.push (dob dv q params body scope clos ((mg "__name__").getD .none) cv ctv), toks := tk }) :
    wpAny M A (makeTail "<lambda>" q params (.expr body) scope env dv .none none pos line) Q E s := by
  obtain ⟨bm, ob, hbm, hne0, _, hneP, hbo, hcls, hdict, hdata⟩ := hb
  unfold makeTail
  rw [hcl, hge0]
  refine wpAny_bind (wpAny_pure ?_)
  cases clos with
  | nil =>
    simp only [List.isEmpty_nil, if_true]
    refine wpAny_bind (wpAny_pure ?_)
    refine wpAny_bind (wpAny_functionCode_hit hcode (C.code hP ht) hf ?_)
    refine wpAny_bind (wpAny_builtinsFor hg hbm hne0 hbo hcls hdict hdata ?_)
    refine wpAny_bind (wpAny_nsGet hg ?_)
    exact wpAny_bind (wpAny_pure (wpAny_newObj_type (h .none s.heap s.toks (fun _ _ e => e) (Nat.le_refl _)) (by size_fits)))
  | cons z r =>
    simp only [List.isEmpty_cons, Bool.false_eq_true, if_false]
    refine wpAny_bind (wpAny_newTextTuple ?_)
    refine wpAny_bind (wpAny_functionCode_hit hcode ((C.keeps fun b o e => Heap.get?_push_of_some _ e).code (Heap.get?_push_of_some _ hP) ht) hf ?_)
    refine wpAny_bind (wpAny_builtinsFor (hg.push _) hbm hne0 (Heap.get?_push_of_some _ hbo) hcls hdict hdata ?_)
    refine wpAny_bind (wpAny_nsGet (hg.push _) ?_)
    have hsz : ∀ oT : Obj, s.heap.objs.size ≤ (s.heap.push oT).objs.size := fun oT => by rw [Heap.size_push]; omega
    exact wpAny_bind (wpAny_pure (wpAny_newObj_type (h _ _ s.toks (fun b o e => Heap.get?_push_of_some _ e) (hsz _)) (by size_fits)))
end
section
variable {X : Cx} {pins : List (Addr × Obj)} {σ : L2.St} {H HZ : Hp} {s s1 : Shared}
abbrev dTup (u : Value) : Obj := { cls := .type "tuple", data := .seq [u].toArray }
/-- the lambda is made: its code object is new, or found in the table; the default stands in a new tuple -/
theorem lamD_make {T : List (Addr × PySem.Str)} {c P : Addr} {params : Arguments} {body : Expr} {scope : Scope} {pos dp : Pos} {z : Int} {j : Nat} {Q : Value → Shared → Prop} (I : Inv X pins σ H s) (TB : LamX.TabB X.base X.mg c P) (hcode : X.env.code = .ref c)
    (hm : (P, X.env.qual ++ "<lambda>") ∈ T) (hu : ∀ p ∈ T, p.1 = P → p.2 = X.env.qual ++ "<lambda>") (hT : LamX.Tabs T H) (hdef : defaultsOf params X.env = ([eval (.Constant (.int z) j dp) X.env], [])) (hfree : ∀ y ∈ scope.names, y.2 = .free → ∃ c, X.env.cells.lookup y.1 = some c)
    (h : ∀ (f c' d : Addr) (u pm ctv : Value) (H1 : Hp) (s' : Shared), Inv X pins σ H1 s' → LamX.ExtN H H1 → LamX.Tabs T H1 →
      s'.heap.get? f = some (dob (.ref d) (X.env.qual ++ "<lambda>") params body scope (cloFrom X.env.cells scope.names []) pm (.ref c') ctv) → H1 f = none → f ∉ frs X.stack → H1 c' = some (LamX.CodeO c' (X.env.qual ++ "<lambda>")) →
      s'.heap.get? d = some (dTup u) → H1 d = none → d ∉ frs X.stack → Q (.ref f) s') :
    wpAny (model X.prog X.w) X.A (eval (.Lambda params body scope pos) X.env) Q X.xe s := by
  obtain ⟨ps, hP, ht, ha⟩ := hT _ hm
  rw [arm_eval_Lambda, hdef]
  show wpAny _ _ (do let dv ← evalAll [eval (.Constant (.int z) j dp) X.env]; let kdv ← holding dv (evalAllOpt []); makeFunction "<lambda>" (X.env.qual ++ "<lambda>") params (.expr body) scope X.env dv kdv [] pos pos.line) _ _ s
  refine wpAny_bind (wpAny_evalAll_cons (thn (pe_int.run pins s σ H (fun v H1 => H1 = H) I rfl) fun u s1 ⟨v, H0, I1, r1, e0⟩ => ?_))
  subst e0
  refine wpAny_evalAll_nil (wpAny_bind (wpAny_holding (wpAny_pure ?_)))
  rw [makeFunction_eq]
  simp only [List.zip_nil_right, List.filterMap_nil, List.isEmpty_nil, List.isEmpty_cons, if_true, Bool.false_eq_true, if_false, pure_bind]
  refine wpAny_bind (wpAny_newTextTuple ?_)
  have I2 : Inv X pins σ H0 { s1 with heap := s1.heap.push (dTup u) } := I1.kept fun b o e => Heap.get?_push_of_some _ e
  have hd0 : H0 s1.heap.objs.size = none := I1.hok.fresh (Nat.le_refl _)
  have hgd : (s1.heap.push (dTup u)).get? s1.heap.objs.size = some (dTup u) := Heap.get?_push_size _ rfl
  have hPs := Heap.lt_size (I1.hok P _ hP)
  have nofr : ∀ f, s1.heap.objs.size ≤ f → f ∉ frs X.stack := fun f hf z => by
    rcases List.mem_cons.mp (I1.stkSub _ z) with e | e
    · have h1 := I1.lt
      rw [← e] at h1
      exact Nat.lt_irrefl _ (Nat.lt_of_lt_of_le h1 hf)
    · exact I1.nofs hf e
  have hszp : (s1.heap.push (dTup u)).objs.size = s1.heap.objs.size + 1 := Heap.size_push ..
  have hds : s1.heap.objs.size < (s1.heap.push (dTup u)).objs.size := by rw [hszp]; omega
  generalize hs2 : s1.heap.push (dTup u) = h2 at *
  have bP : h2.BuiltinsAt X.mg P := TB.bm.keeps I2.bk
  have hP' : h2.get? P = some { cls := .none, data := .fields ps } := I2.hok P _ hP
  cases hc : codeAmong pos ps.toList with
  | none =>
    refine tail_new (mg := X.mg) (c := c) (P := P) (ps := ps) (closure_ok hfree) I2.ok.glob (I2.mod.glob.keeps I2.bk) hcode (TB.code.keeps I2.bk) hP' ht hc TB.gP bP fun c' ctv h' tk hx hge hlt hrec htb => ?_
    obtain ⟨c2, oc, vs, t, e2, hoc, hd, hv⟩ := hrec
    cases e2
    have hge : h2.objs.size ≤ c' := hge
    have hsz : h2.objs.size ≤ h'.objs.size := Nat.le_trans hge (Nat.le_of_lt hlt)
    have nC : H0 c' = none := I2.hok.fresh hge
    have I3 := LamX.inv_table (t' := tk) (more := #[rawInt pos.line, rawInt pos.col, .ref c']) (h' := h'.push (dob (.ref s1.heap.objs.size) (X.env.qual ++ "<lambda>") params body scope (cloFrom X.env.cells scope.names []) ((X.mg "__name__").getD .none) (.ref c') ctv)) I2 hP
      (fun b o hb e => Heap.get?_push_of_some _ (hx b o hb e)) (Heap.get?_push_of_some _ htb) hge ⟨oc, vs, t, Heap.get?_push_of_some _ hoc, hd, hv⟩
    have hE : LamX.ExtN H0 (upd (upd H0 P (.tbl (ps ++ #[rawInt pos.line, rawInt pos.col, .ref c']))) c' (LamX.CodeO c' (X.env.qual ++ "<lambda>"))) := fun b o e n => by
      rw [upd_ne (ne_of_none e nC), upd_ne (fun z => n ps (Option.some.inj (e.symm.trans (by rw [z]; exact hP))))]
      exact e
    have eL : (ps ++ #[rawInt pos.line, rawInt pos.col, .ref c']).toList = ps.toList ++ [rawInt pos.line, rawInt pos.col, .ref c'] := by simp
    have ndP : s1.heap.objs.size ≠ P := Nat.ne_of_gt hPs
    refine h h'.objs.size c' s1.heap.objs.size u ((X.mg "__name__").getD .none) ctv _ _ I3 hE (fun p hp => ?_) (Heap.get?_push_size _ rfl) ?_ (nofr _ (Nat.le_trans (Nat.le_of_lt hds) hsz)) upd_same (Heap.get?_push_of_some _ (hx _ _ ndP hgd)) ?_ (nofr _ (Nat.le_refl _))
    · by_cases hb : p.1 = P
      · rw [hu p hp hb, hb]
        refine ⟨_, by rw [upd_ne (ne_of_none hP nC), upd_same], by rw [eL]; exact PySem.TriplesOk_snoc _ _ _ _ ht, fun p' cv hcv => ?_⟩
        rw [eL] at hcv
        rcases LamX.among_app _ ht hcv with z | z
        · obtain ⟨c0, e1, e2⟩ := ha p' cv z
          exact ⟨c0, e1, hE _ _ e2 LamX.codeO_ne⟩
        · exact ⟨c', z, upd_same⟩
      · obtain ⟨ps', a1, a2, a3⟩ := hT p hp
        refine ⟨ps', by rw [upd_ne (ne_of_none a1 nC), upd_ne hb]; exact a1, a2, fun p' cv hcv => ?_⟩
        obtain ⟨c0, e1, e2⟩ := a3 p' cv hcv
        exact ⟨c0, e1, hE _ _ e2 LamX.codeO_ne⟩
    · have n1 : h'.objs.size ≠ c' := Nat.ne_of_gt hlt
      have n3 : s1.heap.objs.size ≤ h'.objs.size := Nat.le_trans (Nat.le_of_lt hds) hsz
      have n2 : h'.objs.size ≠ P := Nat.ne_of_gt (Nat.lt_of_lt_of_le hPs n3)
      rw [upd_ne n1, upd_ne n2]
      exact I1.hok.fresh n3
    · have n1 : s1.heap.objs.size ≠ c' := Nat.ne_of_lt (Nat.lt_of_lt_of_le hds hge)
      rw [upd_ne n1, upd_ne ndP]
      exact hd0
  | some cv =>
    obtain ⟨c', e, hco⟩ := ha pos cv hc
    subst e
    refine tail_hit (mg := X.mg) (c := c) (P := P) (ps := ps) (closure_ok hfree) I2.ok.glob (I2.mod.glob.keeps I2.bk) hcode (TB.code.keeps I2.bk) hP' ht hc bP fun ctv h' tk hx hsz => ?_
    have hsz : h2.objs.size ≤ h'.objs.size := hsz
    have I3 : Inv X pins σ H0 { s1 with heap := h'.push (dob (.ref s1.heap.objs.size) (X.env.qual ++ "<lambda>") params body scope (cloFrom X.env.cells scope.names []) ((X.mg "__name__").getD .none) (.ref c') ctv), toks := tk } := I2.kept fun b o e => Heap.get?_push_of_some _ (hx b o e)
    exact h h'.objs.size c' s1.heap.objs.size u ((X.mg "__name__").getD .none) ctv H0 _ I3 (LamX.ExtN.refl H0) hT (Heap.get?_push_size _ rfl) (I2.hok.fresh hsz) (nofr _ (Nat.le_trans (Nat.le_of_lt hds) hsz)) hco (Heap.get?_push_of_some _ (hx _ _ hgd)) hd0 (nofr _ (Nat.le_refl _))
end
/-! ### its names: a parameter of its own, captured ones, globals -/
structure LamD (N : List PySem.Str) (sc scope : Scope) : Prop where
  kind : scope.kind = .function
  co : scope.isCoroutine = false
  gen : scope.isGenerator = false
  own : ∀ y ∈ scope.names, y.2 ≠ .cell
  loc : ∀ y ∈ scope.names, y.2 = .local → y.1 ∉ N
  free : ∀ y ∈ scope.names, y.2 = .free → sc.names.lookup y.1 = some .cell ∨ sc.names.lookup y.1 = some .free
def lamDB (N : List PySem.Str) (sc scope : Scope) : Bool :=
  decide (scope.kind = .function) && !scope.isCoroutine && !scope.isGenerator && scope.names.all fun y => !decide (y.2 = .cell) && (!decide (y.2 = .local) || !decide (y.1 ∈ N)) && (!decide (y.2 = .free) || decide (sc.names.lookup y.1 = some .cell) || decide (sc.names.lookup y.1 = some .free))
theorem lamD_by {N : List PySem.Str} {sc scope : Scope} (h : lamDB N sc scope = true) : LamD N sc scope := by
  unfold lamDB at h
  simp only [Bool.and_eq_true, Bool.or_eq_true, Bool.not_eq_true', decide_eq_true_eq, decide_eq_false_iff_not, List.all_eq_true] at h
  obtain ⟨⟨⟨h1, h2⟩, h3⟩, h4⟩ := h
  refine ⟨h1, h2, h3, fun y hy => (h4 y hy).1.1, fun y hy e => ?_, fun y hy e => ?_⟩
  · rcases (h4 y hy).1.2 with z | z
    · exact absurd e z
    · exact z
  · rcases (h4 y hy).2 with (z | z) | z
    · exact absurd e z
    · exact .inl z
    · exact .inr z
section
variable {X : Cx} {pins : List (Addr × Obj)} {σ : L2.St} {H HZ : Hp} {s s1 : Shared}
theorem LamD.has {N : List PySem.Str} {scope : Scope} (L : LamD N X.env.scope scope) (ok : X.Ok) : ∀ y ∈ scope.names, y.2 = .free → ∃ c, X.env.cells.lookup y.1 = some c := fun y hy e => by
  rcases L.free y hy e with k | k
  · exact ok.has _ (.inl k)
  · exact ok.has _ (.inr k)
theorem lamD_start {A : Around} {outer : List Env} {E : XK} {scope : Scope} {f c' : Addr} {h₁ : Heap} {tk : Nat} {m : PySem.Str → Option Value} (I : Inv X pins σ H s) (L : LamD X.N X.env.scope scope) (e0 : Env0 X.prog X.w X.K X.mg X.base A outer s1 HZ) (hd : A.handled = none)
    (un : Un (frs X.stack) [] H HZ s.heap s1.heap) (hns : h₁.Ns s1.heap.objs.size m) (kp : ∀ b o, s1.heap.get? b = some o → h₁.get? b = some o) :
    Inv (LamX.lamCx X A outer s1 HZ E scope f c') [] σ HZ { s1 with heap := h₁, toks := tk } := by
  have hfree := L.has I.ok
  have cm : ∀ {y c}, (cloFrom X.env.cells scope.names []).lookup y = some c → X.env.cells.lookup y = some c := fun {y c} e => by
    rcases cloFrom_mem (PySem.mem_of_lookup e) with hm | ⟨h1, h2⟩
    · cases hm
    · obtain ⟨c1, hc⟩ := hfree _ h1 rfl
      have hc : X.env.cells.lookup y = some c1 := hc
      have e2 : c = c1 := by
        rw [h2, hc] <;> rfl
      rw [e2]
      exact hc
  have look : ∀ {y}, scope.names.lookup y = some .free → ∃ c, (cloFrom X.env.cells scope.names []).lookup y = some c := fun {y} hl => by
    have hy : (y, NameKind.free) ∈ scope.names := PySem.mem_of_lookup hl
    exact mem_lookup (cloFrom_has (cells := X.env.cells) (acc := []) hy)
  have cellK : ∀ {c : Addr} {v : Option Value}, H c = none → s.heap.IsCell c v → h₁.IsCell c v := fun {c v} n ⟨o, ho, hd⟩ => by
    obtain ⟨sl, q⟩ := un.any ho n (by simp)
    exact ⟨_, kp _ _ q, hd⟩
  have noA : ∀ b : Addr, b ∉ (LamX.lamCx X A outer s1 HZ E scope f c').ex := fun b z => absurd (show b ∈ ([] : List Addr) from z) (by simp)
  refine ⟨⟨e0.mod, L.kind, rfl, rfl, Nat.le_refl _, fun y z c e1 e2 => I.ok.inj y z c (cm e1) (cm e2), fun y hy => ?_, fun y c z _ => ?_, fun _ => hd, Around.frames_deeper e0.frames, .inr ⟨rfl, rfl⟩, fun b z => absurd z (noA b), e0.bs, e0.bsz, fun b _ _ => noA b,
      fun b z => absurd z (noA b), e0.funs, e0.frf⟩,
    rfl, e0.bare, Un.kept kp, ⟨_, hns, fun i y v e1 e2 e3 => ?_⟩, fun y c e => ?_, e0.hok.fresh (Nat.le_refl _), fun y c e => ?_, fun q hq => absurd (show q ∈ ([] : List (Addr × Obj)) ++ [] from hq) (by simp), e0.hok.kept kp, I.len⟩
  · have hy : scope.names.lookup y = some .cell ∨ scope.names.lookup y = some .free := hy
    rcases hy with hy | hy
    · exact absurd rfl (L.own _ (PySem.mem_of_lookup hy))
    · exact look hy
  · have z : false = true := z
    cases z
  · have e3 : Vis scope y := e3
    rcases e3 with k | k | k
    · exact absurd (List.mem_of_getElem? (show X.N[i]? = some y from e1)) (L.loc _ (PySem.mem_of_lookup k) rfl)
    · exact absurd rfl (L.own _ (PySem.mem_of_lookup k))
    · obtain ⟨m', hn, hl⟩ := I.loc
      have hvis : Vis X.env.scope y := (L.free _ (PySem.mem_of_lookup k) rfl).elim (fun k => .inr (.inl k)) (fun k => .inr (.inr k))
      obtain ⟨w', r, q⟩ := hl i y v e1 e2 hvis
      obtain ⟨c2, h2⟩ := look k
      refine ⟨w', r, .inr ⟨.inr k, c2, h2, ?_⟩⟩
      have c1 := cm h2
      rcases q with ⟨k', _⟩ | ⟨_, c3, e', z⟩
      · have k' : X.env.scope.names.lookup y = some .local := k'
        rcases L.free _ (PySem.mem_of_lookup k) rfl with k2 | k2 <;> rw [show X.env.scope.names.lookup y = _ from k2] at k' <;> cases k'
      · rw [c1] at e'
        cases e'
        exact cellK (I.freeC y _ c1) z
  · obtain ⟨w', z⟩ := I.cell y c (cm e)
    exact ⟨w', cellK (I.freeC y c (cm e)) z⟩
  · obtain ⟨v, o, ho, hd⟩ := I.cell y c (cm e)
    exact un.free c o ho (I.freeC y c (cm e)) (by simp)
/-- binding without arguments: the default takes the parameter's place -/
def BindD (params : Arguments) (body : Expr) (scope : Scope) (a : PySem.Str) : Prop := ∀ (d : Addr) (u : Value) (q : PySem.Str) (cl : List (PySem.Str × Addr)) (pm cv ctv : Value), ∃ k, bindArgs (dfn (.ref d) q params body scope cl pm cv ctv) ⟨[], []⟩ = seqItems? (.ref d) >>= k ∧ k (some [u].toArray) = pure [(a, u)]
/-- x(), in the def that got the lambda -/
theorem pe_actD {CXg : CXT} {Eg : XK} {Ng : List PySem.Str} {qg : PySem.Str} {sg : Scope} {g f c' d : Addr} {u cdg pm ctv : Value} {params : Arguments} {body : Expr} {scope : Scope} {k i : Nat} {a b : PySem.Str} {pn : List (Addr × Obj)} {xe : Value → Shared → Prop} {W : WX} {E : XK} {tb : TE} {p1 p2 : Pos}
    (I : Inv X pins σ H s) (L : LamD X.N X.env.scope scope) (hf : s.heap.get? f = some (dob (.ref d) (X.env.qual ++ "<lambda>") params body scope (cloFrom X.env.cells scope.names []) pm (.ref c') ctv)) (hfn : H f = none) (hfr : f ∉ frs X.stack)
    (hd0 : s.heap.get? d = some (dTup u)) (hdn : H d = none) (hdf : d ∉ frs X.stack) (hbind : BindD params body scope b) (hbl : scope.names.lookup b = some .local)
    (tk : Takes ((cxOf CXg X.prog X.w X.K X.mg X.base Ng qg sg g cdg X.A X.stack s H Eg).tr pn xe) W) (hW : ∀ cls d σ' H', E cls d H' → W cls d σ' H') (hr : Room (k + 1) (X.A.deeper (envOfC qg sg s.heap.objs.size g cdg)))
    (hbody : ∀ (A : Around) (outer : List Env) (s : Shared) (H : Hp), Room k (A.deeper (LamX.lamEnv X scope s.heap.objs.size f c')) → PE (LamX.lamCx X A outer s H E scope f c') body tb)
    (hN : Ng[i]? = some a) (hv : Vis sg a) (hd : (a == ("__debug__" : PySem.Str)) = false := by decide) (hcd : (a == ("__classdict__" : PySem.Str)) = false := by decide) :
    PE ((cxOf CXg X.prog X.w X.K X.mg X.base Ng qg sg g cdg X.A X.stack s H Eg).tr pn xe) (.Call (.Name a p1) [] [] p2)
      (fun σZ HZ Q => σZ[i]? = some (some (.ref f)) ∧ HZ c' = some (LamX.CodeO c' (X.env.qual ++ "<lambda>")) ∧ tb σ HZ Q) := by
  refine ⟨fun pinsZ sZ σZ HZ Q IZ h => ?_⟩
  obtain ⟨hs, hc, ht⟩ := h
  refine wpAny_Call_Name_kw (thn ((pe_var (pos := p1) (i := i) hN hv hd hcd).run pinsZ sZ σZ HZ (fun v H1 => v = .ref f ∧ H1 = HZ) IZ ⟨.ref f, hs, rfl, rfl⟩) fun u1 s1 ⟨v, H1, I1, r1, q1⟩ => ?_)
  obtain ⟨ev, eH⟩ := q1
  subst ev
  rw [eH] at I1
  obtain rfl : u1 = Value.ref f := r1
  have of1 : s1.heap.get? f = some (dob (.ref d) (X.env.qual ++ "<lambda>") params body scope (cloFrom X.env.cells scope.names []) pm (.ref c') ctv) := I1.base.keep f _ hf hfn hfr (fun z => nomatch (show f ∈ ([] : List Addr) from z))
  have od1 : s1.heap.get? d = some (dTup u) := I1.base.keep d _ hd0 hdn hdf (fun z => nomatch (show d ∈ ([] : List Addr) from z))
  refine PySem.W.callWith_F0 ⟨_, _, _, _, of1⟩ ?_
  have un : Un (frs X.stack) [] H HZ s.heap s1.heap := I1.base
  obtain ⟨⟨oc, vs, t, hoc, hdc, hvc⟩, _, _⟩ := I1.hok c' _ hc
  have rc : codeAny (model X.prog X.w) (X.A.deeper (envOfC qg sg s.heap.objs.size g cdg)) (.call (.ref f) ⟨[], []⟩) (CR (L2.CX X.prog X.w) (envOfC qg sg s.heap.objs.size g cdg :: X.stack) X.prog X.w HZ s1 Q E) s1 := by
    refine PySem.W.kla_callFunE hr.depth of1 rfl L.co L.gen rfl ⟨c', oc, vs, t, rfl, hoc, hdc, hvc⟩ ?_
    obtain ⟨kk, hk1, hk2⟩ := hbind d u (X.env.qual ++ "<lambda>") (cloFrom X.env.cells scope.names []) pm (.ref c') ctv
    rw [hk1]
    refine wpAny_bind (wpAny_seqItems od1 rfl ?_)
    rw [hk2]
    refine wpAny_pure (wpAny_newFunctionEnv (fun y hy => L.own y hy) (fun y hy => by rw [List.mem_singleton] at hy; rw [hy]; exact hbl) (fun h₁ hns hsb => ⟨I1.nolimit.fresh _ hsb, ?_⟩) L.kind)
    show codeAny _ _ (.expr body (LamX.lamEnv X scope s1.heap.objs.size f c')) _ _
    have kp : ∀ b o, s1.heap.get? b = some o → h₁.get? b = some o := fun b o e => hsb.extBut b o (Nat.ne_of_lt (Heap.lt_size e)) (Heap.get?_push_of_some _ e)
    have J : Inv (LamX.lamCx X (X.A.deeper (envOfC qg sg s.heap.objs.size g cdg)) (envOfC qg sg s.heap.objs.size g cdg :: X.stack) s1 HZ E scope f c') [] σ HZ { s1 with heap := h₁, toks := s1.toks + [(b, u)].length } :=
      lamD_start I L I1.env0 hr.hd un hns kp
    refine PySem.W.kla_codeExpr (wpAny_mono ((hbody _ _ s1 HZ (hr.deeper _)).run [] _ _ HZ Q J ht) (fun v s' hq => ?_) fun e s' hq => hq)
    obtain ⟨w', H', J', rv, q⟩ := hq
    exact ⟨w', H', J'.os, J'.bare, J'.base, J'.hok, rv, q⟩
  have hx : Passes (L2.CX X.prog X.w) ((cxOf CXg X.prog X.w X.K X.mg X.base Ng qg sg g cdg X.A X.stack s H Eg).tr pn xe) E := passes_call tk hW
  refine wpAny_call (codeAny_mono rc fun r s' hq => ?_)
  cases r with
  | error e => exact hx pinsZ σZ HZ s1 e s' I1 hq
  | ok fl =>
    cases fl with
    | ret u => exact I1.after hq
    | next => exact False.elim hq
    | brk => exact False.elim hq
    | cont => exact False.elim hq
/-- x(lambda b=z: body) -/
theorem pe_lamcallD {T : List (Addr × PySem.Str)} {TT : (XK → Hp → VK → Prop) → Hp → VK → Prop} {x a b : PySem.Str} {g c P : Addr} {k j : Nat} {z : Int} {pg : Arguments} {bg : List Stmt} {sg : Scope} {dV kV doc pm cdv ct oc : Value} {an od : Option Addr} {osl : Array (Option Value)} {Ng : List PySem.Str}
    {params : Arguments} {body : Expr} {scope : Scope} {t : XK → TE} {p lpos pos dp : Pos} (hg : Gl X x) (hm : X.mg x = some (.ref g)) (hk : PySem.W.keepIn X.K (.ref g) = true)
    (lk : X.K.lookup g = some ⟨oc, od, .func (PySem.W.fnOf x x pg bg sg dV kV doc pm an cdv ct), osl⟩) (hcg : PySem.W.codeIn X.K cdv x = true) (hb : L2.Binds X.K (PySem.W.fnOf x x pg bg sg dV kV doc pm an cdv ct) [a] []) (Sg : FnScope Ng [a] sg) (hNg : Ng[0]? = some a) (hva : Vis sg a)
    (hG : LamX.GivesTo X Ng x sg g cdv bg a (X.env.qual ++ "<lambda>") TT)
    (TB : LamX.TabB X.base X.mg c P) (hcode : X.env.code = .ref c) (hmT : (P, X.env.qual ++ "<lambda>") ∈ T) (hu : ∀ p ∈ T, p.1 = P → p.2 = X.env.qual ++ "<lambda>") (hr : Room (k + 2) X.A) (L : LamD X.N X.env.scope scope) (hdef : defaultsOf params X.env = ([eval (.Constant (.int z) j dp) X.env], []))
    (hbind : BindD params body scope b) (hbl : scope.names.lookup b = some .local)
    (hbody : ∀ (A : Around) (outer : List Env) (s : Shared) (H : Hp) (E : XK) (f c' : Addr), Room k (A.deeper (LamX.lamEnv X scope s.heap.objs.size f c')) → PE (LamX.lamCx X A outer s H E scope f c') body (t E))
    (hdb : (x == ("__debug__" : PySem.Str)) = false := by decide) (hd : (a == ("__debug__" : PySem.Str)) = false := by decide) (hcd : (a == ("__classdict__" : PySem.Str)) = false := by decide) :
    PE X (.Call (.Name x p) [.Lambda params body scope lpos] [] pos) (LamX.tLam T TT t) := by
  refine ⟨fun pins s σ H Q I h => ?_⟩
  obtain ⟨hT, h⟩ := h
  refine wpAny_Call_Name_kw (ld_glob I hg hm ?_ hdb)
  refine PySem.W.callWith_K (h₀ := X.base) I.ok.mod.kin hk ?_ (by rfl) (by rfl)
  show wpAny _ _ (spliced ((false, eval (.Lambda params body scope lpos) X.env) :: backTo pos (starEach [] X.env))) _ _ s
  refine Calls.spliced_cons (lamD_make I TB hcode hmT hu hT hdef (L.has I.ok) fun f c' d u pm' ctv H1 s' I1 eN T1 hf hfn hfr hco hd0 hdn hdf => ?_)
  refine Calls.spliced_nil ⟨I1.kIn, ?_⟩
  have rc : codeAny (model X.prog X.w) X.A (.call (.ref g) ⟨[.ref f], []⟩) (CR C8.CX0 X.stack X.prog X.w H1 s' Q C8.E0) s' := by
    refine LamX.run_ofS (N := Ng) (ps := [a]) (us := [.ref f]) (vs := [.ref f]) lk hcg Sg hr I1.env0 (hb s' [.ref f] I1.kIn rfl) (.cons rfl .nil) rfl fun hr' => ?_
    obtain ⟨t', ht', hq'⟩ := hG f c' s' H1 Q (fun E H' Q' => t E σ H' Q') (fun W pn xe E p1 p2 tk hW => pe_actD (i := 0) I1 L hf hfn hfr hd0 hdn hdf hbind hbl tk hW hr' (fun A outer s H hr2 => hbody A outer s H E f c' hr2) hNg hva hd hcd) hco (h H1 eN T1)
    exact ⟨t', ht'.nox, hq'⟩
  refine wpAny_call (codeAny_mono rc fun r s2 hq => ?_)
  cases r with
  | error e => exact (show False from hq).elim
  | ok fl =>
    cases fl with
    | ret u => exact I1.after hq
    | next => exact False.elim hq
    | brk => exact False.elim hq
    | cont => exact False.elim hq
end
end Hd
set_option Elab.async false
set_option linter.all false
set_option maxRecDepth 100000
set_option maxHeartbeats 4000000
/-! Handons: what the law asks of its surroundings; _law_desk_raises(lambda: ..). -/
namespace Hd
open PySem PySem.Spec PyProof.Rows L2
def lamQ : PySem.Str := "law.<locals>.<lambda>"
/-- the def that gets the lambdas -/
structure Rai (K : PySem.W.Frag) (mg : PySem.Str → Option Value) (e : Ers) (hE : Addr) : Prop where
  ex : ∃ g fd, FnP K "_law_desk_raises" (top 48) g fd ∧ mg "_law_desk_raises" = some (.ref g) ∧ L2.Binds K fd ["_law_work"] []
  T : Fre mg
  Y : ErrTxt K mg e hE
section
variable {X : Cx} {e : Ers} {hE c P : Addr} {k j : Nat} {params : Arguments} {body : Expr} {scope : Scope} {t : XK → TE} {p lpos pos : Pos}
theorem Rai.call (R : Rai X.K X.mg e hE) (TB : LamX.TabB X.base X.mg c P) (hcode : X.env.code = .ref c) (hq : X.env.qual ++ "<lambda>" = lamQ) (hr : Room (k + 2) X.A) (hg : Gl X "_law_desk_raises") (L : LamX.LamS X.env.scope scope) (hdef : defaultsOf params X.env = ([], []))
    (hbind : ∀ (q : PySem.Str) (cl : List (PySem.Str × Addr)) (pm cv ctv : Value), bindArgs (PySem.W.kla_fn "<lambda>" q params body scope cl pm cv ctv) ⟨[], []⟩ = pure [])
    (hbody : ∀ (A : Around) (outer : List Env) (s : Shared) (H : Hp) (E : XK) (f c' : Addr), Room k (A.deeper (LamX.lamEnv X scope s.heap.objs.size f c')) → PE (LamX.lamCx X A outer s H E scope f c') body (t E)) :
    PE X (.Call (.Name "_law_desk_raises" p) [.Lambda params body scope lpos] [] pos) (LamX.tLam [(P, lamQ)] (TRs e) t) := by
  obtain ⟨g, fd, F, gm, b⟩ := R.ex
  obtain ⟨oc, od, dV, kV, doc, pm, an, cdv, ct, osl, rfl, lk, hcd, _, _⟩ := F.ex
  rw [← hq]
  exact LamX.pe_lamcall hg gm F.kp lk hcd b sc48 rfl (.inl rfl) (raises_gives R.T R.Y) TB hcode (List.mem_singleton.mpr rfl) (fun p hp _ => by rw [List.mem_singleton] at hp; rw [hp]) hr L hdef hbind hbody
theorem Rai.callD {a : PySem.Str} {z : Int} {j : Nat} {dp : Pos} (R : Rai X.K X.mg e hE) (TB : LamX.TabB X.base X.mg c P) (hcode : X.env.code = .ref c) (hq : X.env.qual ++ "<lambda>" = lamQ) (hr : Room (k + 2) X.A) (hg : Gl X "_law_desk_raises") (L : LamD X.N X.env.scope scope) (hdef : defaultsOf params X.env = ([eval (.Constant (.int z) j dp) X.env], []))
    (hbind : BindD params body scope a) (hbl : scope.names.lookup a = some .local)
    (hbody : ∀ (A : Around) (outer : List Env) (s : Shared) (H : Hp) (E : XK) (f c' : Addr), Room k (A.deeper (LamX.lamEnv X scope s.heap.objs.size f c')) → PE (LamX.lamCx X A outer s H E scope f c') body (t E)) :
    PE X (.Call (.Name "_law_desk_raises" p) [.Lambda params body scope lpos] [] pos) (LamX.tLam [(P, lamQ)] (TRs e) t) := by
  obtain ⟨g, fd, F, gm, b⟩ := R.ex
  obtain ⟨oc, od, dV, kV, doc, pm, an, cdv, ct, osl, rfl, lk, hcd, _, _⟩ := F.ex
  rw [← hq]
  exact pe_lamcallD hg gm F.kp lk hcd b sc48 rfl (.inl rfl) (raises_gives R.T R.Y) TB hcode (List.mem_singleton.mpr rfl) (fun p hp _ => by rw [List.mem_singleton] at hp; rw [hp]) hr L hdef hbind hbl hbody
end
/-- all that the law's def rests on -/
structure LawZ (P : Program) (w : World) (K : PySem.W.Frag) (mg : PySem.Str → Option Value) (base : Heap) (e : Ers) (hE C fI fB fS pB pS : Addr) (dI dB dS : FuncData) : Prop where
  T : Fre mg
  R : Rai K mg e hE
  Y : DeskTxt K C
  gD : mg "Desk" = some (.ref C)
  mkD : Mk K C fI
  init : FnOk P w K mg base CX0 6 fI dI ["self", "web", "burning", "goal"] (spInit K C)
  bInit : L2.Binds K dI ["self", "web", "burning", "goal"] []
  p_burning : PropOf K C "burning" pB fB
  p_steps : PropOf K C "steps" pS fS
  ok_burning : FnOk P w K mg base CX0 1 fB dB ["self"] (spBurning K C)
  ok_steps : FnOk P w K mg base CX0 1 fS dS ["self"] (spSteps K C)
  b_burning : L2.Binds K dB ["self"] []
  b_steps : L2.Binds K dS ["self"] []
  m_undo : CalM P w K mg base C (L2.CX P w) 1 "undo" ["self"] (spUndo K C e)
  m_redo : CalM P w K mg base C (L2.CX P w) 1 "redo" ["self"] (spRedo K C e)
  m_run : CalM P w K mg base C (L2.CX P w) 9 "run" ["self", "text"] (spRun K C e)
  c__law_taken : Cal P w K mg base 1 "_law_taken" ["_law_row", "_law_many"] (spTaken K)
  c__law_pick : Cal P w K mg base 2 "_law_pick" ["_law_row", "_law_things"] (spPick K)
  c__law_web : Cal P w K mg base 3 "_law_web" ["_law_row", "_law_most"] (spWeb K)
  c__law_burning : Cal P w K mg base 3 "_law_burning" ["_law_row", "_law_many"] (spBurn K)
  c__law_light : Cal P w K mg base 1 "_law_light" ["_law_web_here", "_law_burning_here"] (spG K R_light)
  c__law_quench : Cal P w K mg base 1 "_law_quench" ["_law_web_here", "_law_burning_here"] (spG K R_quench)
  c__law_desk_due : Cal P w K mg base 3 "_law_desk_due" ["_law_web_here", "_law_burning_here", "_law_goal", "_law_text"] (spG K R_due)
  al0 : Cal P w K mg base 1 "_law_alike" ["_law_found", "_law_due"] (spG K R_al0)
  al1 : Cal P w K mg base 2 "_law_alike" ["_law_found", "_law_due"] (spG K R_al1)
theorem bind_a {params : Arguments} {body : Expr} {scope : Scope} {a : PySem.Str} (h : ∀ (d : Addr) (u : Value) (q : PySem.Str) (cl : List (PySem.Str × Addr)) (pm cv ctv : Value), ∃ k, bindArgs (dfn (.ref d) q params body scope cl pm cv ctv) ⟨[], []⟩ = seqItems? (.ref d) >>= k ∧ k (some [u].toArray) = pure [(a, u)] := by exact fun _ _ _ _ _ _ _ => ⟨_, rfl, rfl⟩) : BindD params body scope a := h
theorem sc_law : FnScope ["_law_script", "_law_row", "_law_web_here", "_law_here", "_law_goal", "_law_desk", "_law_past", "_law_future", "_law_turn", "_law_way", "_law_k", "_law_light_here", "_law_quench_here", "_law_lit", "_law_out", "_law_some", "_law_text", "_law_odd", "_law_kind", "_law_due", "_law_told", "_law_step"] ["_law_script"] (defScope (top 56)) := ⟨rfl, rfl, rfl, by decide +kernel, rfl, by decide +kernel, by decide +kernel⟩
def spLaw (K : PySem.W.Frag) (P0 : Addr) : Sp := fun vs H Q _ => ∃ (a : Addr) (ns : List Int), vs = [.ref a] ∧ H P0 = some (.tbl #[]) ∧ SqL K H a (ns.map V.int) ∧ ∀ H', Q (.bl true) H'
section
variable {P : Program} {w : World} {K : PySem.W.Frag} {mg : PySem.Str → Option Value} {base : Heap}
theorem law_terms {X : Cx} {e : Ers} {hE C fI fB fS pB pS c P0 : Addr} {dI dB dS : FuncData} (Z : LawZ P w K mg base e hE C fI fB fS pB pS dI dB dS) (TB : LamX.TabB base mg c P0) {f : Addr} {A0 : Around} {outer : List Env} {s : Shared} {H : Hp} {E : XK}
    (hr : Room 11 (A0.deeper (envOfC "law" (defScope (top 56)) s.heap.objs.size f (.ref c)))) : ∃ t, PSs (cxOf CX0 P w K mg base ["_law_script", "_law_row", "_law_web_here", "_law_here", "_law_goal", "_law_desk", "_law_past", "_law_future", "_law_turn", "_law_way", "_law_k", "_law_light_here", "_law_quench_here", "_law_lit", "_law_out", "_law_some", "_law_text", "_law_odd", "_law_kind", "_law_due", "_law_told", "_law_step"] "law" (defScope (top 56)) f (.ref c) A0 outer s H E).nox (defBody (top 56)) t := by
  have nd := sc_law.nd
  have T := Z.T
  refine ⟨_, (pss_cons (ps_set (i := 1) nd rfl (.inl rfl) (pe_lst (pa_cons (pv 0) (pa_cons pe_int (pa_cons pe_int (pa_cons pe_int pa_nil))))))
    (pss_cons (ps_set (i := 2) nd rfl (.inl rfl) (Z.c__law_web.call hr rfl (pa_cons (pv 1) (pa_cons pe_int pa_nil)) pass0))
    (pss_cons (ps_par (i := 3) (j := 4) (by rfl) nd rfl rfl (by decide) rfl rfl (pa_cons (Z.c__law_burning.call hr rfl (pa_cons (pv 1) (pa_cons (pe_ix (k_ixt (K := K) rfl) (pv 2) pe_int (fun _ _ => rfl)) pa_nil)) pass0) (pa_cons (Z.c__law_burning.call hr rfl (pa_cons (pv 1) (pa_cons (pe_ix (k_ixt (K := K) rfl) (pv 2) pe_int (fun _ _ => rfl)) pa_nil)) pass0) pa_nil)) (by rfl))
    (pss_cons (ps_asg (pe_tup (pa_cons (pe_make Z.mkD Z.init (hr.mono (by decide)) rfl Z.gD Z.bInit .nil pass0 (pa_cons (pv 2) (pa_cons (pv 3) (pa_cons (pv 4) pa_nil)))) (pa_cons (pe_lst pa_nil) (pa_cons (pe_lst pa_nil) pa_nil)))) (pg_tup rfl (pgs_cons (pg_name (i := 5) nd rfl (.inr rfl)) (pgs_cons (pg_name (i := 6) nd rfl (.inl rfl)) (pgs_cons (pg_name (i := 7) nd rfl (.inl rfl)) pgs_nil)))))
    (pss_cons (ps_for PassesOwn.never rfl (pi_range1 (by rfl) T.f_range (pa_cons pe_int pa_nil)) (pg_name (i := 8) nd rfl (.inl rfl))
      (pss_cons (ps_par (i := 9) (j := 10) (by rfl) nd rfl rfl (by decide) rfl rfl (pa_cons (Z.c__law_taken.call hr rfl (pa_cons (pv 1) (pa_cons pe_int pa_nil)) pass0) (pa_cons (pe_callTy call_str_int (by rfl) T.f_str (by decide +kernel) (pa_cons (Z.c__law_taken.call hr rfl (pa_cons (pv 1) (pa_cons (pe_op op_add (pe_ix (k_ixt (K := K) rfl) (pv 2) pe_int (fun _ _ => rfl)) pe_int) pa_nil)) pass0) pa_nil)) pa_nil)) (by rfl))
      (pss_cons (ps_if (pt_cmpR op_eq (pv 9) pe_int (nomark _))
        (pss_cons (ps_if (pt_not (pt_val (Z.al0.call hr rfl (pa_cons (Z.R.call TB rfl rfl hr rfl (LamX.lamS_by (by kernel_rfl)) rfl (fun _ _ _ _ _ => rfl) (fun A outer s H E f c hr => Z.m_undo.call0 hr (pv 5) Z.Y.cl (passes_call (takes_of rfl rfl rfl rfl) fun _ _ _ _ h => h))) (pa_cons (pe_ifExp (pt_cmpR (k_ne0 (K := K) rfl (hu_of hr)) (pv 6) (pe_lst pa_nil) (nomark _)) pe_non pe_str) pa_nil)) pass0)))
          (pss_one (ps_ret pe_bl))
          pss_nil)
        (pss_one (ps_if (pt_cmpR (k_ne0 (K := K) rfl (hu_of hr)) (pv 6) (pe_lst pa_nil) (nomark _))
          (pss_cons (ps_expr (pe_bm PySem.F.plainAttrs_list PySem.F.slot_list_append PySem.F.type_list_append mt_append (pv 7) (pa_cons (pe_tup (pa_cons (pv 3) (pa_cons (pe_ix (k_ixt (K := K) rfl) (pe_ix (k_ixl (K := K) rfl) (pv 6) (pe_un un_neg pe_int) (fun _ _ => rfl)) pe_int (fun _ _ => rfl)) pa_nil))) pa_nil)))
          (pss_one (ps_set (i := 3) nd rfl (.inl rfl) (pe_ix (k_ixt (K := K) rfl) (pe_bm0 PySem.F.plainAttrs_list PySem.F.slot_list_pop PySem.F.type_list_pop mt_pop (pv 6)) pe_int (fun _ _ => rfl)))))
          pss_nil)))
        (pss_one (ps_if (pt_cmpR op_eq (pv 9) pe_int (nomark _))
          (pss_cons (ps_if (pt_not (pt_val (Z.al0.call hr rfl (pa_cons (Z.R.call TB rfl rfl hr rfl (LamX.lamS_by (by kernel_rfl)) rfl (fun _ _ _ _ _ => rfl) (fun A outer s H E f c hr => Z.m_redo.call0 hr (pv 5) Z.Y.cl (passes_call (takes_of rfl rfl rfl rfl) fun _ _ _ _ h => h))) (pa_cons (pe_ifExp (pt_cmpR (k_ne0 (K := K) rfl (hu_of hr)) (pv 7) (pe_lst pa_nil) (nomark _)) pe_non pe_str) pa_nil)) pass0)))
            (pss_one (ps_ret pe_bl))
            pss_nil)
          (pss_one (ps_if (pt_cmpR (k_ne0 (K := K) rfl (hu_of hr)) (pv 7) (pe_lst pa_nil) (nomark _))
            (pss_cons (ps_expr (pe_bm PySem.F.plainAttrs_list PySem.F.slot_list_append PySem.F.type_list_append mt_append (pv 6) (pa_cons (pe_tup (pa_cons (pv 3) (pa_cons (pe_ix (k_ixt (K := K) rfl) (pe_ix (k_ixl (K := K) rfl) (pv 7) (pe_un un_neg pe_int) (fun _ _ => rfl)) pe_int (fun _ _ => rfl)) pa_nil))) pa_nil)))
            (pss_one (ps_set (i := 3) nd rfl (.inl rfl) (pe_ix (k_ixt (K := K) rfl) (pe_bm0 PySem.F.plainAttrs_list PySem.F.slot_list_pop PySem.F.type_list_pop mt_pop (pv 7)) pe_int (fun _ _ => rfl)))))
            pss_nil)))
          (pss_cons (ps_par (i := 11) (j := 12) (by rfl) nd rfl rfl (by decide) rfl rfl (pa_cons (Z.c__law_light.call hr rfl (pa_cons (pv 2) (pa_cons (pv 3) pa_nil)) pass0) (pa_cons (Z.c__law_quench.call hr rfl (pa_cons (pv 2) (pa_cons (pv 3) pa_nil)) pass0) pa_nil)) (by rfl))
          (pss_cons (ps_par (i := 13) (j := 14) (by rfl) nd rfl rfl (by decide) rfl rfl (pa_cons (pe_ifExp (pt_cmpR (k_ne0 (K := K) rfl (hu_of hr)) (pv 11) (pe_lst pa_nil) (nomark _)) (pe_callTy call_str_int (by rfl) T.f_str (by decide +kernel) (pa_cons (Z.c__law_pick.call hr rfl (pa_cons (pv 1) (pa_cons (pv 11) pa_nil)) pass0) pa_nil)) (pv 10)) (pa_cons (pe_ifExp (pt_cmpR (k_ne0 (K := K) rfl (hu_of hr)) (pv 12) (pe_lst pa_nil) (nomark _)) (pe_callTy call_str_int (by rfl) T.f_str (by decide +kernel) (pa_cons (Z.c__law_pick.call hr rfl (pa_cons (pv 1) (pa_cons (pv 12) pa_nil)) pass0) pa_nil)) (pv 10)) pa_nil)) (by rfl))
          (pss_cons (ps_set (i := 15) nd rfl (.inl rfl) (pe_lst (pa_cons (pe_op op_add_str pe_str (pv 13)) (pa_cons (pe_op op_add_str pe_str (pv 13)) (pa_cons (pe_op op_add_str pe_str (pv 14)) (pa_cons (pe_op op_add_str pe_str (pv 14)) (pa_cons (pe_op op_add_str pe_str (pv 10)) (pa_cons pe_str pa_nil))))))))
          (pss_cons (ps_set (i := 15) nd rfl (.inl rfl) (pe_op op_cat (pv 15) (pe_lst (pa_cons pe_str (pa_cons pe_str (pa_cons pe_str (pa_cons pe_str pa_nil)))))))
          (pss_cons (ps_asg (pe_tup (pa_cons (Z.c__law_pick.call hr rfl (pa_cons (pv 1) (pa_cons (pv 15) pa_nil)) pass0) (pa_cons (Z.c__law_pick.call hr rfl (pa_cons (pv 1) (pa_cons (pe_lst (pa_cons pe_str (pa_cons pe_str (pa_cons pe_str (pa_cons (pe_op op_add_str pe_str (pv 10)) (pa_cons pe_str (pa_cons pe_str (pa_cons pe_str (pa_cons pe_str pa_nil))))))))) pa_nil)) pass0) pa_nil))) (pg_tup rfl (pgs_cons (pg_name (i := 16) nd rfl (.inr rfl)) (pgs_cons (pg_name (i := 17) nd rfl (.inl rfl)) pgs_nil))))
          (pss_cons (ps_set (i := 16) nd rfl (.inr rfl) (Z.c__law_pick.call hr rfl (pa_cons (pv 1) (pa_cons (pe_op op_cat (pe_op op_rep (pe_lst (pa_cons (pv 16) pa_nil)) pe_int) (pe_lst (pa_cons (pe_op op_add_str (pe_opT op_add_str (CwR.pet_replC (pv 16))) pe_str) (pa_cons (pe_op op_add_str (pe_op op_add_str (pv 16) pe_str) (pv 10)) (pa_cons (pv 17) pa_nil))))) pa_nil)) pass0))
          (pss_cons (ps_asg (Z.c__law_desk_due.call hr rfl (pa_cons (pv 2) (pa_cons (pv 3) (pa_cons (pv 4) (pa_cons (pv 16) pa_nil)))) pass0) (pg_tup rfl (pgs_cons (pg_name (i := 18) nd rfl (.inl rfl)) (pgs_cons (pg_name (i := 19) nd rfl (.inl rfl)) pgs_nil))))
          (pss_cons (ps_set (i := 20) nd rfl (.inl rfl) (Z.R.call TB rfl rfl hr rfl (LamX.lamS_by (by kernel_rfl)) rfl (fun _ _ _ _ _ => rfl) (fun A outer s H E f c hr => Z.m_run.call hr (pv 5) Z.Y.cl (pa_cons (pv 16) pa_nil) (passes_call (takes_of rfl rfl rfl rfl) fun _ _ _ _ h => h))))
          (pss_cons (ps_if (pt_not (pt_val (Z.al0.call hr rfl (pa_cons (pv 20) (pa_cons (pe_ifExp (pt_cmpR op_eq (pv 18) pe_str (nomark _)) (pe_op op_add_str pe_str (pe_callTy call_str_int (by rfl) T.f_str (by decide +kernel) (pa_cons (pv 19) pa_nil))) (pe_ifExp (pt_cmpR op_eq (pv 18) pe_str (nomark _)) (pv 19) pe_non)) pa_nil)) pass0)))
            (pss_one (ps_ret pe_bl))
            pss_nil)
          (pss_one (ps_if (pt_cmpR op_eq (pv 18) pe_str (nomark _))
            (pss_cons (ps_expr (pe_bm PySem.F.plainAttrs_list PySem.F.slot_list_append PySem.F.type_list_append mt_append (pv 6) (pa_cons (pe_tup (pa_cons (pv 3) (pa_cons (pv 16) pa_nil))) pa_nil)))
            (pss_one (ps_par (i := 3) (j := 7) (by rfl) nd rfl rfl (by decide) rfl rfl (pa_cons (pv 19) (pa_cons (pe_lst pa_nil) pa_nil)) (by rfl))))
            pss_nil))))))))))))))
      (pss_one (ps_if (PW.pt (pw_or (pt_not (pt_val (Z.al1.call hr rfl (pa_cons (pe_prop (pv 5) Z.Y.cl Z.p_burning Z.ok_burning (hr.mono (by decide)) Z.b_burning .nil pass0 rfl) (pa_cons (pv 3) pa_nil)) pass0))) (pw_or1 (pt_not (pt_val (Z.al1.call hr rfl (pa_cons (pe_prop (pv 5) Z.Y.cl Z.p_steps Z.ok_steps (hr.mono (by decide)) Z.b_steps .nil pass0 rfl) (pa_cons (pe_callTy call_tuple_of (by rfl) T.f_tuple (by decide +kernel) (pa_cons (pe_lc (own := [("_law_step", 21)]) (g := (gName 21)) rfl nd (pi_list (pv 6)) (blkOk_by (by kernel_rfl)) (fun _ _ _ _ _ => (pg_name (i := 21) nd rfl (.inl rfl))) (fun _ _ _ _ _ => pts_nil) (fun _ _ _ _ _ => (pe_ix (k_ixt (K := K) rfl) (pv 21) pe_int (fun _ _ => rfl)))) pa_nil)) pa_nil)) pass0))))))
        (pss_one (ps_ret pe_bl))
        pss_nil)))))
    (pss_one (ps_ret (pe_and (pe_cmpR op_eq (Z.R.call TB rfl rfl hr rfl (LamX.lamS_by (by kernel_rfl)) rfl (fun _ _ _ _ _ => rfl) (fun A outer s H E f c hr => Z.m_run.call hr (pv 5) Z.Y.cl (pa_cons pe_non pa_nil) (passes_call (takes_of rfl rfl rfl rfl) fun _ _ _ _ h => h))) pe_str (nomark _)) (pe_one (pe_cmpR op_eq (Z.R.callD TB rfl rfl hr rfl (lamD_by (by kernel_rfl)) rfl bind_a rfl (fun A outer s H E f c hr => Z.m_run.call hr (pv 5) Z.Y.cl (pa_cons (pe_lst (pa_cons pe_str pa_nil)) pa_nil) (passes_call (takes_of rfl rfl rfl rfl) fun _ _ _ _ h => h))) pe_str (nomark _)))))))))))⟩
end
end Hd
set_option Elab.async false
set_option linter.all false
set_option maxRecDepth 100000
set_option maxHeartbeats 4000000
/-! Handons: what holds between the law's steps. -/
namespace Hd
open PySem PySem.Spec PyProof.Rows L2
/-- s: what the law holds; d: what the desk holds -/
structure LI (K : PySem.W.Frag) (H : Hp) (C P0 a : Addr) (ns : List Int) (r : Addr) (vw vh vg : V) (p lp lf pa fu : Addr) (s d : Dsk) : Prop where
  R : RowOk K H r a ns
  aw : At K H vw (webD s.n s.A)
  ah : At K H vh (tI s.b)
  ag : At K H vg (tI s.g)
  D : DeskAt K H C p lp lf d
  aP : At K H (.ref pa) (.list (s.past.map stD))
  aF : At K H (.ref fu) (.list (s.future.map stD))
  r1 : r ≠ lp
  r2 : r ≠ lf
  r3 : r ≠ pa
  r4 : r ≠ fu
  n1 : lp ≠ pa
  n2 : lp ≠ fu
  n3 : lf ≠ pa
  n4 : lf ≠ fu
  n5 : pa ≠ fu
  aS : (∀ H, SqL K H a (ns.map V.int)) ∨ (a ≠ lp ∧ a ≠ lf ∧ a ≠ pa ∧ a ≠ fu)
  T : LamX.Tabs [(P0, lamQ)] H
theorem at_lst {K : PySem.W.Frag} {H : Hp} {a : Addr} {ds : List PyData} (h : At K H (.ref a) (.list ds)) : ∃ xs, H a = some (.lst xs) ∧ Ats K H xs ds := by
  cases h with
  | lst h r => exact ⟨_, h, r⟩
/-- all but lists and objects stay: so do the tables -/
theorem tabs_keep {T : List (Addr × PySem.Str)} {H H' : Hp} (t : LamX.Tabs T H) (k : ∀ b o, H b = some o → (∀ xs, o ≠ .lst xs) → (∀ C dx fs, o ≠ .ins C dx fs) → H' b = some o) : LamX.Tabs T H' := fun p hp => by
  obtain ⟨ps, h1, h2, h3⟩ := t p hp
  refine ⟨ps, k _ _ h1 (fun xs z => nomatch z) (fun C dx fs z => nomatch z), h2, fun pos cv hc => ?_⟩
  obtain ⟨c, e1, e2⟩ := h3 pos cv hc
  exact ⟨c, e1, k _ _ e2 (fun xs z => by unfold LamX.CodeO at z; cases z) (fun C dx fs z => by unfold LamX.CodeO at z; cases z)⟩
section
variable {K : PySem.W.Frag} {H H' : Hp} {C P0 a : Addr} {ns : List Int} {r : Addr} {vw vh vg : V} {p lp lf pa fu : Addr} {s d : Dsk}
theorem LI.step (h : LI K H C P0 a ns r vw vh vg p lp lf pa fu s d) (t : Tups H H') (R' : RowOk K H' r a ns) (e : ∀ b o, H b = some o → b = p ∨ b = lp ∨ b = lf ∨ b = pa ∨ b = fu → H' b = some o) (T' : LamX.Tabs [(P0, lamQ)] H') : LI K H' C P0 a ns r vw vh vg p lp lf pa fu s d := by
  obtain ⟨xs, hx, ax⟩ := at_lst h.aP
  obtain ⟨ys, hy, ay⟩ := at_lst h.aF
  exact ⟨R', h.aw.tups t (imm_web _ _), h.ah.tups t (imm_tI _), h.ag.tups t (imm_tI _), h.D.but (fun o ho => e _ _ ho (by simp)) (fun o ho => e _ _ ho (by simp)) (fun o ho => e _ _ ho (by simp)) t,
    .lst (e _ _ hx (by simp)) (ax.tups t (imm_st _)), .lst (e _ _ hy (by simp)) (ay.tups t (imm_st _)), h.r1, h.r2, h.r3, h.r4, h.n1, h.n2, h.n3, h.n4, h.n5, h.aS, T'⟩
theorem LI.same (h : LI K H C P0 a ns r vw vh vg p lp lf pa fu s d) (e : Same H H') : LI K H' C P0 a ns r vw vh vg p lp lf pa fu s d :=
  h.step (Same.tups e) (h.R.mono e) (fun b o ho _ => e _ _ ho) (tabs_keep h.T fun b o ho _ _ => e _ _ ho)
theorem LI.row (h : LI K H C P0 a ns r vw vh vg p lp lf pa fu s d) (b : ButR r H H') (R' : RowOk K H' r a ns) : LI K H' C P0 a ns r vw vh vg p lp lf pa fu s d := by
  obtain ⟨zs, hz⟩ := h.R.lst
  obtain ⟨dx, _, _, _, xs, ys, h1, _⟩ := h.D.ex
  have np : p ≠ r := ne_of h1 hz (by intro z; cases z)
  refine h.step (b.tups hz) R' (fun c o ho hc => b _ _ ?_ ho) (tabs_keep h.T fun c o ho n1 _ => b _ _ (fun z => ?_) ho)
  · rcases hc with z | z | z | z | z <;> rw [z]
    · exact np
    · exact h.r1.symm
    · exact h.r2.symm
    · exact h.r3.symm
    · exact h.r4.symm
  · rw [z, hz] at ho
    exact n1 _ (Option.some.inj ho).symm
theorem LI.extN (h : LI K H C P0 a ns r vw vh vg p lp lf pa fu s d) (e : LamX.ExtN H H') (T' : LamX.Tabs [(P0, lamQ)] H') : LI K H' C P0 a ns r vw vh vg p lp lf pa fu s d := by
  obtain ⟨dx, _, _, _, xs, ys, h1, _, _, _, h5, _, h7, _⟩ := h.D.ex
  obtain ⟨us, hu, _⟩ := at_lst h.aP
  obtain ⟨ws, hw, _⟩ := at_lst h.aF
  have sq : ∀ {b : Addr} {zs : List V}, SqL K H b zs → SqL K H' b zs := fun {b zs} q => by
    rcases q with (q | ⟨o, q⟩) | q
    · exact .inl (.inl (e _ _ q fun ps z => nomatch z))
    · exact .inl (.inr ⟨o, e _ _ q fun ps z => nomatch z⟩)
    · exact .inr q
  obtain ⟨i, j, k, q1, q2, q3⟩ := h.R
  refine h.step ⟨fun b zs q => e _ _ q (fun ps z => nomatch z), fun b o u q => e _ _ q (fun ps z => nomatch z)⟩ ⟨i, j, k, e _ _ q1 (fun ps z => nomatch z), sq q2, q3⟩ (fun b o ho hc => e _ _ ho fun ps z => ?_) T'
  subst z
  rcases hc with z | z | z | z | z <;> rw [z] at ho
  · rw [h1] at ho; cases ho
  · rw [h5] at ho; cases ho
  · rw [h7] at ho; cases ho
  · rw [hu] at ho; cases ho
  · rw [hw] at ho; cases ho
theorem extN_tups (e : LamX.ExtN H H') : Tups H H' := ⟨fun b zs q => e _ _ q (fun ps z => nomatch z), fun b o u q => e _ _ q (fun ps z => nomatch z)⟩
theorem LI.desk_t (h : LI K H C P0 a ns r vw vh vg p lp lf pa fu s d) (f : FrD p lp lf H H') : Tups H H' := by
  obtain ⟨dx, _, _, _, xs, ys, h1, _, _, _, h5, _, h7, _⟩ := h.D.ex
  have np : ∀ b o, H b = some o → (∀ xs, o ≠ .lst xs) → (∀ C dx fs, o ≠ .ins C dx fs) → H' b = some o := fun b o ho n1 n2 => f _ _ (fun z => by rw [z, h1] at ho; exact n2 _ _ _ (Option.some.inj ho).symm) (fun z => by rw [z, h5] at ho; exact n1 _ (Option.some.inj ho).symm) (fun z => by rw [z, h7] at ho; exact n1 _ (Option.some.inj ho).symm) ho
  exact ⟨fun b zs q => np _ _ q (fun _ z => nomatch z) (fun _ _ _ z => nomatch z), fun b o u q => np _ _ q (fun _ z => nomatch z) (fun _ _ _ z => nomatch z)⟩
/-- the desk has taken a step -/
theorem LI.desk {lf' : Addr} {d' : Dsk} (h : LI K H C P0 a ns r vw vh vg p lp lf pa fu s d) (f : FrD p lp lf H H') (D' : DeskAt K H' C p lp lf' d') (hl : lf' = lf ∨ H lf' = none) : LI K H' C P0 a ns r vw vh vg p lp lf' pa fu s d' := by
  obtain ⟨dx, _, _, _, xs, ys, h1, _, _, _, h5, _, h7, _⟩ := h.D.ex
  obtain ⟨zs, hz⟩ := h.R.lst
  obtain ⟨us, hu, au⟩ := at_lst h.aP
  obtain ⟨ws, hw, aw⟩ := at_lst h.aF
  have np : ∀ b o, H b = some o → (∀ xs, o ≠ .lst xs) → (∀ C dx fs, o ≠ .ins C dx fs) → H' b = some o := fun b o ho n1 n2 => f _ _ (fun z => by rw [z, h1] at ho; exact n2 _ _ _ (Option.some.inj ho).symm) (fun z => by rw [z, h5] at ho; exact n1 _ (Option.some.inj ho).symm) (fun z => by rw [z, h7] at ho; exact n1 _ (Option.some.inj ho).symm) ho
  have t : Tups H H' := ⟨fun b zs q => np _ _ q (fun _ z => nomatch z) (fun _ _ _ z => nomatch z), fun b o u q => np _ _ q (fun _ z => nomatch z) (fun _ _ _ z => nomatch z)⟩
  have nr : p ≠ r := ne_of h1 hz (by intro z; cases z)
  have npa : p ≠ pa := ne_of h1 hu (by intro z; cases z)
  have nfu : p ≠ fu := ne_of h1 hw (by intro z; cases z)
  have hr' : H' r = some (.lst zs) := f _ _ nr.symm h.r1 h.r2 hz
  have hu' : H' pa = some (.lst us) := f _ _ npa.symm h.n1.symm h.n3.symm hu
  have hw' : H' fu = some (.lst ws) := f _ _ nfu.symm h.n2.symm h.n4.symm hw
  have nl : ∀ {b : Addr}, b ≠ lf → (∃ o, H b = some o) → b ≠ lf' := fun {b} n ⟨o, ho⟩ => by
    rcases hl with e | e
    · rw [e]; exact n
    · exact ne_of_none ho e
  obtain ⟨i, j, k, q1, q2, q3, q4⟩ := h.R
  have key : SqL K H' a (ns.map V.int) ∧ ((∀ H, SqL K H a (ns.map V.int)) ∨ (a ≠ lp ∧ a ≠ lf' ∧ a ≠ pa ∧ a ≠ fu)) := by
    rcases q2 with (q | ⟨o, q⟩) | q
    · rcases h.aS with z | ⟨z1, z2, z3, z4⟩
      · exact ⟨z _, .inl z⟩
      · exact ⟨.inl (.inl (f _ _ (fun z => by rw [z, h1] at q; cases q) z1 z2 q)), .inr ⟨z1, nl z2 ⟨_, q⟩, z3, z4⟩⟩
    · have q' : H a = some (.frz o (.lst (ns.map V.int))) := q
      refine ⟨.inl (.inr ⟨o, t.2 _ _ _ q⟩), .inr ⟨ne_of q' h5 (by intro z; cases z), nl (ne_of q' h7 (by intro z; cases z)) ⟨_, q'⟩, ne_of q' hu (by intro z; cases z), ne_of q' hw (by intro z; cases z)⟩⟩
    · exact ⟨.inr q, .inl fun _ => .inr q⟩
  exact ⟨⟨i, j, k, f _ _ nr.symm h.r1 h.r2 q1, key.1, q3, q4⟩, h.aw.tups t (imm_web _ _), h.ah.tups t (imm_tI _), h.ag.tups t (imm_tI _), D', .lst hu' (au.tups t (imm_st _)), .lst hw' (aw.tups t (imm_st _)),
    h.r1, nl h.r2 ⟨_, hz⟩, h.r3, h.r4, h.n1, h.n2, (nl h.n3.symm ⟨_, hu⟩).symm, (nl h.n4.symm ⟨_, hw⟩).symm, h.n5, key.2, tabs_keep h.T np⟩
/-- a list of the law's own is written -/
theorem LI.upd1 {b : Addr} {xs xs' : List V} (h : LI K H C P0 a ns r vw vh vg p lp lf pa fu s d) (hb : H b = some (.lst xs)) (c1 : b = pa ∨ b = fu) : Tups H (L2.upd H b (.lst xs')) ∧ RowOk K (L2.upd H b (.lst xs')) r a ns ∧ DeskAt K (L2.upd H b (.lst xs')) C p lp lf d ∧ LamX.Tabs [(P0, lamQ)] (L2.upd H b (.lst xs')) := by
  obtain ⟨dx, _, _, _, _, _, h1, _, _, _, h5, _, h7, _⟩ := h.D.ex
  have t : Tups H (L2.upd H b (.lst xs')) := Tups.lst hb
  have nr : r ≠ b := by rcases c1 with z | z <;> rw [z]; exact h.r3; exact h.r4
  have np : p ≠ b := ne_of h1 hb (by intro z; cases z)
  have nlp : lp ≠ b := by rcases c1 with z | z <;> rw [z]; exact h.n1; exact h.n2
  have nlf : lf ≠ b := by rcases c1 with z | z <;> rw [z]; exact h.n3; exact h.n4
  refine ⟨t, ?_, h.D.but (fun o ho => by rw [upd_ne np]; exact ho) (fun o ho => by rw [upd_ne nlp]; exact ho) (fun o ho => by rw [upd_ne nlf]; exact ho) t, tabs_keep h.T fun c o ho n1 _ => by rw [upd_ne (fun z => by rw [z, hb] at ho; exact n1 _ (Option.some.inj ho).symm)]; exact ho⟩
  obtain ⟨i, j, k, q1, q2, q3, q4⟩ := h.R
  refine ⟨i, j, k, by rw [upd_ne nr]; exact q1, ?_, q3, q4⟩
  rcases q2 with (q | ⟨o, q⟩) | q
  · rcases h.aS with z | ⟨z1, z2, z3, z4⟩
    · exact z _
    · exact .inl (.inl (by rw [upd_ne (by rcases c1 with z | z <;> rw [z]; exact z3; exact z4)]; exact q))
  · exact .inl (.inr ⟨o, t.2 _ _ _ q⟩)
  · exact .inr q
theorem LI.updF {xs : List V} {l : List (List Int × PySem.Str)} (h : LI K H C P0 a ns r vw vh vg p lp lf pa fu s d) (hx : Ats K H xs (l.map stD)) : LI K (L2.upd H fu (.lst xs)) C P0 a ns r vw vh vg p lp lf pa fu ⟨s.n, s.A, s.g, s.b, s.past, l⟩ d := by
  obtain ⟨us, hu, au⟩ := at_lst h.aP
  obtain ⟨ws, hw, aw⟩ := at_lst h.aF
  obtain ⟨t, R', D', T'⟩ := h.upd1 (xs' := xs) hw (.inr rfl)
  exact { h with R := R', D := D', T := T', aw := h.aw.tups t (imm_web _ _), ah := h.ah.tups t (imm_tI _), ag := h.ag.tups t (imm_tI _), aP := .lst (by rw [upd_ne h.n5]; exact hu) (au.tups t (imm_st _)), aF := .lst upd_same (hx.tups t (imm_st _)) }
theorem LI.updP {xs : List V} {l : List (List Int × PySem.Str)} (h : LI K H C P0 a ns r vw vh vg p lp lf pa fu s d) (hx : Ats K H xs (l.map stD)) : LI K (L2.upd H pa (.lst xs)) C P0 a ns r vw vh vg p lp lf pa fu ⟨s.n, s.A, s.g, s.b, l, s.future⟩ d := by
  obtain ⟨us, hu, au⟩ := at_lst h.aP
  obtain ⟨ws, hw, aw⟩ := at_lst h.aF
  obtain ⟨t, R', D', T'⟩ := h.upd1 (xs' := xs) hu (.inl rfl)
  exact { h with R := R', D := D', T := T', aw := h.aw.tups t (imm_web _ _), ah := h.ah.tups t (imm_tI _), ag := h.ag.tups t (imm_tI _), aP := .lst upd_same (hx.tups t (imm_st _)), aF := .lst (by rw [upd_ne h.n5.symm]; exact hw) (aw.tups t (imm_st _)) }
theorem LI.here {v : V} {b : List Int} (h : LI K H C P0 a ns r vw vh vg p lp lf pa fu s d) (av : At K H v (tI b)) : LI K H C P0 a ns r vw v vg p lp lf pa fu ⟨s.n, s.A, s.g, b, s.past, s.future⟩ d := { h with ah := av }
/-- a new empty list is the future -/
theorem LI.newF {l : Addr} (h : LI K H C P0 a ns r vw vh vg p lp lf pa fu s d) (hl : H l = none) : LI K (L2.upd H l (.lst [])) C P0 a ns r vw vh vg p lp lf pa l ⟨s.n, s.A, s.g, s.b, s.past, []⟩ d := by
  obtain ⟨dx, _, _, _, _, _, h1, _, _, _, h5, _, h7, _⟩ := h.D.ex
  obtain ⟨zs, hz⟩ := h.R.lst
  obtain ⟨us, hu, au⟩ := at_lst h.aP
  have h' := h.same (same_new (o := .lst []) hl)
  refine { h' with aF := .lst upd_same .nil, r4 := ne_of_none hz hl, n2 := ne_of_none h5 hl, n4 := ne_of_none h7 hl, n5 := ne_of_none hu hl, aS := ?_ }
  obtain ⟨i, j, k, q1, q2, q3, q4⟩ := h.R
  rcases q2 with (q | ⟨o, q⟩) | q
  · rcases h.aS with z | ⟨z1, z2, z3, z4⟩
    · exact .inl z
    · exact .inr ⟨z1, z2, z3, ne_of_none q hl⟩
  · have q' : H a = some (.frz o (.lst (ns.map V.int))) := q
    exact .inr ⟨ne_of q' h5 (by intro z; cases z), ne_of q' h7 (by intro z; cases z), ne_of q' hu (by intro z; cases z), ne_of_none q' hl⟩
  · exact .inl fun _ => .inr q
/-! ### the lambdas' readings -/
variable {e : Ers} {σ : L2.St} {Q : VK} {fI : Addr}
theorem lam_undo (h : LI K H C P0 a ns r vw vh vg p lp lf pa fu s d) (hs : σ[5]? = some (some (.ref p))) (l1 : d.past.length ≤ 1000) (l2 : d.future.length ≤ 1000)
    (q1 : d.past = [] → ∀ H', LI K H' C P0 a ns r vw vh vg p lp lf pa fu s d → Q (.str "undo!") H')
    (q2 : ∀ past b0 t, d.past = past ++ [(b0, t)] → ∀ H', LI K H' C P0 a ns r vw vh vg p lp lf pa fu s ⟨d.n, d.A, d.g, b0, past, d.future ++ [(d.b, t)]⟩ → Q .non H') :
    LamX.tLam [(P0, lamQ)] (TRs e) (fun E => tMeth C "undo" (spUndo K C e) [] E (tVar 5) tNil) σ H Q := by
  refine ⟨h.T, fun H1 e1 T1 => ?_⟩
  have h1 := h.extN e1 T1
  obtain ⟨dx, _, _, _, _, _, g1, _⟩ := h1.D.ex
  refine ⟨_, hs, p, dx, _, rfl, g1, rfl, ?_⟩
  exact ⟨p, lp, lf, d, rfl, h1.D, l1, l2, fun e0 H' s' => ⟨"undo!", .undo, fun H2 e2 => q1 e0 H2 (h1.same (s'.trans e2))⟩, fun past b0 t e0 H' f D' => q2 past b0 t e0 H' (h1.desk f D' (.inl rfl))⟩
theorem lam_redo (h : LI K H C P0 a ns r vw vh vg p lp lf pa fu s d) (hs : σ[5]? = some (some (.ref p))) (l1 : d.past.length ≤ 1000) (l2 : d.future.length ≤ 1000)
    (q1 : d.future = [] → ∀ H', LI K H' C P0 a ns r vw vh vg p lp lf pa fu s d → Q (.str "redo!") H')
    (q2 : ∀ future b0 t, d.future = future ++ [(b0, t)] → ∀ H', LI K H' C P0 a ns r vw vh vg p lp lf pa fu s ⟨d.n, d.A, d.g, b0, d.past ++ [(d.b, t)], future⟩ → Q .non H') :
    LamX.tLam [(P0, lamQ)] (TRs e) (fun E => tMeth C "redo" (spRedo K C e) [] E (tVar 5) tNil) σ H Q := by
  refine ⟨h.T, fun H1 e1 T1 => ?_⟩
  have h1 := h.extN e1 T1
  obtain ⟨dx, _, _, _, _, _, g1, _⟩ := h1.D.ex
  refine ⟨_, hs, p, dx, _, rfl, g1, rfl, ?_⟩
  exact ⟨p, lp, lf, d, rfl, h1.D, l1, l2, fun e0 H' s' => ⟨"redo!", .redo, fun H2 e2 => q1 e0 H2 (h1.same (s'.trans e2))⟩, fun past b0 t e0 H' f D' => q2 past b0 t e0 H' (h1.desk f D' (.inl rfl))⟩
theorem bad_range {n : Nat} {A : Int → Int → Bool} {b : List Int} {q : Pr} {ws : List PySem.Str} {k : Int} (h : dueF n A b q ws = .bad k) : 0 ≤ k ∧ k < 10 := by
  unfold dueF at h
  repeat' split at h
  all_goals first | (cases h; decide) | cases h
theorem due_st {n : Nat} {A : Int → Int → Bool} {b b' : List Int} {q : Pr} {ws : List PySem.Str} (h : dueF n A b q ws = .step b') : St n b' := by
  unfold dueF at h
  repeat' split at h
  all_goals first | (cases h; exact St.sel _ _) | cases h
theorem lam_run {t : PySem.Str} (h : LI K H C P0 a ns r vw vh vg p lp lf pa fu s d) (ok : DOk d) (hs : σ[5]? = some (some (.ref p))) (ht : σ[16]? = some (some (.str t))) (l1 : d.past.length ≤ 1000) (lt : t.length ≤ 1000)
    (q1 : ∀ k, dueF d.n (ar d.A) d.b (has d.g) (wordsF t) = .bad k → ∀ H', LI K H' C P0 a ns r vw vh vg p lp lf pa fu s d → Q (.str (("line!" : PySem.Str) ++ sI k)) H')
    (q2 : ∀ x, dueF d.n (ar d.A) d.b (has d.g) (wordsF t) = .told x → ∀ H', LI K H' C P0 a ns r vw vh vg p lp lf pa fu s d → Q (.str x) H')
    (q3 : ∀ b', dueF d.n (ar d.A) d.b (has d.g) (wordsF t) = .step b' → ∀ lf' H', Tups H H' → LI K H' C P0 a ns r vw vh vg p lp lf' pa fu s ⟨d.n, d.A, d.g, b', d.past ++ [(d.b, t)], []⟩ → Q .non H') :
    LamX.tLam [(P0, lamQ)] (TRs e) (fun E => tMeth C "run" (spRun K C e) [] E (tVar 5) (tCons (tVar 16) tNil)) σ H Q := by
  refine ⟨h.T, fun H1 e1 T1 => ?_⟩
  have h1 := h.extN e1 T1
  obtain ⟨dx, _, _, _, _, _, g1, _⟩ := h1.D.ex
  refine ⟨_, hs, p, dx, _, rfl, g1, rfl, _, ht, ?_⟩
  refine ⟨p, lp, lf, d, .str t, rfl, h1.D, ok, l1, .inr ⟨t, rfl, lt, fun k hk dd H' s' hd => ?_, fun x hx H' s' => q2 x hx H' (h1.same s'), fun b' hb lf' H' hl f D' => q3 b' hb lf' H' ((extN_tups e1).trans (h1.desk_t f)) (h1.desk f D' (.inr hl))⟩⟩
  obtain ⟨k0, k1⟩ := bad_range hk
  exact ⟨_, .line hd k0 k1, fun H2 e2 => q1 k hk H2 (h1.same (s'.trans e2))⟩
theorem lam_none (h : LI K H C P0 a ns r vw vh vg p lp lf pa fu s d) (ok : DOk d) (hs : σ[5]? = some (some (.ref p))) (l1 : d.past.length ≤ 1000) (q : ∀ H', LI K H' C P0 a ns r vw vh vg p lp lf pa fu s d → Q (.str "text!") H') :
    LamX.tLam [(P0, lamQ)] (TRs e) (fun E => tMeth C "run" (spRun K C e) [] E (tVar 5) (tCons (tC .non) tNil)) σ H Q := by
  refine ⟨h.T, fun H1 e1 T1 => ?_⟩
  have h1 := h.extN e1 T1
  obtain ⟨dx, _, _, _, _, _, g1, _⟩ := h1.D.ex
  refine ⟨_, hs, p, dx, _, rfl, g1, rfl, ?_⟩
  exact ⟨p, lp, lf, d, .non, rfl, h1.D, ok, l1, .inl ⟨.none, .non, .inl rfl, fun H' s' => ⟨"text!", .text, fun H2 e2 => q H2 (h1.same (s'.trans e2))⟩⟩⟩
theorem lam_list (h : LI K H C P0 a ns r vw vh vg p lp lf pa fu s d) (ok : DOk d) (hs : σ[5]? = some (some (.ref p))) (l1 : d.past.length ≤ 1000) (q : ∀ H', LI K H' C P0 a ns r vw vh vg p lp lf pa fu s d → Q (.str "text!") H') :
    LamX.tLam [(P0, lamQ)] (TRs e) (fun E => tMeth C "run" (spRun K C e) [] E (tVar 5) (tCons (tLst (tCons (tC (.str "can")) tNil)) tNil)) σ H Q := by
  refine ⟨h.T, fun H1 e1 T1 => ?_⟩
  have h1 := h.extN e1 T1
  obtain ⟨dx, _, _, _, _, _, g1, _⟩ := h1.D.ex
  refine ⟨_, hs, p, dx, _, rfl, g1, rfl, Nat.le_of_ble_eq_true rfl, fun l hl => ?_⟩
  have h2 := h1.same (same_new (o := .lst [.str "can"]) hl)
  exact ⟨p, lp, lf, d, .ref l, rfl, h2.D, ok, l1, .inl ⟨.list [.str "can"], .lst upd_same (.cons (.str _) .nil), .inr ⟨_, rfl⟩, fun H' s' => ⟨"text!", .text, fun H2 e2 => q H2 (h2.same (s'.trans e2))⟩⟩⟩
end
end Hd
set_option Elab.async false
set_option linter.all false
set_option maxRecDepth 100000
set_option maxHeartbeats 4000000
set_option pp.maxSteps 600
/-! Handons: the law. -/
namespace Hd
open PySem PySem.Spec PyProof.Rows L2
section
variable {P : Program} {w : World} {K : PySem.W.Frag} {mg : PySem.Str → Option Value} {base : Heap}
theorem okL {N ps : List PySem.Str} {k : Nat} {f c : Addr} {params : Arguments} {body : List Stmt} {scope : Scope} {dV kV doc pm ct oc : Value} {an od : Option Addr} {osl : Array (Option Value)} {sp : Sp} (lk : K.lookup f = some ⟨oc, od, .func (PySem.W.fnOf "law" "law" params body scope dV kV doc pm an (.ref c) ct), osl⟩) (hcd : PySem.W.codeIn K (.ref c) "law" = true) (S : FnScope N ps scope)
    (len : ∀ vs H Q E, sp vs H Q E → vs.length = ps.length)
    (hb : ∀ (A : Around) (outer : List Env) (s : Shared) (H : Hp) (vs : List V) (Q : VK) (E : XK), Room k (A.deeper (envOfC "law" scope s.heap.objs.size f (.ref c))) → sp vs H Q E →
      ∃ t, PSs (cxOf CX0 P w K mg base N "law" scope f (.ref c) A outer s H E).nox body t ∧ t { nx := fun _ H' => Q .non H', rt := Q } (start N vs) H) :
    FnOk P w K mg base CX0 (k + 1) f (PySem.W.fnOf "law" "law" params body scope dV kV doc pm an (.ref c) ct) ps sp :=
  fn_of lk hcd S len fun A outer s H vs Q E hr h => by
    obtain ⟨t, h1, h2⟩ := hb A outer s H vs Q E hr h
    exact ⟨t, h1.nox, h2⟩
def OkS (s : Dsk) : Prop := DOk s ∧ (∀ q ∈ s.past, St s.n q.1) ∧ ∀ q ∈ s.future, St s.n q.1
theorem ev_neg {σ : L2.St} {H : Hp} {te : TE} {i : Int} (h : Ev K te σ H (.int i)) : Ev K (tUn (rU fun i => V.int (-i)) te) σ H (.int (-i)) := fun H1 e Q q => h H1 e _ fun v H2 e2 av => by
  rw [at_int av]
  exact ⟨i, rfl, q _ H2 e2 (.int _)⟩
theorem imm_stD (b : List Int) (t : PySem.Str) : imm (stD (b, t)) = true := by
  simp only [imm, imm.immAll, Bool.true_and, Bool.and_true]
  exact imm_ints _
theorem ev_burning {σ : L2.St} {H : Hp} {C p lp lf : Addr} {s : Dsk} {E : XK} (hs : σ[5]? = some (some (.ref p))) (D : DeskAt K H C p lp lf s) : Ev K (tProp C (spBurning K C) [] E (tVar 5)) σ H (tI s.b) := fun H1 e Q q => by
  have D1 := D.mono e
  obtain ⟨dx, _, _, _, _, _, g1, _⟩ := D1.ex
  exact ⟨_, hs, p, dx, _, rfl, g1, p, lp, lf, s, rfl, D1, q⟩
theorem ev_steps {σ : L2.St} {H : Hp} {C p lp lf : Addr} {s : Dsk} {E : XK} (hs : σ[5]? = some (some (.ref p))) (D : DeskAt K H C p lp lf s) (hl : s.past.length ≤ 1000) : Ev K (tProp C (spSteps K C) [] E (tVar 5)) σ H (.tuple (s.past.map fun q => .str q.2)) := fun H1 e Q q => by
  have D1 := D.mono e
  obtain ⟨dx, _, _, _, _, _, g1, _⟩ := D1.ex
  exact ⟨_, hs, p, dx, _, rfl, g1, p, lp, lf, s, rfl, D1, hl, q⟩
theorem row_ne {H : Hp} {r sa b : Addr} {ns : List Int} {xs : List V} (R : RowOk K H r sa ns) (h : H b = some (.lst xs)) (hx : ∀ c, xs[0]? ≠ some (.ref c)) : b ≠ r := fun z => by
  obtain ⟨i, j, k, q1, _⟩ := R
  rw [z, q1] at h
  cases h
  exact hx sa rfl
section
variable {C P0 a : Addr} {ns : List Int} {r : Addr} {vw vh vg : V} {p lp lf pa fu : Addr} {s d : Dsk} {σ : L2.St} {H : Hp} {te : TE}
/-- a text is picked -/
theorem k_pickS {xs : List PySem.Str} {Q : VK} (L : LI K H C P0 a ns r vw vh vg p lp lf pa fu s d) (h1 : σ[1]? = some (some (.ref r))) (h : Ev K te σ H (.list (xs.map PyData.str))) (h0 : xs ≠ []) (hl : xs.length ≤ 1000)
    (q : ∀ x H', x ∈ xs → LI K H' C P0 a ns r vw vh vg p lp lf pa fu s d → Q (.str x) H') : tCall (spPick K) [] E0 (tCons (tVar 1) (tCons te tNil)) σ H Q := by
  refine ⟨_, h1, h H (Same.refl H) _ fun v H1 e1 av => ?_⟩
  have L1 := L.same e1
  cases av with
  | lst hb ha =>
    rename_i th ys
    have ey := of_strs ha
    subst ey
    have ne : th ≠ r := row_ne L1.R hb fun c z => by cases xs <;> simp at z
    refine ⟨r, a, ns, th, _, rfl, L1.R, .lst hb ha, ne, by simpa using h0, by rw [List.length_map]; exact hl, fun d hd => ?_, fun d v H' hd b R' av => ?_⟩
    · obtain ⟨x, _, rfl⟩ := List.mem_map.mp hd
      rfl
    · obtain ⟨x, hx, rfl⟩ := List.mem_map.mp hd
      rw [at_str av]
      exact q x H' hx (L1.row b R')
/-- str(pick) if lamps else k -/
theorem k_pickI {j : Nat} {v : V} {ls : List Int} {tk : PySem.Str} {Q : VK} (L : LI K H C P0 a ns r vw vh vg p lp lf pa fu s d) (h1 : σ[1]? = some (some (.ref r))) (hj : σ[j]? = some (some v)) (av : At K H v (lI ls)) (hk : σ[10]? = some (some (.str tk))) (hls : ∀ x ∈ ls, 0 ≤ x ∧ x < 10) (hlen : ls.length ≤ 1000) (ltk : tk.length = 1)
    (q : ∀ x H', x.length = 1 → (∀ u l, At K H u (lI l) → At K H' u (lI l)) → LI K H' C P0 a ns r vw vh vg p lp lf pa fu s d → Q (.str x) H') :
    tIf (tTest (tOp (rNe0 K) (tVar j) (tLst tNil))) (tCB (fun xs H Q => ∃ i, xs = [.int i] ∧ i.natAbs.log2 < 1920 ∧ Q (.str (toString i)) H) (tCons (tCall (spPick K) [] E0 (tCons (tVar 1) (tCons (tVar j) tNil))) tNil)) (tVar 10) σ H Q := by
  refine ev_test (ev_op (ev_var hj av) (ev_lst ea_nil) ro_ne0) H (Same.refl H) _ fun H1 e1 => ?_
  have L1 := L.same e1
  cases ls with
  | nil =>
    refine ⟨_, hk, q tk H1 ltk (fun u l au => au.mono e1) L1⟩
  | cons i0 l0 =>
    have av1 := av.mono e1
    obtain ⟨th, rfl, hb⟩ := at_lI av1
    have ne : th ≠ r := row_ne L1.R hb fun c z => by simp at z
    refine ⟨_, h1, _, hj, r, a, ns, th, _, rfl, L1.R, av1, ne, by simp, by rw [List.length_map]; exact hlen, fun d hd => ?_, fun d v H' hd b R' av => ?_⟩
    · obtain ⟨x, _, rfl⟩ := List.mem_map.mp hd
      rfl
    · obtain ⟨x, hx, rfl⟩ := List.mem_map.mp hd
      obtain rfl := at_int av
      have hx' := hls x hx
      obtain ⟨zs, hz⟩ := L1.R.lst
      refine ⟨x, rfl, small_log hx'.1 (by omega), q (sI x) H' (sI_len hx'.1 hx'.2) (fun u l au => ?_) (L1.row b R')⟩
      obtain ⟨b', rfl, hb'⟩ := at_lI (au.mono e1)
      have ne' : b' ≠ r := row_ne L1.R hb' fun c z => by cases l <;> simp at z
      exact lI_at (b _ _ ne' hb')
end
theorem stay_of {H : Hp} {a r : Addr} {xs : List V} (h : SqL K H a xs) (hr : H r = none) : Stay K a r xs := by
  rcases h with (h | ⟨o, h⟩) | h
  · exact .inr (ne_of_none h hr)
  · exact .inr (ne_of_none h hr)
  · exact .inl fun _ => .inr h
theorem ok_law {e : Ers} {hE C fI fB fS pB pS c P0 fa : Addr} {dI dB dS : FuncData} {dV kV doc pm ct oc : Value} {an od : Option Addr} {osl : Array (Option Value)} (lk : K.lookup fa = some ⟨oc, od, .func (PySem.W.fnOf "law" "law" (defArgs (top 56)) (defBody (top 56)) (defScope (top 56)) dV kV doc pm an (.ref c) ct), osl⟩) (hcd : PySem.W.codeIn K (.ref c) "law" = true)
    (Z : LawZ P w K mg base e hE C fI fB fS pB pS dI dB dS) (TB : LamX.TabB base mg c P0) : FnOk P w K mg base CX0 12 fa (PySem.W.fnOf "law" "law" (defArgs (top 56)) (defBody (top 56)) (defScope (top 56)) dV kV doc pm an (.ref c) ct) ["_law_script"] (spLaw K P0) := by
  have nd := sc_law.nd
  have T := Z.T
  refine okL lk hcd sc_law (fun vs H Q E ⟨a, ns, e, _⟩ => by rw [e]; rfl) fun A0 outer s H vs Q E hr h => ?_
  obtain ⟨a, ns, rfl, hP0, hS, q⟩ := h
  refine ⟨_, (pss_cons (ps_set (i := 1) nd rfl (.inl rfl) (pe_lst (pa_cons (pv 0) (pa_cons pe_int (pa_cons pe_int (pa_cons pe_int pa_nil))))))
    (pss_cons (ps_set (i := 2) nd rfl (.inl rfl) (Z.c__law_web.call hr rfl (pa_cons (pv 1) (pa_cons pe_int pa_nil)) pass0))
    (pss_cons (ps_par (i := 3) (j := 4) (by rfl) nd rfl rfl (by decide) rfl rfl (pa_cons (Z.c__law_burning.call hr rfl (pa_cons (pv 1) (pa_cons (pe_ix (k_ixt (K := K) rfl) (pv 2) pe_int (fun _ _ => rfl)) pa_nil)) pass0) (pa_cons (Z.c__law_burning.call hr rfl (pa_cons (pv 1) (pa_cons (pe_ix (k_ixt (K := K) rfl) (pv 2) pe_int (fun _ _ => rfl)) pa_nil)) pass0) pa_nil)) (by rfl))
    (pss_cons (ps_asg (pe_tup (pa_cons (pe_make Z.mkD Z.init (hr.mono (by decide)) rfl Z.gD Z.bInit .nil pass0 (pa_cons (pv 2) (pa_cons (pv 3) (pa_cons (pv 4) pa_nil)))) (pa_cons (pe_lst pa_nil) (pa_cons (pe_lst pa_nil) pa_nil)))) (pg_tup rfl (pgs_cons (pg_name (i := 5) nd rfl (.inr rfl)) (pgs_cons (pg_name (i := 6) nd rfl (.inl rfl)) (pgs_cons (pg_name (i := 7) nd rfl (.inl rfl)) pgs_nil)))))
    (pss_cons (ps_for PassesOwn.never rfl (pi_range1 (by rfl) T.f_range (pa_cons pe_int pa_nil)) (pg_name (i := 8) nd rfl (.inl rfl))
      (pss_cons (ps_par (i := 9) (j := 10) (by rfl) nd rfl rfl (by decide) rfl rfl (pa_cons (Z.c__law_taken.call hr rfl (pa_cons (pv 1) (pa_cons pe_int pa_nil)) pass0) (pa_cons (pe_callTy call_str_int (by rfl) T.f_str (by decide +kernel) (pa_cons (Z.c__law_taken.call hr rfl (pa_cons (pv 1) (pa_cons (pe_op op_add (pe_ix (k_ixt (K := K) rfl) (pv 2) pe_int (fun _ _ => rfl)) pe_int) pa_nil)) pass0) pa_nil)) pa_nil)) (by rfl))
      (pss_cons (ps_if (pt_cmpR op_eq (pv 9) pe_int (nomark _))
        (pss_cons (ps_if (pt_not (pt_val (Z.al0.call hr rfl (pa_cons (Z.R.call TB rfl rfl hr rfl (LamX.lamS_by (by kernel_rfl)) rfl (fun _ _ _ _ _ => rfl) (fun A outer s H E f c hr => Z.m_undo.call0 hr (pv 5) Z.Y.cl (passes_call (takes_of rfl rfl rfl rfl) fun _ _ _ _ h => h))) (pa_cons (pe_ifExp (pt_cmpR (k_ne0 (K := K) rfl (hu_of hr)) (pv 6) (pe_lst pa_nil) (nomark _)) pe_non pe_str) pa_nil)) pass0)))
          (pss_one (ps_ret pe_bl))
          pss_nil)
        (pss_one (ps_if (pt_cmpR (k_ne0 (K := K) rfl (hu_of hr)) (pv 6) (pe_lst pa_nil) (nomark _))
          (pss_cons (ps_expr (pe_bm PySem.F.plainAttrs_list PySem.F.slot_list_append PySem.F.type_list_append mt_append (pv 7) (pa_cons (pe_tup (pa_cons (pv 3) (pa_cons (pe_ix (k_ixt (K := K) rfl) (pe_ix (k_ixl (K := K) rfl) (pv 6) (pe_un un_neg pe_int) (fun _ _ => rfl)) pe_int (fun _ _ => rfl)) pa_nil))) pa_nil)))
          (pss_one (ps_set (i := 3) nd rfl (.inl rfl) (pe_ix (k_ixt (K := K) rfl) (pe_bm0 PySem.F.plainAttrs_list PySem.F.slot_list_pop PySem.F.type_list_pop mt_pop (pv 6)) pe_int (fun _ _ => rfl)))))
          pss_nil)))
        (pss_one (ps_if (pt_cmpR op_eq (pv 9) pe_int (nomark _))
          (pss_cons (ps_if (pt_not (pt_val (Z.al0.call hr rfl (pa_cons (Z.R.call TB rfl rfl hr rfl (LamX.lamS_by (by kernel_rfl)) rfl (fun _ _ _ _ _ => rfl) (fun A outer s H E f c hr => Z.m_redo.call0 hr (pv 5) Z.Y.cl (passes_call (takes_of rfl rfl rfl rfl) fun _ _ _ _ h => h))) (pa_cons (pe_ifExp (pt_cmpR (k_ne0 (K := K) rfl (hu_of hr)) (pv 7) (pe_lst pa_nil) (nomark _)) pe_non pe_str) pa_nil)) pass0)))
            (pss_one (ps_ret pe_bl))
            pss_nil)
          (pss_one (ps_if (pt_cmpR (k_ne0 (K := K) rfl (hu_of hr)) (pv 7) (pe_lst pa_nil) (nomark _))
            (pss_cons (ps_expr (pe_bm PySem.F.plainAttrs_list PySem.F.slot_list_append PySem.F.type_list_append mt_append (pv 6) (pa_cons (pe_tup (pa_cons (pv 3) (pa_cons (pe_ix (k_ixt (K := K) rfl) (pe_ix (k_ixl (K := K) rfl) (pv 7) (pe_un un_neg pe_int) (fun _ _ => rfl)) pe_int (fun _ _ => rfl)) pa_nil))) pa_nil)))
            (pss_one (ps_set (i := 3) nd rfl (.inl rfl) (pe_ix (k_ixt (K := K) rfl) (pe_bm0 PySem.F.plainAttrs_list PySem.F.slot_list_pop PySem.F.type_list_pop mt_pop (pv 7)) pe_int (fun _ _ => rfl)))))
            pss_nil)))
          (pss_cons (ps_par (i := 11) (j := 12) (by rfl) nd rfl rfl (by decide) rfl rfl (pa_cons (Z.c__law_light.call hr rfl (pa_cons (pv 2) (pa_cons (pv 3) pa_nil)) pass0) (pa_cons (Z.c__law_quench.call hr rfl (pa_cons (pv 2) (pa_cons (pv 3) pa_nil)) pass0) pa_nil)) (by rfl))
          (pss_cons (ps_par (i := 13) (j := 14) (by rfl) nd rfl rfl (by decide) rfl rfl (pa_cons (pe_ifExp (pt_cmpR (k_ne0 (K := K) rfl (hu_of hr)) (pv 11) (pe_lst pa_nil) (nomark _)) (pe_callTy call_str_int (by rfl) T.f_str (by decide +kernel) (pa_cons (Z.c__law_pick.call hr rfl (pa_cons (pv 1) (pa_cons (pv 11) pa_nil)) pass0) pa_nil)) (pv 10)) (pa_cons (pe_ifExp (pt_cmpR (k_ne0 (K := K) rfl (hu_of hr)) (pv 12) (pe_lst pa_nil) (nomark _)) (pe_callTy call_str_int (by rfl) T.f_str (by decide +kernel) (pa_cons (Z.c__law_pick.call hr rfl (pa_cons (pv 1) (pa_cons (pv 12) pa_nil)) pass0) pa_nil)) (pv 10)) pa_nil)) (by rfl))
          (pss_cons (ps_set (i := 15) nd rfl (.inl rfl) (pe_lst (pa_cons (pe_op op_add_str pe_str (pv 13)) (pa_cons (pe_op op_add_str pe_str (pv 13)) (pa_cons (pe_op op_add_str pe_str (pv 14)) (pa_cons (pe_op op_add_str pe_str (pv 14)) (pa_cons (pe_op op_add_str pe_str (pv 10)) (pa_cons pe_str pa_nil))))))))
          (pss_cons (ps_set (i := 15) nd rfl (.inl rfl) (pe_op op_cat (pv 15) (pe_lst (pa_cons pe_str (pa_cons pe_str (pa_cons pe_str (pa_cons pe_str pa_nil)))))))
          (pss_cons (ps_asg (pe_tup (pa_cons (Z.c__law_pick.call hr rfl (pa_cons (pv 1) (pa_cons (pv 15) pa_nil)) pass0) (pa_cons (Z.c__law_pick.call hr rfl (pa_cons (pv 1) (pa_cons (pe_lst (pa_cons pe_str (pa_cons pe_str (pa_cons pe_str (pa_cons (pe_op op_add_str pe_str (pv 10)) (pa_cons pe_str (pa_cons pe_str (pa_cons pe_str (pa_cons pe_str pa_nil))))))))) pa_nil)) pass0) pa_nil))) (pg_tup rfl (pgs_cons (pg_name (i := 16) nd rfl (.inr rfl)) (pgs_cons (pg_name (i := 17) nd rfl (.inl rfl)) pgs_nil))))
          (pss_cons (ps_set (i := 16) nd rfl (.inr rfl) (Z.c__law_pick.call hr rfl (pa_cons (pv 1) (pa_cons (pe_op op_cat (pe_op op_rep (pe_lst (pa_cons (pv 16) pa_nil)) pe_int) (pe_lst (pa_cons (pe_op op_add_str (pe_opT op_add_str (CwR.pet_replC (pv 16))) pe_str) (pa_cons (pe_op op_add_str (pe_op op_add_str (pv 16) pe_str) (pv 10)) (pa_cons (pv 17) pa_nil))))) pa_nil)) pass0))
          (pss_cons (ps_asg (Z.c__law_desk_due.call hr rfl (pa_cons (pv 2) (pa_cons (pv 3) (pa_cons (pv 4) (pa_cons (pv 16) pa_nil)))) pass0) (pg_tup rfl (pgs_cons (pg_name (i := 18) nd rfl (.inl rfl)) (pgs_cons (pg_name (i := 19) nd rfl (.inl rfl)) pgs_nil))))
          (pss_cons (ps_set (i := 20) nd rfl (.inl rfl) (Z.R.call TB rfl rfl hr rfl (LamX.lamS_by (by kernel_rfl)) rfl (fun _ _ _ _ _ => rfl) (fun A outer s H E f c hr => Z.m_run.call hr (pv 5) Z.Y.cl (pa_cons (pv 16) pa_nil) (passes_call (takes_of rfl rfl rfl rfl) fun _ _ _ _ h => h))))
          (pss_cons (ps_if (pt_not (pt_val (Z.al0.call hr rfl (pa_cons (pv 20) (pa_cons (pe_ifExp (pt_cmpR op_eq (pv 18) pe_str (nomark _)) (pe_op op_add_str pe_str (pe_callTy call_str_int (by rfl) T.f_str (by decide +kernel) (pa_cons (pv 19) pa_nil))) (pe_ifExp (pt_cmpR op_eq (pv 18) pe_str (nomark _)) (pv 19) pe_non)) pa_nil)) pass0)))
            (pss_one (ps_ret pe_bl))
            pss_nil)
          (pss_one (ps_if (pt_cmpR op_eq (pv 18) pe_str (nomark _))
            (pss_cons (ps_expr (pe_bm PySem.F.plainAttrs_list PySem.F.slot_list_append PySem.F.type_list_append mt_append (pv 6) (pa_cons (pe_tup (pa_cons (pv 3) (pa_cons (pv 16) pa_nil))) pa_nil)))
            (pss_one (ps_par (i := 3) (j := 7) (by rfl) nd rfl rfl (by decide) rfl rfl (pa_cons (pv 19) (pa_cons (pe_lst pa_nil) pa_nil)) (by rfl))))
            pss_nil))))))))))))))
      (pss_one (ps_if (PW.pt (pw_or (pt_not (pt_val (Z.al1.call hr rfl (pa_cons (pe_prop (pv 5) Z.Y.cl Z.p_burning Z.ok_burning (hr.mono (by decide)) Z.b_burning .nil pass0 rfl) (pa_cons (pv 3) pa_nil)) pass0))) (pw_or1 (pt_not (pt_val (Z.al1.call hr rfl (pa_cons (pe_prop (pv 5) Z.Y.cl Z.p_steps Z.ok_steps (hr.mono (by decide)) Z.b_steps .nil pass0 rfl) (pa_cons (pe_callTy call_tuple_of (by rfl) T.f_tuple (by decide +kernel) (pa_cons (pe_lc (own := [("_law_step", 21)]) (g := (gName 21)) rfl nd (pi_list (pv 6)) (blkOk_by (by kernel_rfl)) (fun _ _ _ _ _ => (pg_name (i := 21) nd rfl (.inl rfl))) (fun _ _ _ _ _ => pts_nil) (fun _ _ _ _ _ => (pe_ix (k_ixt (K := K) rfl) (pv 21) pe_int (fun _ _ => rfl)))) pa_nil)) pa_nil)) pass0))))))
        (pss_one (ps_ret pe_bl))
        pss_nil)))))
    (pss_one (ps_ret (pe_and (pe_cmpR op_eq (Z.R.call TB rfl rfl hr rfl (LamX.lamS_by (by kernel_rfl)) rfl (fun _ _ _ _ _ => rfl) (fun A outer s H E f c hr => Z.m_run.call hr (pv 5) Z.Y.cl (pa_cons pe_non pa_nil) (passes_call (takes_of rfl rfl rfl rfl) fun _ _ _ _ h => h))) pe_str (nomark _)) (pe_one (pe_cmpR op_eq (Z.R.callD TB rfl rfl hr rfl (lamD_by (by kernel_rfl)) rfl bind_a rfl (fun A outer s H E f c hr => Z.m_run.call hr (pv 5) Z.Y.cl (pa_cons (pe_lst (pa_cons pe_str pa_nil)) pa_nil) (passes_call (takes_of rfl rfl rfl rfl) fun _ _ _ _ h => h))) pe_str (nomark _))))))))))), ?_⟩
  -- the row
  refine ⟨_, rfl, Nat.le_of_ble_eq_true rfl, fun r hr0 => ?_⟩
  have e1 := same_new (o := .lst [.ref a, .int 0, .int 9663, .int 0]) hr0
  have R1 : RowOk K (L2.upd H r (.lst [.ref a, .int 0, .int 9663, .int 0])) r a ns := ⟨0, 9663, 0, upd_same, e1.seq hS, stay_of hS hr0, by decide, by decide, by decide⟩
  have hP1 := e1 _ _ hP0
  have nP : P0 ≠ r := ne_of_none hP0 hr0
  -- the web
  refine ⟨_, rfl, r, a, ns, rfl, R1, fun n A vw H2 W b2 R2 aw => ?_⟩
  have hP2 := b2 _ _ nP hP1
  have n5 := W.n5
  -- the standings
  refine ⟨_, rfl, (ev_op (ev_var rfl aw) ev_int ro_ix0) _ (Same.refl _) _ fun v H3 e3 av => ?_⟩
  obtain rfl := at_int av
  refine ⟨r, a, ns, n, rfl, by omega, R2.mono e3, fun b vh H4 Sb b4 R4 ah => ?_⟩
  have aw4 := (aw.mono e3).row (R2.mono e3) b4 (imm_web _ _)
  refine ⟨_, rfl, (ev_op (ev_var rfl aw4) ev_int ro_ix0) _ (Same.refl _) _ fun v H5 e5 av => ?_⟩
  obtain rfl := at_int av
  refine ⟨r, a, ns, n, rfl, by omega, R4.mono e5, fun g vg H6 Sg b6 R6 ag => ?_⟩
  have aw6 := (aw4.mono e5).row (R4.mono e5) b6 (imm_web _ _)
  have ah6 := (ah.mono e5).row (R4.mono e5) b6 (imm_tI _)
  have hP6 := b6 _ _ nP (e5 _ _ (b4 _ _ nP (e3 _ _ hP2)))
  refine ⟨_, _, rfl, ?_⟩
  -- the desk
  refine ⟨_, rfl, _, rfl, _, rfl, fun p dx hp hdx npd => ?_⟩
  have eG := (same_new (o := .own p) hdx).trans (same_new (H := L2.upd H6 dx (.own p)) (p := p) (o := .ins C dx []) (by rw [upd_ne npd.symm]; exact hp))
  refine ⟨p, dx, vw, vh, vg, n, A, g, b, rfl, upd_same, aw6.mono eG, ah6.mono eG, ag.mono eG, ⟨W, Sg, Sb⟩, fun lp lf H7 hlp hlf keep D7 => ⟨rfl, ?_⟩⟩
  have e67 : Same H6 H7 := fun c o hc => keep c o (ne_of_none hc hp) (eG _ _ hc)
  obtain ⟨zs, hz6⟩ := R6.lst
  obtain ⟨dx', _, _, _, xs7, ys7, d1, _, _, _, d5, _, d7, _, d9⟩ := D7.ex
  refine ⟨Nat.zero_le _, fun pa hpa => ⟨Nat.zero_le _, fun fu hfu => ⟨Nat.le_of_ble_eq_true rfl, fun tp htp => ?_⟩⟩⟩
  have e8 := same_new (o := .lst []) hpa
  have e9 := same_new (o := .lst []) hfu
  have e10 := same_new (o := .tup [.ref p, .ref pa, .ref fu]) htp
  refine ⟨_, _, rfl, .inl (.inl upd_same), rfl, _, _, rfl, _, _, rfl, _, _, rfl, rfl, ?_⟩
  have L0 : LI K (L2.upd (L2.upd (L2.upd H7 pa (.lst [])) fu (.lst [])) tp (.tup [.ref p, .ref pa, .ref fu])) C P0 a ns r vw vh vg p lp lf pa fu ⟨n, A, g, b, [], []⟩ ⟨n, A, g, b, [], []⟩ := by
    have e710 := (e8.trans e9).trans e10
    have e610 := e67.trans e710
    refine ⟨R6.mono e610, aw6.mono e610, ah6.mono e610, ag.mono e610, D7.mono e710, .lst (e10 _ _ (e9 _ _ upd_same)) .nil, .lst (e10 _ _ upd_same) .nil, ne_of_none (eG _ _ hz6) hlp, ne_of_none (eG _ _ hz6) hlf, ne_of_none (e67 _ _ hz6) hpa, ne_of_none (e8 _ _ (e67 _ _ hz6)) hfu,
      ne_of_none d5 hpa, ne_of_none (e8 _ _ d5) hfu, ne_of_none d7 hpa, ne_of_none (e8 _ _ d7) hfu, ne_of_none upd_same hfu, ?_, fun z hz => ?_⟩
    · obtain ⟨i, j, k, q1, q2, q3, q4⟩ := R6
      rcases q2 with (y | ⟨o, y⟩) | y
      · exact .inr ⟨ne_of_none (eG _ _ y) hlp, ne_of_none (eG _ _ y) hlf, ne_of_none (e67 _ _ y) hpa, ne_of_none (e8 _ _ (e67 _ _ y)) hfu⟩
      · exact .inr ⟨ne_of_none (eG _ _ y) hlp, ne_of_none (eG _ _ y) hlf, ne_of_none (e67 _ _ y) hpa, ne_of_none (e8 _ _ (e67 _ _ y)) hfu⟩
      · exact .inl fun _ => .inr y
    · rw [List.mem_singleton] at hz
      rw [hz]
      exact LamX.TabS.nil (e610 _ _ hP6)
  generalize L2.upd (L2.upd (L2.upd H7 pa (.lst [])) fu (.lst [])) tp (.tup [.ref p, .ref pa, .ref fu]) = H10 at L0 ⊢
  have ok0 : DOk ⟨n, A, g, b, [], []⟩ := ⟨W, Sg, Sb⟩
  clear e8 e9 e10 htp hfu hpa d1 d5 d7 d9 hz6 e67 keep hlp hlf eG hp hdx aw6 ah6 ag D7 R6 b6 e5 aw4 ah R4 b4 e3 aw R2 b2 R1 e1
  refine ⟨12, rfl, by decide, by decide, for_range (lo := 0) (n := 12) (fun i σ H' => ∃ (vh : V) (fu lf : Addr) (s : Dsk) (y8 y9 y10 y11 y12 y13 y14 y15 y16 y17 y18 y19 y20 y21 : Option V), σ = [some (.ref a), some (.ref r), some vw, some vh, some vg, some (.ref p), some (.ref pa), some (.ref fu), y8, y9, y10, y11, y12, y13, y14, y15, y16, y17, y18, y19, y20, y21] ∧
    LI K H' C P0 a ns r vw vh vg p lp lf pa fu s s ∧ OkS s ∧ s.past.length + s.future.length ≤ i) ?_ ?_ ?_⟩
  · exact ⟨vh, fu, lf, _, _, _, _, _, _, _, _, _, _, _, _, _, _, _, rfl, L0, ⟨ok0, by simp, by simp⟩, Nat.le_refl _⟩
  · clear L0 ok0 hP6
    rintro i σ H1 hi ⟨vh, fu, lf, s, y8, y9, y10, y11, y12, y13, y14, y15, y16, y17, y18, y19, y20, y21, rfl, L, ok, len⟩
    -- the way and a number's text
    have wn := ok.1.1.n5
    refine ⟨_, rfl, r, a, ns, 9, rfl, L.R, by decide, fun wy H2 b2 R2 wy0 wy1 => ?_⟩
    have L2 := L.row b2 R2
    clear L b2 R2
    refine ⟨_, rfl, (ev_op (ev_op (ev_var rfl L2.aw) ev_int ro_ix0) ev_int ro_int) _ (Same.refl _) _ fun v H3 e3 av => ?_⟩
    obtain rfl := at_int av
    have L3 := L2.same e3
    refine ⟨r, a, ns, s.n + 1, rfl, L3.R, ⟨by omega, by omega⟩, fun k H4 b4 R4 k0 k1 => ?_⟩
    have L4 := L3.row b4 R4
    clear L2 e3 L3 b4 R4
    refine ⟨k, rfl, small_log k0 (by omega), ?_⟩
    have L5 := L4
    clear L4
    refine ⟨_, _, rfl, ?_⟩
    have lk1 : (sI k).length = 1 := sI_len k0 (by omega)
    dsimp only
    refine s_cut (fun σ' H' => ∃ (vh : V) (fu lf : Addr) (s : Dsk) (y8 y9 y10 y11 y12 y13 y14 y15 y16 y17 y18 y19 y20 y21 : Option V), σ' = [some (.ref a), some (.ref r), some vw, some vh, some vg, some (.ref p), some (.ref pa), some (.ref fu), y8, y9, y10, y11, y12, y13, y14, y15, y16, y17, y18, y19, y20, y21] ∧
      LI K H' C P0 a ns r vw vh vg p lp lf pa fu s s ∧ OkS s ∧ s.past.length + s.future.length ≤ i + 1) (fun N hN => ?_) ?_
    · refine s_if (ev_test (ev_op (ev_var rfl (.int wy)) ev_int (ro_eqI (K := K)))) (fun hb H6 e6 => ?_) fun hb H6 e6 => ?_
      · -- undo
        have L6 := L5.same e6
        clear L5 e6
        refine lam_undo L6 rfl (by omega) (by omega) (fun hp H7 L7 => ?_) fun past b0 t hp H7 L7 => ?_
        · refine ev_if (K := K) (d := .str "undo!") (ev_test (ev_op (ev_var rfl L7.aP) (ev_lst ea_nil) ro_ne0)) (fun hb => ?_) (fun _ => ev_str) _ (Same.refl _) _ fun y H8 e8 ay => ?_
          · rw [hp] at hb; cases hb
          refine ⟨[.str "undo!", .str "undo!"], _, ⟨_, rfl, rfl, rfl⟩, .cons (.str _) (.cons ay .nil), fun v H9 e9 av => ?_⟩
          obtain rfl := at_bl av
          refine ⟨true, rfl, ?_⟩
          have L9 := L7.same (e8.trans e9)
          refine s_if (ev_test (ev_op (ev_var rfl L9.aP) (ev_lst ea_nil) ro_ne0)) (fun hb => ?_) fun _ H10 e10 => ?_
          · rw [hp] at hb; cases hb
          exact hN _ _ ⟨vh, fu, lf, s, _, _, _, _, _, _, _, _, _, _, _, _, _, _, rfl, L9.same e10, ok, by omega⟩
        · refine ev_if (K := K) (d := .none) (ev_test (ev_op (ev_var rfl L7.aP) (ev_lst ea_nil) ro_ne0)) (fun _ => ev_non) (fun hb => ?_) _ (Same.refl _) _ fun y H8 e8 ay => ?_
          · rw [hp, List.map_append] at hb
            simp at hb
          refine ⟨[.none, .none], _, ⟨_, rfl, rfl, rfl⟩, .cons .non (.cons ay .nil), fun v H9 e9 av => ?_⟩
          obtain rfl := at_bl av
          refine ⟨true, rfl, ?_⟩
          have L9 := L7.same (e8.trans e9)
          refine s_if (ev_test (ev_op (ev_var rfl L9.aP) (ev_lst ea_nil) ro_ne0)) (fun _ H10 e10 => ?_) fun hb => ?_
          · have L10 := L9.same e10
            clear L6 L7 L9 e8 e9 e10
            have aP := L10.aP
            rw [hp, List.map_append] at aP
            obtain ⟨acc, hw, aw⟩ := at_lst L10.aF
            refine s_app (K := K) rfl hw (by rw [aw.len, List.length_map]; omega) (d := stD (s.b, t)) (ev_tup (ea_cons (ev_var rfl L10.ah) (ea_cons (ev_op (ev_op (ev_var rfl aP) (ev_neg ev_int) ro_ixLast) ev_int ro_ix1) ea_nil))) fun v H11 e11 av => ?_
            have L12 := (L10.same e11).updF (l := s.future ++ [(s.b, t)]) (xs := acc ++ [v]) (by rw [List.map_append]; exact (aw.mono e11).app (.cons av .nil))
            have aP2 := L12.aP
            simp only [hp, List.map_append] at aP2
            obtain ⟨xs, hl, ax⟩ := at_lst aP2
            obtain ⟨us, v', rfl, hus, hv⟩ := ax.snoc_inv
            refine ⟨_, rfl, .inl ⟨rfl, _, SqL.of hl⟩, pa, us ++ [v'], v', rfl, rfl, hl, by simp, ?_⟩
            rw [List.dropLast_concat]
            have L13 := L12.updP (l := past) hus
            refine ev_int (K := K) _ (Same.refl _) _ fun z H14 e14 az => ?_
            refine ro_ix0 (K := K) _ _ _ ((hv.tups (Tups.lst hl) (imm_stD b0 t)).mono e14) az _ fun u H15 e15 au => ?_
            have sp : ∀ q ∈ past, St s.n q.1 := fun q hq => ok.2.1 q (by rw [hp]; exact List.mem_append.mpr (.inl hq))
            have sb : St s.n b0 := ok.2.1 (b0, t) (by rw [hp]; simp)
            refine hN _ _ ⟨u, fu, lf, ⟨s.n, s.A, s.g, b0, past, s.future ++ [(s.b, t)]⟩, _, _, _, _, _, _, _, _, _, _, _, _, _, _, rfl, (L13.same (e14.trans e15)).here au, ⟨⟨ok.1.1, ok.1.2.1, sb⟩, sp, fun q hq => ?_⟩, ?_⟩
            · rcases List.mem_append.mp hq with z | z
              · exact ok.2.2 q z
              · rw [List.mem_singleton.mp z]
                exact ok.1.2.2
            · rw [hp] at len
              simp at len ⊢
              omega
          · rw [hp, List.map_append] at hb
            simp at hb
      · refine s_if (ev_test (ev_op (ev_var rfl (.int wy)) ev_int (ro_eqI (K := K)))) (fun hb H7 e7 => ?_) fun hb H7 e7 => ?_
        · -- redo
          have L6 := L5.same (e6.trans e7)
          clear L5 e6 e7
          refine lam_redo L6 rfl (by omega) (by omega) (fun hp H7 L7 => ?_) fun past b0 t hp H7 L7 => ?_
          · refine ev_if (K := K) (d := .str "redo!") (ev_test (ev_op (ev_var rfl L7.aF) (ev_lst ea_nil) ro_ne0)) (fun hb => ?_) (fun _ => ev_str) _ (Same.refl _) _ fun y H8 e8 ay => ?_
            · rw [hp] at hb; cases hb
            refine ⟨[.str "redo!", .str "redo!"], _, ⟨_, rfl, rfl, rfl⟩, .cons (.str _) (.cons ay .nil), fun v H9 e9 av => ?_⟩
            obtain rfl := at_bl av
            refine ⟨true, rfl, ?_⟩
            have L9 := L7.same (e8.trans e9)
            refine s_if (ev_test (ev_op (ev_var rfl L9.aF) (ev_lst ea_nil) ro_ne0)) (fun hb => ?_) fun _ H10 e10 => ?_
            · rw [hp] at hb; cases hb
            exact hN _ _ ⟨vh, fu, lf, s, _, _, _, _, _, _, _, _, _, _, _, _, _, _, rfl, L9.same e10, ok, by omega⟩
          · refine ev_if (K := K) (d := .none) (ev_test (ev_op (ev_var rfl L7.aF) (ev_lst ea_nil) ro_ne0)) (fun _ => ev_non) (fun hb => ?_) _ (Same.refl _) _ fun y H8 e8 ay => ?_
            · rw [hp, List.map_append] at hb
              simp at hb
            refine ⟨[.none, .none], _, ⟨_, rfl, rfl, rfl⟩, .cons .non (.cons ay .nil), fun v H9 e9 av => ?_⟩
            obtain rfl := at_bl av
            refine ⟨true, rfl, ?_⟩
            have L9 := L7.same (e8.trans e9)
            refine s_if (ev_test (ev_op (ev_var rfl L9.aF) (ev_lst ea_nil) ro_ne0)) (fun _ H10 e10 => ?_) fun hb => ?_
            · have L10 := L9.same e10
              clear L6 L7 L9 e8 e9 e10
              have aP := L10.aF
              rw [hp, List.map_append] at aP
              obtain ⟨acc, hw, aw⟩ := at_lst L10.aP
              refine s_app (K := K) rfl hw (by rw [aw.len, List.length_map]; omega) (d := stD (s.b, t)) (ev_tup (ea_cons (ev_var rfl L10.ah) (ea_cons (ev_op (ev_op (ev_var rfl aP) (ev_neg ev_int) ro_ixLast) ev_int ro_ix1) ea_nil))) fun v H11 e11 av => ?_
              have L12 := (L10.same e11).updP (l := s.past ++ [(s.b, t)]) (xs := acc ++ [v]) (by rw [List.map_append]; exact (aw.mono e11).app (.cons av .nil))
              have aP2 := L12.aF
              simp only [hp, List.map_append] at aP2
              obtain ⟨xs, hl, ax⟩ := at_lst aP2
              obtain ⟨us, v', rfl, hus, hv⟩ := ax.snoc_inv
              refine ⟨_, rfl, .inl ⟨rfl, _, SqL.of hl⟩, fu, us ++ [v'], v', rfl, rfl, hl, by simp, ?_⟩
              rw [List.dropLast_concat]
              have L13 := L12.updF (l := past) hus
              refine ev_int (K := K) _ (Same.refl _) _ fun z H14 e14 az => ?_
              refine ro_ix0 (K := K) _ _ _ ((hv.tups (Tups.lst hl) (imm_stD b0 t)).mono e14) az _ fun u H15 e15 au => ?_
              have sp : ∀ q ∈ past, St s.n q.1 := fun q hq => ok.2.2 q (by rw [hp]; exact List.mem_append.mpr (.inl hq))
              have sb : St s.n b0 := ok.2.2 (b0, t) (by rw [hp]; simp)
              refine hN _ _ ⟨u, fu, lf, ⟨s.n, s.A, s.g, b0, s.past ++ [(s.b, t)], past⟩, _, _, _, _, _, _, _, _, _, _, _, _, _, _, rfl, (L13.same (e14.trans e15)).here au, ⟨⟨ok.1.1, ok.1.2.1, sb⟩, fun q hq => ?_, sp⟩, ?_⟩
              · rcases List.mem_append.mp hq with z | z
                · exact ok.2.1 q z
                · rw [List.mem_singleton.mp z]
                  exact ok.1.2.2
              · rw [hp] at len
                simp at len ⊢
                omega
            · rw [hp, List.map_append] at hb
              simp at hb
        · -- a text
          have L7 := L5.same (e6.trans e7)
          clear L5 e6 e7
          have St1 := ok.1.2.2
          refine s_par (K := K) (ea_cons (ev_call (ea_cons (ev_var rfl L7.aw) (ea_cons (ev_var rfl L7.ah) ea_nil)) ⟨s.n, s.A, s.b, rfl, ok.1.1, St1, rfl⟩) (ea_cons (ev_call (ea_cons (ev_var rfl L7.aw) (ea_cons (ev_var rfl L7.ah) ea_nil)) ⟨s.n, s.A, s.b, rfl, ok.1.1, St1, rfl⟩) ea_nil)) fun vl vq H8 e8 al aq => ?_
          have L8 := L7.same e8
          clear L7 e8
          have S1 := St.sel s.n (lightP s.n (ar s.A) (has s.b))
          have S2 := St.sel s.n (quenchP s.n (ar s.A) (has s.b))
          generalize sel s.n (lightP s.n (ar s.A) (has s.b)) = ll at *
          generalize sel s.n (quenchP s.n (ar s.A) (has s.b)) = lq at *
          have in10 : ∀ {l : List Int}, St s.n l → ∀ x ∈ l, 0 ≤ x ∧ x < 10 := fun S x hx => by have := S.1 x hx; omega
          have l1 := S1.len
          have l2 := S2.len
          refine k_pickI L8 rfl rfl al rfl (in10 S1) (by omega) lk1 fun x13 H9 lx13 k9 L9 => ?_
          refine k_pickI L9 rfl rfl (k9 _ _ aq) rfl (in10 S2) (by omega) lk1 fun x14 H10 lx14 k10 L10 => ?_
          refine ⟨_, _, rfl, ?_⟩
          clear k9 k10 L8 L9 al aq
          have sl : ∀ (c x : PySem.Str), x.length = 1 → c.length ≤ 10 → c.length + x.length ≤ 100000 := fun c x h1 h2 => by omega
          refine s_set (K := K) (d := .list (["light " ++ x13, "light " ++ x13, "quench " ++ x14, "quench " ++ x14, "light " ++ sI k, "burning"].map PyData.str)) (ev_lst (ea_cons (ev_op ev_str (ev_var rfl (.str x13)) (ro_addS (sl _ _ lx13 (by decide)))) (ea_cons (ev_op ev_str (ev_var rfl (.str x13)) (ro_addS (sl _ _ lx13 (by decide)))) (ea_cons (ev_op ev_str (ev_var rfl (.str x14)) (ro_addS (sl _ _ lx14 (by decide)))) (ea_cons (ev_op ev_str (ev_var rfl (.str x14)) (ro_addS (sl _ _ lx14 (by decide))))
            (ea_cons (ev_op ev_str (ev_var rfl (.str _)) (ro_addS (sl _ _ lk1 (by decide)))) (ea_cons ev_str ea_nil))))))) fun v15 H11 e11 a15 => ?_
          have L11 := L10.same e11
          refine s_set (K := K) (d := .list (["light " ++ x13, "light " ++ x13, "quench " ++ x14, "quench " ++ x14, "light " ++ sI k, "burning", "can", "left", "next", "spare"].map PyData.str)) (ev_op (ev_var rfl a15) (ev_lst (ea_cons ev_str (ea_cons ev_str (ea_cons ev_str (ea_cons ev_str ea_nil))))) (ro_cat (Nat.le_of_ble_eq_true rfl))) fun v15 H12 e12 a15 => ?_
          have L12 := L11.same e12
          clear L10 L11 e11 e12
          refine k_pickS (xs := ["light " ++ x13, "light " ++ x13, "quench " ++ x14, "quench " ++ x14, "light " ++ sI k, "burning", "can", "left", "next", "spare"]) L12 rfl (ev_var rfl a15) (by simp) (by simp) fun t1 H13 m1 L13 => ?_
          have lt1 : t1.length ≤ 20 := by
            simp only [List.mem_cons, List.not_mem_nil, or_false] at m1
            rcases m1 with z | z | z | z | z | z | z | z | z | z <;> rw [z]
            · rw [PySem.Str.length_append, lx13]; decide
            · rw [PySem.Str.length_append, lx13]; decide
            · rw [PySem.Str.length_append, lx14]; decide
            · rw [PySem.Str.length_append, lx14]; decide
            · rw [PySem.Str.length_append, lk1]; decide
            all_goals decide
          refine k_pickS (xs := ["light", "", "Left", "quench 0" ++ sI k, "light x", "can 1", "quench -1", "light 00"]) L13 rfl (ev_lst (ea_cons ev_str (ea_cons ev_str (ea_cons ev_str (ea_cons (ev_op ev_str (ev_var rfl (.str _)) (ro_addS (sl _ _ lk1 (by decide)))) (ea_cons ev_str (ea_cons ev_str (ea_cons ev_str (ea_cons ev_str ea_nil))))))))) (by simp) (by simp) fun od H14 m2 L14 => ?_
          have lod : od.length ≤ 20 := by
            simp only [List.mem_cons, List.not_mem_nil, or_false] at m2
            rcases m2 with z | z | z | z | z | z | z | z <;> rw [z]
            · decide
            · decide
            · decide
            · rw [PySem.Str.length_append, lk1]; decide
            all_goals decide
          refine ⟨Nat.le_of_ble_eq_true rfl, fun tp htp => ⟨_, _, rfl, .inl (.inl upd_same), rfl, _, _, rfl, _, _, rfl, rfl, ?_⟩⟩
          have L15 := L14.same (same_new (o := .tup [.str t1, .str od]) htp)
          dsimp only
          change tSeq _ _ _ _ (L2.upd H14 tp (.tup [.str t1, .str od]))
          generalize L2.upd H14 tp (.tup [.str t1, .str od]) = G15 at *
          clear L12 L13 L14 m1 m2 a15
          have lrep := TK.replace_len t1 " " "  "
          have l2s : ("  " : PySem.Str).length = 2 := by decide
          have l1s : (" " : PySem.Str).length = 1 := by decide
          rw [l2s] at lrep
          have lr2 : (("  " : PySem.Str) ++ Txt.replace t1 " " "  ").length ≤ 100 := by rw [PySem.Str.length_append, l2s]; omega
          have lt2 : (t1 ++ (" " : PySem.Str)).length ≤ 100 := by rw [PySem.Str.length_append, l1s]; omega
          refine k_pickS (xs := [t1, t1, t1, t1, t1, "  " ++ Txt.replace t1 " " "  " ++ " ", t1 ++ " " ++ sI k, od]) L15 rfl (ev_is (ev_op (ev_op (ev_lst (ea_cons (ev_var rfl (.str t1)) ea_nil)) ev_int (ro_rep (k := 5) (Nat.le_of_ble_eq_true rfl) (Nat.le_of_ble_eq_true rfl))) (ev_lst (ea_cons (ev_op (ev_op ev_str (ev_repl (ev_var rfl (.str t1)) (by rw [l2s]; omega)) (ro_addS (by rw [l2s]; omega))) ev_str (ro_addS (by rw [l1s]; omega)))
            (ea_cons (ev_op (ev_op (ev_var rfl (.str t1)) ev_str (ro_addS (by rw [l1s]; omega))) (ev_var rfl (.str _)) (ro_addS (by rw [lk1]; omega))) (ea_cons (ev_var rfl (.str od)) ea_nil)))) (ro_cat (Nat.le_of_ble_eq_true rfl))) rfl) (by simp) (by simp) fun t H16 m3 L16 => ?_
          have lt : t.length ≤ 1000 := by
            simp only [List.mem_cons, List.not_mem_nil, or_false] at m3
            rcases m3 with z | z | z | z | z | z | z | z <;> rw [z]
            · omega
            · omega
            · omega
            · omega
            · omega
            · rw [PySem.Str.length_append, l1s]; omega
            · rw [PySem.Str.length_append, lk1]; omega
            · omega
          clear m3 lr2 lt2 lrep L15
          have args := ea_cons (K := K) (H := H16) (ev_var (σ := [some (.ref a), some (.ref r), some vw, some vh, some vg, some (.ref p), some (.ref pa), some (.ref fu), some (.int (0 + (i : Int))), some (.int wy), some (.str (sI k)), some vl, some vq, some (.str x13), some (.str x14), some v15, some (.str t), some (.str od), y18, y19, y20, y21]) (i := 2) rfl L16.aw) (ea_cons (ev_var (i := 3) rfl L16.ah) (ea_cons (ev_var (i := 4) rfl L16.ag) (ea_cons (ev_var (i := 16) rfl (.str t)) ea_nil)))
          have due := ev_call (E := E0) args (R := R_due) ⟨s.n, s.A, s.b, s.g, t, rfl, ok.1.1, ok.1.2.2, ok.1.2.1, lt, rfl⟩
          clear args
          have kb : decide (("bad" : PySem.Str) = "bad") = true := by decide
          cases ho : dueF s.n (ar s.A) s.b (has s.g) (wordsF t) with
          | bad kk =>
            obtain ⟨kk0, kk1⟩ := bad_range ho
            have lkk := sI_len kk0 kk1
            refine s_unp (K := K) (d1 := .str "bad") (d2 := .int kk) (ev_is due (by rw [ho]; rfl)) fun v w' H17 e17 av aw => ?_
            obtain rfl := at_str av
            obtain rfl := at_int aw
            have L17 := L16.same e17
            clear due L16 e17
            refine lam_run L17 ok.1 rfl rfl (by omega) lt (fun k' hk' H18 L18 => ?_) (fun x hx => by rw [ho] at hx; cases hx) (fun b' hb => by rw [ho] at hb; cases hb)
            rw [ho] at hk'
            cases hk'
            refine s_if (b := false) (et_is (et_not (ev_B (ev_call (ea_cons (ev_var rfl (.str _)) (ea_cons (ev_if (d := .str (("line!" : PySem.Str) ++ sI kk)) (ev_test (ev_op (K := K) (ev_var rfl (.str "bad")) ev_str ro_eqS)) (fun _ => ev_op ev_str (ev_cb (ea_cons (ev_var rfl (.int kk)) ea_nil) (rc_str kk0 (by omega))) (ro_addS (by rw [lkk]; decide))) (fun z => absurd z (by decide))) ea_nil)) ⟨_, rfl, rfl, rfl⟩))) rfl) (fun z => nomatch z) fun _ H19 e19 => ?_
            refine s_if (ev_test (ev_op (K := K) (ev_var rfl (.str "bad")) ev_str ro_eqS)) (fun z => absurd z (by decide)) fun _ H20 e20 => ?_
            exact hN _ _ ⟨vh, fu, lf, s, _, _, _, _, _, _, _, _, _, _, _, _, _, _, rfl, L18.same (e19.trans e20), ok, by omega⟩
          | told x =>
            refine s_unp (K := K) (d1 := .str "told") (d2 := .str x) (ev_is due (by rw [ho]; rfl)) fun v w' H17 e17 av aw => ?_
            obtain rfl := at_str av
            obtain rfl := at_str aw
            have L17 := L16.same e17
            clear due L16 e17
            refine lam_run L17 ok.1 rfl rfl (by omega) lt (fun k' hk' => by rw [ho] at hk'; cases hk') (fun x' hx H18 L18 => ?_) (fun b' hb => by rw [ho] at hb; cases hb)
            rw [ho] at hx
            cases hx
            refine s_if (b := false) (et_is (et_not (ev_B (ev_call (ea_cons (ev_var rfl (.str _)) (ea_cons (ev_if (d := .str x) (ev_test (ev_op (K := K) (ev_var rfl (.str "told")) ev_str ro_eqS)) (fun z => absurd z (by decide)) (fun _ => ev_if (ev_test (ev_op (K := K) (ev_var rfl (.str "told")) ev_str ro_eqS)) (fun _ => ev_var rfl (.str x)) (fun z => absurd z (by decide)))) ea_nil)) ⟨_, rfl, rfl, rfl⟩))) rfl) (fun z => nomatch z) fun _ H19 e19 => ?_
            refine s_if (ev_test (ev_op (K := K) (ev_var rfl (.str "told")) ev_str ro_eqS)) (fun z => absurd z (by decide)) fun _ H20 e20 => ?_
            exact hN _ _ ⟨vh, fu, lf, s, _, _, _, _, _, _, _, _, _, _, _, _, _, _, rfl, L18.same (e19.trans e20), ok, by omega⟩
          | step b' =>
            have Sb' := due_st ho
            refine s_unp (K := K) (d1 := .str "step") (d2 := tI b') (ev_is due (by rw [ho]; rfl)) fun v w' H17 e17 av aw => ?_
            obtain rfl := at_str av
            have L17 := L16.same e17
            clear due L16 e17
            refine lam_run L17 ok.1 rfl rfl (by omega) lt (fun k' hk' => by rw [ho] at hk'; cases hk') (fun x' hx => by rw [ho] at hx; cases hx) (fun b2 hb lf' H18 t18 L18 => ?_)
            rw [ho] at hb
            cases hb
            have aw18 := aw.tups t18 (imm_tI _)
            refine s_if (b := false) (et_is (et_not (ev_B (ev_call (ea_cons (ev_var rfl .non) (ea_cons (ev_if (d := .none) (ev_test (ev_op (K := K) (ev_var rfl (.str "step")) ev_str ro_eqS)) (fun z => absurd z (by decide)) (fun _ => ev_if (ev_test (ev_op (K := K) (ev_var rfl (.str "step")) ev_str ro_eqS)) (fun z => absurd z (by decide)) (fun _ => ev_non))) ea_nil)) ⟨_, rfl, rfl, rfl⟩))) rfl) (fun z => nomatch z) fun _ H19 e19 => ?_
            refine s_if (ev_test (ev_op (K := K) (ev_var rfl (.str "step")) ev_str ro_eqS)) (fun _ H20 e20 => ?_) fun z => absurd z (by decide)
            have L20 := L18.same (e19.trans e20)
            have aw20 := aw18.mono (e19.trans e20)
            clear L17 L18 aw18 e19 e20
            obtain ⟨acc, hw, aacc⟩ := at_lst L20.aP
            refine s_app (K := K) rfl hw (by rw [aacc.len, List.length_map]; omega) (d := stD (s.b, t)) (ev_tup (ea_cons (ev_var rfl L20.ah) (ea_cons (ev_var rfl (.str t)) ea_nil))) fun v H21 e21 av => ?_
            have L22 := (L20.same e21).updP (l := s.past ++ [(s.b, t)]) (xs := acc ++ [v]) (by rw [List.map_append]; exact (aacc.mono e21).app (.cons av .nil))
            refine ⟨_, rfl, Nat.zero_le _, fun l hl => ⟨_, _, rfl, ?_⟩⟩
            have aw23 := ((aw20.mono e21).tups (Tups.lst (e21 _ _ hw)) (imm_tI _)).mono (same_new (o := .lst []) hl)
            have L23 := (L22.newF hl).here aw23
            refine hN _ _ ⟨w', l, lf', ⟨s.n, s.A, s.g, b', s.past ++ [(s.b, t)], []⟩, _, _, _, _, _, _, _, _, _, _, _, _, _, _, rfl, L23, ⟨⟨ok.1.1, ok.1.2.1, Sb'⟩, fun q hq => ?_, by simp⟩, ?_⟩
            · rcases List.mem_append.mp hq with z | z
              · exact ok.2.1 q z
              · rw [List.mem_singleton.mp z]
                exact ok.1.2.2
            · simp
              omega
    · clear L5 ok len
      rintro σ' H6 ⟨vh, fu, lf, s, y8, y9, y10, y11, y12, y13, y14, y15, y16, y17, y18, y19, y20, y21, rfl, L, ok, len⟩
      have lb := ok.1.2.2.len
      have wn := ok.1.1.n5
      refine s_if (b := false) (et_is (et_or (et_not (ev_B (ev_call (ea_cons (ev_burning rfl L.D) (ea_cons (ev_var rfl L.ah) ea_nil)) ⟨_, rfl, fun d hd => ?_, ?_, rfl⟩))) fun _ => et_not (ev_B (ev_call (ea_cons (ev_steps rfl L.D (by omega)) (ea_cons (ev_cb (ea_cons (ev_is (ev_lc s.past stD (fun _ => true) (fun q => .str q.2) (ei_list (ev_var rfl L.aP)) (by omega) (fun _ _ _ => rfl) fun x hx v H1 e1 av => item1 rfl et_yes fun _ => ev_op (ev_var rfl av) ev_int ro_ix1) (d' := .list (s.past.map fun q => .str q.2)) (by rw [filter_yes])) ea_nil) rc_tup) ea_nil)) ⟨_, rfl, fun d hd => ?_, ?_, rfl⟩))) rfl) (fun z => nomatch z) fun _ H7 e7 => ?_
      · obtain ⟨z, _, rfl⟩ := List.mem_map.mp hd
        rfl
      · rw [List.length_map]; omega
      · obtain ⟨z, _, rfl⟩ := List.mem_map.mp hd
        rfl
      · rw [List.length_map]; omega
      · exact ⟨vh, fu, lf, s, _, _, _, _, _, _, _, _, _, _, _, _, _, _, rfl, L.same e7, ok, by omega⟩
  · rintro σ' H1 ⟨vh, fu, lf, s, y8, y9, y10, y11, y12, y13, y14, y15, y16, y17, y18, y19, y20, y21, rfl, L, ok, len⟩
    have tt : decide (("text!" : PySem.Str) = "text!") = true := by decide
    refine lam_none L ok.1 rfl (by omega) fun H2 L2 => ?_
    refine ev_str (K := K) _ (Same.refl _) _ fun y H3 e3 ay => ?_
    refine ro_eqS (K := K) _ _ _ (.str _) ay _ fun v H4 e4 av => ?_
    rw [tt] at av
    obtain rfl := at_bl av
    refine ⟨true, rfl, ?_⟩
    refine lam_list (L2.same (e3.trans e4)) ok.1 rfl (by omega) fun H5 L5 => ?_
    refine ev_str (K := K) _ (Same.refl _) _ fun y H6 e6 ay => ?_
    refine ro_eqS (K := K) _ _ _ (.str _) ay _ fun v H7 e7 av => ?_
    rw [tt] at av
    obtain rfl := at_bl av
    exact q H7
end
end Hd
set_option Elab.async false
set_option linter.all false
set_option maxRecDepth 100000
set_option maxHeartbeats 4000000
/-! Handons: the head's Hook: two roots, three functions more. -/
namespace Hd
open PySem PySem.Spec PyProof.Rows L2
def asY (g : Addr → Option Obj) : Nat → List Addr
  | 0 => [mainGlobals, cStatics]
  | n + 1 => He.growD g (asY g n)
abbrev FnY : Type := Option (PySem.Str × PySem.Str × Arguments × FuncBody × Scope × Addr × List PySem.Str × Addr)
def fnY (K : PySem.W.Frag) (a : Addr) : FnY := match K.lookup a with
  | some ⟨_, _, .func fd, _⟩ => some (fd.name, fd.qualname, fd.params, fd.body, fd.scope, fd.globals, fd.closure.map (·.1), fd.builtins)
  | _ => none
abbrev AlY : Type := He.AlX × List FnY
section
variable (n : Nat) (fa : List He.Fa) (fn : List He.DefD) (tf : List He.Defn) (ex : PySem.W.Frag → Bool) (ys : List (PySem.W.Frag → Addr)) (vs : List FnY)
def obsY (g : Addr → Option Obj) : AlY := ((He.obsT fa fn [] (He.frT g (asY g n)), ex (He.frT g (asY g n)) && He.tabsB g tf (He.frT g (asY g n))), ys.map fun a => fnY (He.frT g (asY g n)) (a (He.frT g (asY g n))))
def SaysY (w : World) (h : Heap) (K : PySem.W.Frag) : Prop := He.SaysX fa fn [] tf ex w h K ∧ ys.map (fun a => fnY K (a K)) = vs
theorem saysY_of {n : Nat} {fa : List He.Fa} {fn : List He.DefD} {tf : List He.Defn} {ex : PySem.W.Frag → Bool} {ys : List (PySem.W.Frag → Addr)} {vs : List FnY} {w : World} {h : Heap} (e : obsY n fa fn tf ex ys h.get? = (He.valX fn [] w, vs)) : SaysY fa fn tf ex ys vs w h (He.frT h.get? (asY h.get? n)) := by
  have e1 : He.obsT fa fn [] (He.frT h.get? (asY h.get? n)) = He.valT fn [] w := congrArg (fun z : AlY => z.1.1) e
  have e2 : (ex (He.frT h.get? (asY h.get? n)) && He.tabsB h.get? tf (He.frT h.get? (asY h.get? n))) = true := congrArg (fun z : AlY => z.1.2) e
  have e3 : ys.map (fun a => fnY (He.frT h.get? (asY h.get? n)) (a (He.frT h.get? (asY h.get? n)))) = vs := congrArg (fun z : AlY => z.2) e
  obtain ⟨h1, h2⟩ := He.ba e2
  have key : ∀ p ∈ tf, PySem.W.codeHdIn (He.frT h.get? (asY h.get? n)) (He.cT (He.frT h.get? (asY h.get? n)) p).1 (He.cT (He.frT h.get? (asY h.get? n)) p).2 = true ∧ ∃ o, h.get? (He.cT (He.frT h.get? (asY h.get? n)) p).2 = some o ∧ He.emptyTab o = true := fun p hp => by
    obtain ⟨h3, h4⟩ := He.ba (List.all_eq_true.mp h2 p hp)
    refine ⟨h3, ?_⟩
    cases q : h.get? (He.cT (He.frT h.get? (asY h.get? n)) p).2 with
    | none =>
      rw [q] at h4
      cases h4
    | some o =>
      rw [q] at h4
      exact ⟨o, rfl, h4⟩
  exact ⟨⟨e1, h1, fun p hp => (key p hp).1, fun p hp => by
    obtain ⟨_, o, q, z⟩ := key p hp
    exact He.frT_none q z, fun p hp => by
    obtain ⟨_, o, q, z⟩ := key p hp
    rw [q, He.emptyTab_eq z]⟩, e3⟩
def hookY : PySem.W.Hook where
  α := AlY
  obs := fun s => obsY n fa fn tf ex ys s.heap.get?
  val := fun w => (He.valX fn [] w, vs)
  says := fun w h => ∃ K : PySem.W.Frag, K.In h ∧ SaysY fa fn tf ex ys vs w h K
  of := fun _ _ e => ⟨_, He.frT_in, saysY_of e⟩
  keeps := fun _ _ _ ⟨K, hK, c, y⟩ k => ⟨K, PySem.W.Frag.In.keeps hK k, ⟨⟨c.t, c.more, c.hd, c.out, fun p hp => k _ _ (c.empty p hp)⟩, y⟩⟩
theorem obsY_eq {n : Nat} {fa : List He.Fa} {fn : List He.DefD} {tf : List He.Defn} {ex : PySem.W.Frag → Bool} {ys : List (PySem.W.Frag → Addr)} {vs : List FnY} {g : Addr → Option Obj} {s : Shared} (h : ∀ a, g a = s.heap.get? a) : obsY n fa fn tf ex ys g = (hookY n fa fn tf ex ys vs).obs s := by
  have e : g = s.heap.get? := funext h
  rw [e] <;> rfl
end
/-! ### a function at an address -/
def funB (K : PySem.W.Frag) (a : Addr) (q : PySem.Str) : Bool := PySem.W.keepIn K (.ref a) && (match K.lookup a with
  | some ⟨_, _, .func fd, _⟩ => PySem.W.codeIn K fd.code q && (He.dflB K fd.defaults [] && (He.kwdB K fd.kwdefaults [] && fd.closure.isEmpty))
  | _ => false)
theorem funB_ok {K : PySem.W.Frag} {a : Addr} {x q : PySem.Str} {params : Arguments} {body : List Stmt} {scope : Scope} (e : fnY K a = some (x, q, params, .stmts body, scope, mainGlobals, [], builtinsNs)) (c : funB K a q = true) : ∃ fd, FunD K x q params body scope [] [] a fd := by
  obtain ⟨kp, c2⟩ := He.ba c
  unfold fnY at e
  cases z : K.lookup a with
  | none =>
    rw [z] at c2
    cases c2
  | some o =>
    obtain ⟨oc, od, dt, osl⟩ := o
    rw [z] at c2 e
    cases dt with
    | func fd =>
      obtain ⟨n1, n2, n3, n4, n5, n6, n7, n8, n9, n10, n11, n12, n13, n14, n15⟩ := fd
      have e2 : (some (n1, n2, n3, n4, n5, n6, n7.map (·.1), n15) : FnY) = some (x, q, params, .stmts body, scope, mainGlobals, [], builtinsNs) := e
      simp only [Option.some.injEq, Prod.mk.injEq] at e2
      obtain ⟨h1, h2, h3, h4, h5, h6, h7, h8⟩ := e2
      have h7 := List.map_eq_nil_iff.mp h7
      subst h1 h2 h3 h4 h5 h6 h7 h8
      have c3 : (PySem.W.codeIn K n13 n2 && (He.dflB K n8 [] && (He.kwdB K n9 [] && true))) = true := c2
      obtain ⟨k1, k2⟩ := He.ba c3
      obtain ⟨k3, k4⟩ := He.ba k2
      obtain ⟨k5, _⟩ := He.ba k4
      exact ⟨_, ⟨oc, od, n8, n9, n10, n11, n12, n13, n14, osl, rfl, z, k1, He.dflB_ok k3, He.kwdB_ok k5⟩, kp⟩
    | _ => cases c2
end Hd
set_option Elab.async false
set_option linter.all false
set_option maxRecDepth 100000
set_option maxHeartbeats 4000000
/-! Handons: facts of the written part, as Bools. -/
namespace Hd
open PySem PySem.Spec PyProof.Rows L2
/-! ### properties -/
def gAd (K : PySem.W.Frag) (p : Addr) : Addr := match PySem.W.recIn K p "property" with
  | some (.ref g :: _) => g
  | _ => 0
def propB (K : PySem.W.Frag) (C : Addr) (f : PySem.Str) : Bool := He.eqO (PySem.W.findIn K (.ref C) f) (some (some (.ref (He.ma K C f)))) && (He.eqO (PySem.W.specialIn K (.ref (He.ma K C f)) "__get__") (some (some (.builtin "property.__get__"))) && (decide (PySem.W.takesIn K (.ref (He.ma K C f)) = some true) &&
  (match PySem.W.recIn K (He.ma K C f) "property" with
  | some (.ref _ :: _) => true
  | _ => false)))
theorem propB_ok {K : PySem.W.Frag} {C : Addr} {f : PySem.Str} (h : propB K C f = true) : PropOf K C f (He.ma K C f) (gAd K (He.ma K C f)) := by
  obtain ⟨h1, h⟩ := He.ba h
  obtain ⟨h2, h⟩ := He.ba h
  obtain ⟨h3, h4⟩ := He.ba h
  refine ⟨He.eqO_ok h1, He.eqO_ok h2, of_decide_eq_true h3, ?_⟩
  unfold gAd
  split at h4
  · rename_i g rest e
    rw [e]
    exact ⟨rest, rfl⟩
  · cases h4
/-! ### exceptions -/
def excB (K : PySem.W.Frag) (D : Addr) : Bool := He.eqO (PySem.W.findIn K (.ref D) "__getattribute__") (some (some (.builtin "BaseException.__getattribute__"))) && (He.eqO (PySem.W.findIn K (.ref D) "__getattr__") (some none) && (decide (PySem.W.subIn K (.ref D) (.type "BaseException") = some true) && (PySem.W.hasDictIn K D &&
  (He.eqO (PySem.W.findIn K (.ref D) "__class__") (some (some (.builtin "object.__class__"))) && (He.eqO (PySem.W.specialIn K (.builtin "object.__class__") "__get__") (some (some (.builtin "getset_descriptor.__get__"))) && (decide (PySem.W.takesIn K (.builtin "object.__class__") = some true) && decide (PySem.W.mroIn K D (.type "object") = some true)))))))
theorem excB_ok {K : PySem.W.Frag} {D : Addr} (h : excB K D = true) : ExcC K D := by
  obtain ⟨h1, h⟩ := He.ba h
  obtain ⟨h2, h⟩ := He.ba h
  obtain ⟨h3, h⟩ := He.ba h
  obtain ⟨h4, h⟩ := He.ba h
  obtain ⟨h5, h⟩ := He.ba h
  obtain ⟨h6, h⟩ := He.ba h
  obtain ⟨h7, h8⟩ := He.ba h
  exact ⟨He.eqO_ok h1, He.eqO_ok h2, of_decide_eq_true h3, h4, He.eqO_ok h5, He.eqO_ok h6, of_decide_eq_true h7, of_decide_eq_true h8⟩
/-! ### InvalidLine -/
def fileB (K : PySem.W.Frag) (f : PySem.Str) (cda : Addr) : Bool := match K.lookup cda with
  | some ⟨_, _, .fields vs, _⟩ => (match (vs[2]? : Option Value) with
    | some (Value.str x _) => f == x
    | _ => false)
  | _ => false
def cellB (K : PySem.W.Frag) (cc C : Addr) : Bool := match K.lookup cc with
  | some ⟨_, _, .cell (some (.ref D)), _⟩ => D == C
  | _ => false
def initB (K : PySem.W.Frag) (f : PySem.Str) (C a : Addr) : Bool := match K.lookup a with
  | some ⟨_, _, .func fd, _⟩ => (match fd.closure, fd.code, fd.defaults, fd.kwdefaults with
    | [(_, cc)], .ref cda, .none, .none => PySem.W.codeIn K (.ref cda) "InvalidLine.__init__" && (fileB K f cda && cellB K cc C)
    | _, _, _, _ => false)
  | _ => false
def clsB (K : PySem.W.Frag) (C : Addr) : Bool := match K.lookup C with
  | some ⟨.type "type", _, .cls cd, sl⟩ => (match cd.mro, sl.toList with
    | .ref C' :: bm, [_, _, _, _, some (.builtin n), _] => C' == C && (n == "ValueError.__new__" && (!cd.hasDel && (cd.hasDict && PySem.HandSPX.refsVE bm)))
    | _, _ => false)
  | _ => false
theorem clsB_ok {K : PySem.W.Frag} {C : Addr} (q : clsB K C = true) : ∃ nm q N bs bm sn sub ab col dd k0 k1 k2 k3 k5, K.lookup C = some (excClassObj nm q C N bs bm true sn sub ab col dd k0 k1 k2 k3 k5 "ValueError.__new__") ∧ PySem.HandSPX.refsVE bm = true := by
  unfold clsB at q
  split at q
  · rename_i dd cd sl ho
    split at q
    · rename_i C' bm k0 k1 k2 k3 n k5 hm hs
      simp only [Bool.and_eq_true, beq_iff_eq, Bool.not_eq_true'] at q
      obtain ⟨rfl, rfl, hdel, hdct, hve⟩ := q
      obtain ⟨nm, bs, mro, ns, qn, hd, sn, sub, ab, col, del⟩ := cd
      dsimp only at hm hdel hdct
      subst hm hdel hdct
      have hsl : sl = #[k0, k1, k2, k3, some (.builtin "ValueError.__new__"), k5] := by
        obtain ⟨l⟩ := sl
        simp only at hs
        rw [hs]
      subst hsl
      exact ⟨nm, qn, ns, bs, bm, sn, sub, ab, col, dd, k0, k1, k2, k3, k5, ho, hve⟩
    · cases q
  · cases q
theorem initB_ok {K : PySem.W.Frag} {f : PySem.Str} {C a : Addr} {x q : PySem.Str} {params : Arguments} {body : List Stmt} {scope : Scope} (e : fnY K a = (some (x, q, params, .stmts body, scope, mainGlobals, ["__class__"], builtinsNs) : FnY)) (c : initB K f C a = true) :
    ∃ (oc : Value) (od : Option Addr) (doc pm : Value) (an : Option Addr) (cda cc : Addr) (ct : Value) (osl : Array (Option Value)) (ccl cl : Value) (cdd cld : Option Addr) (vs : Array Value) (ccs csl : Array (Option Value)) (file : PySem.Str) (tf : Tok),
    K.lookup a = some ⟨oc, od, .func (PySem.W.fnX x q params body scope [("__class__", cc)] .none .none doc pm an (.ref cda) ct), osl⟩ ∧ PySem.W.codeIn K (.ref cda) "InvalidLine.__init__" = true ∧
    K.lookup cda = some ⟨ccl, cdd, .fields vs, ccs⟩ ∧ vs[2]? = some (.str file tf) ∧ (f == file) = true ∧ K.lookup cc = some ⟨cl, cld, .cell (some (.ref C)), csl⟩ := by
  unfold fnY at e
  unfold initB at c
  cases z : K.lookup a with
  | none =>
    rw [z] at c
    cases c
  | some o =>
    obtain ⟨oc, od, dt, osl⟩ := o
    rw [z] at c e
    cases dt with
    | func fd =>
      obtain ⟨n1, n2, n3, n4, n5, n6, n7, n8, n9, n10, n11, n12, n13, n14, n15⟩ := fd
      have e2 : (some (n1, n2, n3, n4, n5, n6, n7.map (·.1), n15) : FnY) = (some (x, q, params, .stmts body, scope, mainGlobals, ["__class__"], builtinsNs) : FnY) := e
      simp only [Option.some.injEq, Prod.mk.injEq] at e2
      obtain ⟨h1, h2, h3, h4, h5, h6, h7, h8⟩ := e2
      subst h1 h2 h3 h4 h5 h6 h8
      dsimp only at c
      split at c
      · rename_i nm cc cda
        have h7 : nm = "__class__" := by simpa using h7
        subst h7
        obtain ⟨k1, c⟩ := He.ba c
        obtain ⟨k2, k3⟩ := He.ba c
        unfold fileB at k2
        unfold cellB at k3
        split at k2
        · rename_i ccl cdd vs ccs hcd
          split at k2
          · rename_i file tf hf
            split at k3
            · rename_i cl cld D csl hcc
              obtain rfl : D = C := beq_iff_eq.mp k3
              exact ⟨oc, od, _, _, _, cda, cc, _, osl, ccl, cl, cdd, cld, vs, ccs, csl, file, tf, rfl, k1, hcd, hf, k2, hcc⟩
            · cases k3
          · cases k2
        · cases k2
      · cases c
    | _ => cases c
end Hd
set_option Elab.async false
set_option linter.all false
set_option maxRecDepth 100000
set_option maxHeartbeats 4000000
/-! Handons: the facts of the written part, put together. Printed by mk32.py. -/
namespace Hd
open PySem PySem.Spec PyProof.Rows L2
def dT (x : PySem.Str) (i : Nat) : He.DefD := ⟨(x, none), x, x, defArgs (top i), defBody (top i), defScope (top i), [], []⟩
def dM (x q : PySem.Str) (i : Nat) : He.DefD := ⟨("Desk", some x), x, q, defArgs (sD i), defBody (sD i), defScope (sD i), [], []⟩
def fnL : List He.DefD := [dT "_law_light" 49, dT "_law_quench" 50, dT "_law_changed" 53, dT "_law_spare" 51, dT "_law_alike" 47, dT "_law_taken" 43, dT "is_in" 9, dT "ahead_in" 17, dT "behind_in" 18, dT "light_in" 20, dT "quench_in" 21, dT "changed" 22, dT "listed" 40, dT "sides" 25, dT "is_before" 33, dT "next_in" 35, dT "_law_fewest" 52, dT "_law_after" 54, dT "_law_pick" 44, dT "is_arrow" 12, dT "need_burning" 14, dT "doable" 23, dT "needs_of" 26, dT "_law_burning" 46, dT "need_web" 13, dT "spare_in" 27, dT "_law_desk_due" 55, dT "_law_web" 45, dT "need_both" 15, dT "lit_in" 28, dT "out_in" 29, dT "fewest_in" 30, dT "need_two" 16, dT "deeds_in" 32, dT "pairs_in" 34, dT "way_in" 36, dT "_law_desk_raises" 48, dT "law" 56, dM "__init__" "Desk.__init__" 0, dM "undo" "Desk.undo" 3, dM "redo" "Desk.redo" 4, dM "after" "Desk.after" 5, dM "told" "Desk.told" 6, dM "run" "Desk.run" 7]
def faL : List He.Fa := [.glo "_law_light", .glo "_law_quench", .glo "_law_changed", .glo "_law_spare", .glo "_law_alike", .glo "_law_taken", .glo "is_in", .glo "ahead_in", .glo "behind_in", .glo "light_in", .glo "quench_in", .glo "changed", .glo "listed", .glo "sides", .glo "is_before", .glo "next_in", .glo "_law_fewest", .glo "_law_after", .glo "_law_pick", .glo "is_arrow", .glo "need_burning", .glo "doable", .glo "needs_of", .glo "_law_burning", .glo "need_web", .glo "spare_in", .glo "_law_desk_due", .glo "_law_web", .glo "need_both", .glo "lit_in", .glo "out_in", .glo "fewest_in", .glo "need_two", .glo "deeds_in", .glo "pairs_in", .glo "way_in", .glo "_law_desk_raises", .glo "law", .glo "Desk", .glo "HandError", .glo "DEEDS", .glo "QUESTIONS", .glo "NothingToUndo", .glo "NothingToRedo", .glo "NotText", .glo "InvalidLine", .free "len", .free "range", .free "tuple", .free "list", .free "sorted", .free "set", .free "min", .free "str", .free "int", .free "bool", .free "dict", .free "isinstance", .free "enumerate", .free "super", .int "MOST_LAMPS" 9, .cls "Desk", .mkr "Desk", .noat "Desk" "web", .noat "Desk" "goal", .noat "Desk" "now", .noat "Desk" "past", .noat "Desk" "future", .meth "Desk" "undo", .meth "Desk" "redo", .meth "Desk" "after", .meth "Desk" "told", .meth "Desk" "run", .exc "NothingToUndo", .exc "NothingToRedo", .exc "NotText", .exm "NothingToUndo" "HandError" true, .exm "NothingToRedo" "HandError" true, .exm "NotText" "HandError" true, .exm "InvalidLine" "HandError" true]
def aB (K : PySem.W.Frag) : Addr := gAd K (He.ma K (He.ga K "Desk") "burning")
def aS (K : PySem.W.Frag) : Addr := gAd K (He.ma K (He.ga K "Desk") "steps")
def aI (K : PySem.W.Frag) : Addr := He.ma K (He.ga K "InvalidLine") "__init__"
def exL (K : PySem.W.Frag) : List Bool := [propB K (He.ga K "Desk") "burning",
  propB K (He.ga K "Desk") "steps",
  funB K (aB K) "Desk.burning",
  funB K (aS K) "Desk.steps",
  He.tupB K "DEEDS" [.str "light", .str "quench"],
  He.tupB K "QUESTIONS" [.str "burning", .str "can", .str "left", .str "next", .str "spare"],
  excB K (He.ga K "NothingToUndo"),
  excB K (He.ga K "NothingToRedo"),
  excB K (He.ga K "NotText"),
  excB K (He.ga K "InvalidLine"),
  xfB K (He.ga K "InvalidLine"),
  He.eqO (PySem.W.findIn K (.ref (He.ga K "InvalidLine")) "word") (some none),
  clsB K (He.ga K "InvalidLine"),
  He.eqO (PySem.W.findIn K (.ref (He.ga K "InvalidLine")) "__setattr__") (some (some (.builtin "object.__setattr__"))),
  He.eqO (PySem.W.findIn K (.ref (He.ga K "InvalidLine")) "__init__") (some (some (.ref (aI K)))),
  decide (PySem.W.typeIn K (.ref (aI K)) = some (.type "function")),
  PySem.W.keepIn K (.ref (He.ga K "InvalidLine")),
  decide (PySem.W.subIn K (.ref (He.ga K "InvalidLine")) (.type "BaseException") = some true),
  decide (PySem.W.subIn K (.ref (He.ga K "InvalidLine")) (.type "ValueError") = some true),
  decide (PySem.W.typeIn K (.ref (He.ga K "InvalidLine")) = some (.type "type")),
  decide (PySem.W.mroIn K (He.ga K "InvalidLine") (.ref (He.ga K "InvalidLine")) = some true),
  He.eqO (PySem.W.ks_superIn K (He.ga K "InvalidLine") (He.ga K "InvalidLine") "__init__") (some (some (.builtin "ValueError.__init__"))),
  He.eqO (PySem.W.nsIn K cStatics "thirdparty.any") (some none),
  initB K (PySem.Challenge.pw_handons_k63_whole_desks.main.file : PySem.Str) (He.ga K "InvalidLine") (aI K),
  decide (PySem.W.kitOne K (.ref (He.ga K "NothingToUndo")) (.ref (He.ga K "NothingToUndo")) = some true),
  decide (PySem.W.kitOne K (.ref (He.ga K "NothingToUndo")) (.ref (He.ga K "NothingToRedo")) = some false),
  decide (PySem.W.kitOne K (.ref (He.ga K "NothingToUndo")) (.ref (He.ga K "NotText")) = some false),
  decide (PySem.W.kitOne K (.ref (He.ga K "NothingToUndo")) (.ref (He.ga K "InvalidLine")) = some false),
  decide (PySem.W.kitOne K (.ref (He.ga K "NothingToRedo")) (.ref (He.ga K "NothingToUndo")) = some false),
  decide (PySem.W.kitOne K (.ref (He.ga K "NothingToRedo")) (.ref (He.ga K "NothingToRedo")) = some true),
  decide (PySem.W.kitOne K (.ref (He.ga K "NothingToRedo")) (.ref (He.ga K "NotText")) = some false),
  decide (PySem.W.kitOne K (.ref (He.ga K "NothingToRedo")) (.ref (He.ga K "InvalidLine")) = some false),
  decide (PySem.W.kitOne K (.ref (He.ga K "NotText")) (.ref (He.ga K "NothingToUndo")) = some false),
  decide (PySem.W.kitOne K (.ref (He.ga K "NotText")) (.ref (He.ga K "NothingToRedo")) = some false),
  decide (PySem.W.kitOne K (.ref (He.ga K "NotText")) (.ref (He.ga K "NotText")) = some true),
  decide (PySem.W.kitOne K (.ref (He.ga K "NotText")) (.ref (He.ga K "InvalidLine")) = some false),
  decide (PySem.W.kitOne K (.ref (He.ga K "InvalidLine")) (.ref (He.ga K "NothingToUndo")) = some false),
  decide (PySem.W.kitOne K (.ref (He.ga K "InvalidLine")) (.ref (He.ga K "NothingToRedo")) = some false),
  decide (PySem.W.kitOne K (.ref (He.ga K "InvalidLine")) (.ref (He.ga K "NotText")) = some false),
  decide (PySem.W.kitOne K (.ref (He.ga K "InvalidLine")) (.ref (He.ga K "InvalidLine")) = some true)]
def exF (K : PySem.W.Frag) : Bool := (exL K).all id
theorem exF_at {K : PySem.W.Frag} (h : exF K = true) (i : Nat) {b : Bool} (e : (exL K)[i]? = some b) : b = true := List.all_eq_true.mp h b (List.mem_of_getElem? e)
def ysL : List (PySem.W.Frag → Addr) := [aB, aS, aI]
def vsL : List FnY := [some ("burning", "Desk.burning", defArgs (sD 1), .stmts (defBody (sD 1)), defScope (sD 1), mainGlobals, [], builtinsNs), some ("steps", "Desk.steps", defArgs (sD 2), .stmts (defBody (sD 2)), defScope (sD 2), mainGlobals, [], builtinsNs), some ("__init__", "InvalidLine.__init__", defArgs Hdx.sInv, .stmts (defBody Hdx.sInv), defScope Hdx.sInv, mainGlobals, ["__class__"], builtinsNs)]
def tfL : List He.Defn := [("law", none)]
def es (K : PySem.W.Frag) : Ers := ⟨He.ga K "NothingToUndo", He.ga K "NothingToRedo", He.ga K "NotText", He.ga K "InvalidLine"⟩
theorem tup_at {K : PySem.W.Frag} {x : PySem.Str} {ws : List PySem.Str} (h : ∀ H, SqT K H (He.ga K x) (ws.map V.str)) (H : Hp) : At K H (.ref (He.ga K x)) (.tuple (ws.map PyData.str)) := .tup (h H) (ats_strs ws)
section
variable {P : Program} {w : World} {K : PySem.W.Frag} {h : Heap} {mg : PySem.Str → Option Value}
theorem facts (hP : P.main.file = PySem.Challenge.pw_handons_k63_whole_desks.main.file) (hS : (P.main.scope.names.lookup ("super" : PySem.Str)).isSome = false) (X : K.In h) (G : h.Ns mainGlobals mg) (c : SaysY faL fnL tfL exF ysL vsL w h K) :
    ∃ dI dB dS, ∀ base, LawZ P w K mg base (es K) (He.ga K "HandError") (He.ga K "Desk") (He.ma K (He.ga K "Desk") "__init__") (aB K) (aS K) (He.ma K (He.ga K "Desk") "burning") (He.ma K (He.ga K "Desk") "steps") dI dB dS := by
  obtain ⟨cx, cy⟩ := c
  have cd : He.SaysD faL fnL K := congrArg Prod.fst cx.t
  have cm := cx.more
  have y0 : fnY K (aB K) = _ := (List.cons.inj cy).1
  have y1 : fnY K (aS K) = _ := (List.cons.inj (List.cons.inj cy).2).1
  have y2 : fnY K (aI K) = _ := (List.cons.inj (List.cons.inj (List.cons.inj cy).2).2).1
  clear cy
  have gl__law_light := He.glo_ok X G (cd.fact 0 (f := .glo "_law_light") rfl)
  have gl__law_quench := He.glo_ok X G (cd.fact 1 (f := .glo "_law_quench") rfl)
  have gl__law_changed := He.glo_ok X G (cd.fact 2 (f := .glo "_law_changed") rfl)
  have gl__law_spare := He.glo_ok X G (cd.fact 3 (f := .glo "_law_spare") rfl)
  have gl__law_alike := He.glo_ok X G (cd.fact 4 (f := .glo "_law_alike") rfl)
  have gl__law_taken := He.glo_ok X G (cd.fact 5 (f := .glo "_law_taken") rfl)
  have gl_is_in := He.glo_ok X G (cd.fact 6 (f := .glo "is_in") rfl)
  have gl_ahead_in := He.glo_ok X G (cd.fact 7 (f := .glo "ahead_in") rfl)
  have gl_behind_in := He.glo_ok X G (cd.fact 8 (f := .glo "behind_in") rfl)
  have gl_light_in := He.glo_ok X G (cd.fact 9 (f := .glo "light_in") rfl)
  have gl_quench_in := He.glo_ok X G (cd.fact 10 (f := .glo "quench_in") rfl)
  have gl_changed := He.glo_ok X G (cd.fact 11 (f := .glo "changed") rfl)
  have gl_listed := He.glo_ok X G (cd.fact 12 (f := .glo "listed") rfl)
  have gl_sides := He.glo_ok X G (cd.fact 13 (f := .glo "sides") rfl)
  have gl_is_before := He.glo_ok X G (cd.fact 14 (f := .glo "is_before") rfl)
  have gl_next_in := He.glo_ok X G (cd.fact 15 (f := .glo "next_in") rfl)
  have gl__law_fewest := He.glo_ok X G (cd.fact 16 (f := .glo "_law_fewest") rfl)
  have gl__law_after := He.glo_ok X G (cd.fact 17 (f := .glo "_law_after") rfl)
  have gl__law_pick := He.glo_ok X G (cd.fact 18 (f := .glo "_law_pick") rfl)
  have gl_is_arrow := He.glo_ok X G (cd.fact 19 (f := .glo "is_arrow") rfl)
  have gl_need_burning := He.glo_ok X G (cd.fact 20 (f := .glo "need_burning") rfl)
  have gl_doable := He.glo_ok X G (cd.fact 21 (f := .glo "doable") rfl)
  have gl_needs_of := He.glo_ok X G (cd.fact 22 (f := .glo "needs_of") rfl)
  have gl__law_burning := He.glo_ok X G (cd.fact 23 (f := .glo "_law_burning") rfl)
  have gl_need_web := He.glo_ok X G (cd.fact 24 (f := .glo "need_web") rfl)
  have gl_spare_in := He.glo_ok X G (cd.fact 25 (f := .glo "spare_in") rfl)
  have gl__law_desk_due := He.glo_ok X G (cd.fact 26 (f := .glo "_law_desk_due") rfl)
  have gl__law_web := He.glo_ok X G (cd.fact 27 (f := .glo "_law_web") rfl)
  have gl_need_both := He.glo_ok X G (cd.fact 28 (f := .glo "need_both") rfl)
  have gl_lit_in := He.glo_ok X G (cd.fact 29 (f := .glo "lit_in") rfl)
  have gl_out_in := He.glo_ok X G (cd.fact 30 (f := .glo "out_in") rfl)
  have gl_fewest_in := He.glo_ok X G (cd.fact 31 (f := .glo "fewest_in") rfl)
  have gl_need_two := He.glo_ok X G (cd.fact 32 (f := .glo "need_two") rfl)
  have gl_deeds_in := He.glo_ok X G (cd.fact 33 (f := .glo "deeds_in") rfl)
  have gl_pairs_in := He.glo_ok X G (cd.fact 34 (f := .glo "pairs_in") rfl)
  have gl_way_in := He.glo_ok X G (cd.fact 35 (f := .glo "way_in") rfl)
  have gl__law_desk_raises := He.glo_ok X G (cd.fact 36 (f := .glo "_law_desk_raises") rfl)
  have gl_law := He.glo_ok X G (cd.fact 37 (f := .glo "law") rfl)
  have gl_Desk := He.glo_ok X G (cd.fact 38 (f := .glo "Desk") rfl)
  have gl_HandError := He.glo_ok X G (cd.fact 39 (f := .glo "HandError") rfl)
  have gl_DEEDS := He.glo_ok X G (cd.fact 40 (f := .glo "DEEDS") rfl)
  have gl_QUESTIONS := He.glo_ok X G (cd.fact 41 (f := .glo "QUESTIONS") rfl)
  have gl_NothingToUndo := He.glo_ok X G (cd.fact 42 (f := .glo "NothingToUndo") rfl)
  have gl_NothingToRedo := He.glo_ok X G (cd.fact 43 (f := .glo "NothingToRedo") rfl)
  have gl_NotText := He.glo_ok X G (cd.fact 44 (f := .glo "NotText") rfl)
  have gl_InvalidLine := He.glo_ok X G (cd.fact 45 (f := .glo "InvalidLine") rfl)
  have T : Fre mg := ⟨He.free_ok X G (cd.fact 46 (f := .free "len") rfl), He.free_ok X G (cd.fact 47 (f := .free "range") rfl), He.free_ok X G (cd.fact 48 (f := .free "tuple") rfl), He.free_ok X G (cd.fact 49 (f := .free "list") rfl), He.free_ok X G (cd.fact 50 (f := .free "sorted") rfl), He.free_ok X G (cd.fact 51 (f := .free "set") rfl), He.free_ok X G (cd.fact 52 (f := .free "min") rfl), He.free_ok X G (cd.fact 53 (f := .free "str") rfl), He.free_ok X G (cd.fact 54 (f := .free "int") rfl), He.free_ok X G (cd.fact 55 (f := .free "bool") rfl), He.free_ok X G (cd.fact 56 (f := .free "dict") rfl), He.free_ok X G (cd.fact 57 (f := .free "isinstance") rfl), He.free_ok X G (cd.fact 58 (f := .free "enumerate") rfl)⟩
  obtain ⟨tm, g_MOST⟩ := He.int_ok X G (cd.fact 60 (f := .int "MOST_LAMPS" 9) rfl)
  have Y : DeskTxt K (He.ga K "Desk") := ⟨He.cls_ok (cd.fact 61 (f := .cls "Desk") rfl), He.noat_ok (cd.fact 63 (f := .noat "Desk" "web") rfl), He.noat_ok (cd.fact 64 (f := .noat "Desk" "goal") rfl), He.noat_ok (cd.fact 65 (f := .noat "Desk" "now") rfl), He.noat_ok (cd.fact 66 (f := .noat "Desk" "past") rfl), He.noat_ok (cd.fact 67 (f := .noat "Desk" "future") rfl)⟩
  have Z_NothingToUndo : OwnX K mg "NothingToUndo" (es K).u := by
    obtain ⟨h1, h2, h3, h4⟩ := He.exc_ok (cd.fact 73 (f := .exc "NothingToUndo") rfl)
    exact ⟨gl_NothingToUndo, h1, h2, h3, h4⟩
  have Z_NothingToRedo : OwnX K mg "NothingToRedo" (es K).r := by
    obtain ⟨h1, h2, h3, h4⟩ := He.exc_ok (cd.fact 74 (f := .exc "NothingToRedo") rfl)
    exact ⟨gl_NothingToRedo, h1, h2, h3, h4⟩
  have Z_NotText : OwnX K mg "NotText" (es K).t := by
    obtain ⟨h1, h2, h3, h4⟩ := He.exc_ok (cd.fact 75 (f := .exc "NotText") rfl)
    exact ⟨gl_NotText, h1, h2, h3, h4⟩
  have TI : Hdx.InvTxt P K mg (es K).i (aI K) := ⟨gl_InvalidLine, clsB_ok (exF_at cm 12 rfl), He.eqO_ok (exF_at cm 13 rfl), He.eqO_ok (exF_at cm 11 rfl), He.eqO_ok (exF_at cm 14 rfl), of_decide_eq_true (exF_at cm 15 rfl), exF_at cm 16 rfl, of_decide_eq_true (exF_at cm 17 rfl), of_decide_eq_true (exF_at cm 18 rfl), of_decide_eq_true (exF_at cm 19 rfl), of_decide_eq_true (exF_at cm 20 rfl), He.eqO_ok (exF_at cm 21 rfl), He.eqO_ok (exF_at cm 22 rfl), He.free_ok X G (cd.fact 59 (f := .free "super") rfl), hS, by rw [hP]; exact initB_ok y2 (exF_at cm 23 rfl)⟩
  have YE : ErrTxt K mg (es K) (He.ga K "HandError") := ⟨gl_HandError, gl_NothingToUndo, gl_NothingToRedo, gl_NotText, gl_InvalidLine, He.exm_ok (cd.fact 76 (f := .exm "NothingToUndo" "HandError" true) rfl), He.exm_ok (cd.fact 77 (f := .exm "NothingToRedo" "HandError" true) rfl), He.exm_ok (cd.fact 78 (f := .exm "NotText" "HandError" true) rfl), He.exm_ok (cd.fact 79 (f := .exm "InvalidLine" "HandError" true) rfl), excB_ok (exF_at cm 6 rfl), excB_ok (exF_at cm 7 rfl), excB_ok (exF_at cm 8 rfl), excB_ok (exF_at cm 9 rfl), of_decide_eq_true (exF_at cm 24 rfl), of_decide_eq_true (exF_at cm 25 rfl), of_decide_eq_true (exF_at cm 26 rfl), of_decide_eq_true (exF_at cm 27 rfl), of_decide_eq_true (exF_at cm 28 rfl), of_decide_eq_true (exF_at cm 29 rfl), of_decide_eq_true (exF_at cm 30 rfl), of_decide_eq_true (exF_at cm 31 rfl), of_decide_eq_true (exF_at cm 32 rfl), of_decide_eq_true (exF_at cm 33 rfl), of_decide_eq_true (exF_at cm 34 rfl), of_decide_eq_true (exF_at cm 35 rfl), of_decide_eq_true (exF_at cm 36 rfl), of_decide_eq_true (exF_at cm 37 rfl), of_decide_eq_true (exF_at cm 38 rfl), of_decide_eq_true (exF_at cm 39 rfl), xfB_ok (exF_at cm 10 rfl), He.eqO_ok (exF_at cm 11 rfl)⟩
  obtain ⟨d__law_light, F__law_light⟩ := cd.def_ 0 (d := dT "_law_light" 49) rfl
  obtain ⟨d__law_quench, F__law_quench⟩ := cd.def_ 1 (d := dT "_law_quench" 50) rfl
  obtain ⟨d__law_changed, F__law_changed⟩ := cd.def_ 2 (d := dT "_law_changed" 53) rfl
  obtain ⟨d__law_spare, F__law_spare⟩ := cd.def_ 3 (d := dT "_law_spare" 51) rfl
  obtain ⟨d__law_alike, F__law_alike⟩ := cd.def_ 4 (d := dT "_law_alike" 47) rfl
  obtain ⟨d__law_taken, F__law_taken⟩ := cd.def_ 5 (d := dT "_law_taken" 43) rfl
  obtain ⟨d_is_in, F_is_in⟩ := cd.def_ 6 (d := dT "is_in" 9) rfl
  obtain ⟨d_ahead_in, F_ahead_in⟩ := cd.def_ 7 (d := dT "ahead_in" 17) rfl
  obtain ⟨d_behind_in, F_behind_in⟩ := cd.def_ 8 (d := dT "behind_in" 18) rfl
  obtain ⟨d_light_in, F_light_in⟩ := cd.def_ 9 (d := dT "light_in" 20) rfl
  obtain ⟨d_quench_in, F_quench_in⟩ := cd.def_ 10 (d := dT "quench_in" 21) rfl
  obtain ⟨d_changed, F_changed⟩ := cd.def_ 11 (d := dT "changed" 22) rfl
  obtain ⟨d_listed, F_listed⟩ := cd.def_ 12 (d := dT "listed" 40) rfl
  obtain ⟨d_sides, F_sides⟩ := cd.def_ 13 (d := dT "sides" 25) rfl
  obtain ⟨d_is_before, F_is_before⟩ := cd.def_ 14 (d := dT "is_before" 33) rfl
  obtain ⟨d_next_in, F_next_in⟩ := cd.def_ 15 (d := dT "next_in" 35) rfl
  obtain ⟨d__law_fewest, F__law_fewest⟩ := cd.def_ 16 (d := dT "_law_fewest" 52) rfl
  obtain ⟨d__law_after, F__law_after⟩ := cd.def_ 17 (d := dT "_law_after" 54) rfl
  obtain ⟨d__law_pick, F__law_pick⟩ := cd.def_ 18 (d := dT "_law_pick" 44) rfl
  obtain ⟨d_is_arrow, F_is_arrow⟩ := cd.def_ 19 (d := dT "is_arrow" 12) rfl
  obtain ⟨d_need_burning, F_need_burning⟩ := cd.def_ 20 (d := dT "need_burning" 14) rfl
  obtain ⟨d_doable, F_doable⟩ := cd.def_ 21 (d := dT "doable" 23) rfl
  obtain ⟨d_needs_of, F_needs_of⟩ := cd.def_ 22 (d := dT "needs_of" 26) rfl
  obtain ⟨d__law_burning, F__law_burning⟩ := cd.def_ 23 (d := dT "_law_burning" 46) rfl
  obtain ⟨d_need_web, F_need_web⟩ := cd.def_ 24 (d := dT "need_web" 13) rfl
  obtain ⟨d_spare_in, F_spare_in⟩ := cd.def_ 25 (d := dT "spare_in" 27) rfl
  obtain ⟨d__law_desk_due, F__law_desk_due⟩ := cd.def_ 26 (d := dT "_law_desk_due" 55) rfl
  obtain ⟨d__law_web, F__law_web⟩ := cd.def_ 27 (d := dT "_law_web" 45) rfl
  obtain ⟨d_need_both, F_need_both⟩ := cd.def_ 28 (d := dT "need_both" 15) rfl
  obtain ⟨d_lit_in, F_lit_in⟩ := cd.def_ 29 (d := dT "lit_in" 28) rfl
  obtain ⟨d_out_in, F_out_in⟩ := cd.def_ 30 (d := dT "out_in" 29) rfl
  obtain ⟨d_fewest_in, F_fewest_in⟩ := cd.def_ 31 (d := dT "fewest_in" 30) rfl
  obtain ⟨d_need_two, F_need_two⟩ := cd.def_ 32 (d := dT "need_two" 16) rfl
  obtain ⟨d_deeds_in, F_deeds_in⟩ := cd.def_ 33 (d := dT "deeds_in" 32) rfl
  obtain ⟨d_pairs_in, F_pairs_in⟩ := cd.def_ 34 (d := dT "pairs_in" 34) rfl
  obtain ⟨d_way_in, F_way_in⟩ := cd.def_ 35 (d := dT "way_in" 36) rfl
  obtain ⟨d__law_desk_raises, F__law_desk_raises⟩ := cd.def_ 36 (d := dT "_law_desk_raises" 48) rfl
  obtain ⟨dm___init__, Fm___init__⟩ := cd.def_ 38 (d := dM "__init__" "Desk.__init__" 0) rfl
  obtain ⟨dm_undo, Fm_undo⟩ := cd.def_ 39 (d := dM "undo" "Desk.undo" 3) rfl
  obtain ⟨dm_redo, Fm_redo⟩ := cd.def_ 40 (d := dM "redo" "Desk.redo" 4) rfl
  obtain ⟨dm_after, Fm_after⟩ := cd.def_ 41 (d := dM "after" "Desk.after" 5) rfl
  obtain ⟨dm_told, Fm_told⟩ := cd.def_ 42 (d := dM "told" "Desk.told" 6) rfl
  obtain ⟨dm_run, Fm_run⟩ := cd.def_ 43 (d := dM "run" "Desk.run" 7) rfl
  obtain ⟨dB, FB⟩ := funB_ok y0 (exF_at cm 2 rfl)
  obtain ⟨dS, FS⟩ := funB_ok y1 (exF_at cm 3 rfl)
  refine ⟨dm___init__, dB, dS, fun base => ?_⟩
  have c__law_light : Cal P w K mg base 1 "_law_light" ["_law_web_here", "_law_burning_here"] (spG K R_light) := ⟨_, _, ok_law_light F__law_light T, gl__law_light, F__law_light.kp, FunD.bindsN (ps := ["_law_web_here", "_law_burning_here"]) F__law_light fun _ _ _ _ _ _ us hl => match us, hl with | [_, _], _ => rfl⟩
  have c__law_quench : Cal P w K mg base 1 "_law_quench" ["_law_web_here", "_law_burning_here"] (spG K R_quench) := ⟨_, _, ok_law_quench F__law_quench T, gl__law_quench, F__law_quench.kp, FunD.bindsN (ps := ["_law_web_here", "_law_burning_here"]) F__law_quench fun _ _ _ _ _ _ us hl => match us, hl with | [_, _], _ => rfl⟩
  have c__law_changed : Cal P w K mg base 1 "_law_changed" ["_law_burning_here", "_law_lamp"] (spG K R_changed) := ⟨_, _, ok_law_changed F__law_changed T, gl__law_changed, F__law_changed.kp, FunD.bindsN (ps := ["_law_burning_here", "_law_lamp"]) F__law_changed fun _ _ _ _ _ _ us hl => match us, hl with | [_, _], _ => rfl⟩
  have c__law_spare : Cal P w K mg base 1 "_law_spare" ["_law_web_here", "_law_one", "_law_other"] (spG K R_spare) := ⟨_, _, ok_law_spare F__law_spare T, gl__law_spare, F__law_spare.kp, FunD.bindsN (ps := ["_law_web_here", "_law_one", "_law_other"]) F__law_spare fun _ _ _ _ _ _ us hl => match us, hl with | [_, _, _], _ => rfl⟩
  have c__law_alike : Cal P w K mg base 1 "_law_alike" ["_law_found", "_law_due"] (spG K R_al0) := ⟨_, _, ok_alike0 F__law_alike T, gl__law_alike, F__law_alike.kp, FunD.bindsN (ps := ["_law_found", "_law_due"]) F__law_alike fun _ _ _ _ _ _ us hl => match us, hl with | [_, _], _ => rfl⟩
  have c__law_taken : Cal P w K mg base 1 "_law_taken" ["_law_row", "_law_many"] (spTaken K) := ⟨_, _, ok_law_taken F__law_taken T, gl__law_taken, F__law_taken.kp, FunD.bindsN (ps := ["_law_row", "_law_many"]) F__law_taken fun _ _ _ _ _ _ us hl => match us, hl with | [_, _], _ => rfl⟩
  have c_is_in : Cal P w K mg base 1 "is_in" ["value", "least", "most"] (spG K R_is_in) := ⟨_, _, ok_is_in F_is_in T, gl_is_in, F_is_in.kp, FunD.bindsN (ps := ["value", "least", "most"]) F_is_in fun _ _ _ _ _ _ us hl => match us, hl with | [_, _, _], _ => rfl⟩
  have c_ahead_in : Cal P w K mg base 1 "ahead_in" ["web", "lamp"] (spG K R_ahead) := ⟨_, _, ok_ahead_in F_ahead_in T, gl_ahead_in, F_ahead_in.kp, FunD.bindsN (ps := ["web", "lamp"]) F_ahead_in fun _ _ _ _ _ _ us hl => match us, hl with | [_, _], _ => rfl⟩
  have c_behind_in : Cal P w K mg base 1 "behind_in" ["web", "lamp"] (spG K R_behind) := ⟨_, _, ok_behind_in F_behind_in T, gl_behind_in, F_behind_in.kp, FunD.bindsN (ps := ["web", "lamp"]) F_behind_in fun _ _ _ _ _ _ us hl => match us, hl with | [_, _], _ => rfl⟩
  have c_light_in : Cal P w K mg base 1 "light_in" ["web", "burning"] (spG K R_light) := ⟨_, _, ok_light_in F_light_in T, gl_light_in, F_light_in.kp, FunD.bindsN (ps := ["web", "burning"]) F_light_in fun _ _ _ _ _ _ us hl => match us, hl with | [_, _], _ => rfl⟩
  have c_quench_in : Cal P w K mg base 1 "quench_in" ["web", "burning"] (spG K R_quench) := ⟨_, _, ok_quench_in F_quench_in T, gl_quench_in, F_quench_in.kp, FunD.bindsN (ps := ["web", "burning"]) F_quench_in fun _ _ _ _ _ _ us hl => match us, hl with | [_, _], _ => rfl⟩
  have c_changed : Cal P w K mg base 1 "changed" ["burning", "lamp"] (spG K R_changed) := ⟨_, _, ok_changed F_changed T, gl_changed, F_changed.kp, FunD.bindsN (ps := ["burning", "lamp"]) F_changed fun _ _ _ _ _ _ us hl => match us, hl with | [_, _], _ => rfl⟩
  have c_listed : Cal P w K mg base 1 "listed" ["lamps"] (spG K R_listed) := ⟨_, _, ok_listed F_listed T, gl_listed, F_listed.kp, FunD.bindsN (ps := ["lamps"]) F_listed fun _ _ _ _ _ _ us hl => match us, hl with | [_], _ => rfl⟩
  have c_sides : Cal P w K mg base 1 "sides" ["one", "other"] (spG K R_sides) := ⟨_, _, ok_sides F_sides T, gl_sides, F_sides.kp, FunD.bindsN (ps := ["one", "other"]) F_sides fun _ _ _ _ _ _ us hl => match us, hl with | [_, _], _ => rfl⟩
  have c_is_before : Cal P w K mg base 1 "is_before" ["web", "first", "second"] (spG K R_before) := ⟨_, _, ok_is_before F_is_before T, gl_is_before, F_is_before.kp, FunD.bindsN (ps := ["web", "first", "second"]) F_is_before fun _ _ _ _ _ _ us hl => match us, hl with | [_, _, _], _ => rfl⟩
  have c_next_in : Cal P w K mg base 1 "next_in" ["some", "pairs"] (spG K R_next) := ⟨_, _, ok_next_in F_next_in T, gl_next_in, F_next_in.kp, FunD.bindsN (ps := ["some", "pairs"]) F_next_in fun _ _ _ _ _ _ us hl => match us, hl with | [_, _], _ => rfl⟩
  have c__law_fewest : Cal P w K mg base 2 "_law_fewest" ["_law_web_here", "_law_one", "_law_other"] (spG K R_fewest) := ⟨_, _, ok_law_fewest F__law_fewest T c__law_spare, gl__law_fewest, F__law_fewest.kp, FunD.bindsN (ps := ["_law_web_here", "_law_one", "_law_other"]) F__law_fewest fun _ _ _ _ _ _ us hl => match us, hl with | [_, _, _], _ => rfl⟩
  have c__law_after : Cal P w K mg base 2 "_law_after" ["_law_web_here", "_law_burning_here"] (spG K R_after) := ⟨_, _, ok_law_after F__law_after T c__law_light c__law_quench c__law_changed, gl__law_after, F__law_after.kp, FunD.bindsN (ps := ["_law_web_here", "_law_burning_here"]) F__law_after fun _ _ _ _ _ _ us hl => match us, hl with | [_, _], _ => rfl⟩
  have al1 : Cal P w K mg base 2 "_law_alike" ["_law_found", "_law_due"] (spG K R_al1) := ⟨_, _, ok_alike1 F__law_alike T c__law_alike, gl__law_alike, F__law_alike.kp, FunD.bindsN (ps := ["_law_found", "_law_due"]) F__law_alike fun _ _ _ _ _ _ us hl => match us, hl with | [_, _], _ => rfl⟩
  have c__law_pick : Cal P w K mg base 2 "_law_pick" ["_law_row", "_law_things"] (spPick K) := ⟨_, _, ok_law_pick F__law_pick T c__law_taken, gl__law_pick, F__law_pick.kp, FunD.bindsN (ps := ["_law_row", "_law_things"]) F__law_pick fun _ _ _ _ _ _ us hl => match us, hl with | [_, _], _ => rfl⟩
  have c_is_arrow : Cal P w K mg base 2 "is_arrow" ["value", "many"] (spG K R_is_arrow) := ⟨_, _, ok_is_arrow F_is_arrow T c_is_in, gl_is_arrow, F_is_arrow.kp, FunD.bindsN (ps := ["value", "many"]) F_is_arrow fun _ _ _ _ _ _ us hl => match us, hl with | [_, _], _ => rfl⟩
  have c_need_burning : Cal P w K mg base 2 "need_burning" ["web", "burning"] (spG K R_need_burning) := ⟨_, _, ok_need_burning F_need_burning T c_is_in, gl_need_burning, F_need_burning.kp, FunD.bindsN (ps := ["web", "burning"]) F_need_burning fun _ _ _ _ _ _ us hl => match us, hl with | [_, _], _ => rfl⟩
  have c_doable : Cal P w K mg base 2 "doable" ["web", "burning"] (spG K R_doable) := ⟨_, _, ok_doable F_doable T c_light_in c_quench_in, gl_doable, F_doable.kp, FunD.bindsN (ps := ["web", "burning"]) F_doable fun _ _ _ _ _ _ us hl => match us, hl with | [_, _], _ => rfl⟩
  have c_needs_of : Cal P w K mg base 2 "needs_of" ["web", "one", "other", "some"] (spG K R_needs) := ⟨_, _, ok_needs_of F_needs_of T c_sides c_ahead_in c_behind_in, gl_needs_of, F_needs_of.kp, FunD.bindsN (ps := ["web", "one", "other", "some"]) F_needs_of fun _ _ _ _ _ _ us hl => match us, hl with | [_, _, _, _], _ => rfl⟩
  have c__law_burning : Cal P w K mg base 3 "_law_burning" ["_law_row", "_law_many"] (spBurn K) := ⟨_, _, ok_law_burning F__law_burning T c__law_taken c__law_pick, gl__law_burning, F__law_burning.kp, FunD.bindsN (ps := ["_law_row", "_law_many"]) F__law_burning fun _ _ _ _ _ _ us hl => match us, hl with | [_, _], _ => rfl⟩
  have c_need_web : Cal P w K mg base 3 "need_web" ["web"] (spG K R_need_web) := ⟨_, _, ok_need_web F_need_web T g_MOST ⟨_, rfl⟩ c_is_in c_is_arrow, gl_need_web, F_need_web.kp, FunD.bindsN (ps := ["web"]) F_need_web fun _ _ _ _ _ _ us hl => match us, hl with | [_], _ => rfl⟩
  have c_spare_in : Cal P w K mg base 3 "spare_in" ["web", "one", "other"] (spG K R_spare) := ⟨_, _, ok_spare_in F_spare_in T c_needs_of, gl_spare_in, F_spare_in.kp, FunD.bindsN (ps := ["web", "one", "other"]) F_spare_in fun _ _ _ _ _ _ us hl => match us, hl with | [_, _, _], _ => rfl⟩
  have c__law_desk_due : Cal P w K mg base 3 "_law_desk_due" ["_law_web_here", "_law_burning_here", "_law_goal", "_law_text"] (spG K R_due) := ⟨_, _, ok_law_desk_due F__law_desk_due T c__law_light c__law_quench c__law_spare c__law_fewest c__law_after c__law_changed, gl__law_desk_due, F__law_desk_due.kp, FunD.bindsN (ps := ["_law_web_here", "_law_burning_here", "_law_goal", "_law_text"]) F__law_desk_due fun _ _ _ _ _ _ us hl => match us, hl with | [_, _, _, _], _ => rfl⟩
  have c__law_web : Cal P w K mg base 3 "_law_web" ["_law_row", "_law_most"] (spWeb K) := ⟨_, _, ok_law_web F__law_web T c__law_taken c__law_pick, gl__law_web, F__law_web.kp, FunD.bindsN (ps := ["_law_row", "_law_most"]) F__law_web fun _ _ _ _ _ _ us hl => match us, hl with | [_, _], _ => rfl⟩
  have c_need_both : Cal P w K mg base 4 "need_both" ["web", "burning"] (spG K R_need_both) := ⟨_, _, ok_need_both F_need_both T c_need_web c_need_burning, gl_need_both, F_need_both.kp, FunD.bindsN (ps := ["web", "burning"]) F_need_both fun _ _ _ _ _ _ us hl => match us, hl with | [_, _], _ => rfl⟩
  have c_lit_in : Cal P w K mg base 4 "lit_in" ["web", "one", "other"] (spG K R_lit) := ⟨_, _, ok_lit_in F_lit_in T c_sides c_spare_in, gl_lit_in, F_lit_in.kp, FunD.bindsN (ps := ["web", "one", "other"]) F_lit_in fun _ _ _ _ _ _ us hl => match us, hl with | [_, _, _], _ => rfl⟩
  have c_out_in : Cal P w K mg base 4 "out_in" ["web", "one", "other"] (spG K R_out) := ⟨_, _, ok_out_in F_out_in T c_sides c_spare_in, gl_out_in, F_out_in.kp, FunD.bindsN (ps := ["web", "one", "other"]) F_out_in fun _ _ _ _ _ _ us hl => match us, hl with | [_, _, _], _ => rfl⟩
  have c_fewest_in : Cal P w K mg base 4 "fewest_in" ["web", "one", "other"] (spG K R_fewest) := ⟨_, _, ok_fewest_in F_fewest_in T c_sides c_spare_in, gl_fewest_in, F_fewest_in.kp, FunD.bindsN (ps := ["web", "one", "other"]) F_fewest_in fun _ _ _ _ _ _ us hl => match us, hl with | [_, _, _], _ => rfl⟩
  have c_need_two : Cal P w K mg base 5 "need_two" ["web", "one", "other"] (spG K R_need_two) := ⟨_, _, ok_need_two F_need_two T c_need_both c_need_burning, gl_need_two, F_need_two.kp, FunD.bindsN (ps := ["web", "one", "other"]) F_need_two fun _ _ _ _ _ _ us hl => match us, hl with | [_, _, _], _ => rfl⟩
  have c_deeds_in : Cal P w K mg base 5 "deeds_in" ["web", "one", "other"] (spG K R_deeds) := ⟨_, _, ok_deeds_in F_deeds_in T c_lit_in c_out_in, gl_deeds_in, F_deeds_in.kp, FunD.bindsN (ps := ["web", "one", "other"]) F_deeds_in fun _ _ _ _ _ _ us hl => match us, hl with | [_, _, _], _ => rfl⟩
  have c_pairs_in : Cal P w K mg base 6 "pairs_in" ["web", "one", "other"] (spG K R_pairs) := ⟨_, _, ok_pairs_in F_pairs_in T c_deeds_in c_is_before, gl_pairs_in, F_pairs_in.kp, FunD.bindsN (ps := ["web", "one", "other"]) F_pairs_in fun _ _ _ _ _ _ us hl => match us, hl with | [_, _, _], _ => rfl⟩
  have c_way_in : Cal P w K mg base 7 "way_in" ["web", "one", "other"] (spWay K) := ⟨_, _, ok_way_in F_way_in T c_deeds_in c_pairs_in c_next_in, gl_way_in, F_way_in.kp, FunD.bindsN (ps := ["web", "one", "other"]) F_way_in fun _ _ _ _ _ _ us hl => match us, hl with | [_, _, _], _ => rfl⟩
  have m_undo : CalM P w K mg base (He.ga K "Desk") (L2.CX P w) 1 "undo" ["self"] (spUndo K (He.ga K "Desk") (es K)) := ⟨_, _, ok_undo Fm_undo T Y Z_NothingToUndo, He.meth_ok (cd.fact 68 (f := .meth "Desk" "undo") rfl), FunD.bindsN (ps := ["self"]) Fm_undo fun _ _ _ _ _ _ us hl => match us, hl with | [_], _ => rfl⟩
  have m_redo : CalM P w K mg base (He.ga K "Desk") (L2.CX P w) 1 "redo" ["self"] (spRedo K (He.ga K "Desk") (es K)) := ⟨_, _, ok_redo Fm_redo T Y Z_NothingToRedo, He.meth_ok (cd.fact 69 (f := .meth "Desk" "redo") rfl), FunD.bindsN (ps := ["self"]) Fm_redo fun _ _ _ _ _ _ us hl => match us, hl with | [_], _ => rfl⟩
  have m_told : CalM P w K mg base (He.ga K "Desk") CX0 8 "told" ["self", "word"] (spTold K (He.ga K "Desk")) := ⟨_, _, ok_told Fm_told T Y c_listed c_doable c_fewest_in c_way_in c_spare_in, He.meth_ok (cd.fact 71 (f := .meth "Desk" "told") rfl), FunD.bindsN (ps := ["self", "word"]) Fm_told fun _ _ _ _ _ _ us hl => match us, hl with | [_, _], _ => rfl⟩
  have m_after : CalM P w K mg base (He.ga K "Desk") (L2.CX P w) 3 "after" ["self", "words"] (spAfter K (He.ga K "Desk") (es K)) := ⟨_, _, ok_after Fm_after T Y TI c_light_in c_quench_in c_changed, He.meth_ok (cd.fact 70 (f := .meth "Desk" "after") rfl), FunD.bindsN (ps := ["self", "words"]) Fm_after fun _ _ _ _ _ _ us hl => match us, hl with | [_, _], _ => rfl⟩
  have m_run : CalM P w K mg base (He.ga K "Desk") (L2.CX P w) 9 "run" ["self", "text"] (spRun K (He.ga K "Desk") (es K)) := ⟨_, _, ok_run Fm_run T Y TI Z_NotText gl_DEEDS rfl (tup_at (ws := dsL) (He.tupB_ok (exF_at cm 4 rfl))) gl_QUESTIONS rfl (tup_at (ws := qsL) (He.tupB_ok (exF_at cm 5 rfl))) m_told m_after, He.meth_ok (cd.fact 72 (f := .meth "Desk" "run") rfl), FunD.bindsN (ps := ["self", "text"]) Fm_run fun _ _ _ _ _ _ us hl => match us, hl with | [_, _], _ => rfl⟩
  exact { T := T, R := ⟨⟨_, _, F__law_desk_raises, gl__law_desk_raises, FunD.bindsN (ps := ["_law_work"]) F__law_desk_raises fun _ _ _ _ _ _ us hl => match us, hl with | [_], _ => rfl⟩, T, YE⟩, Y := Y, gD := gl_Desk, mkD := He.mkr_ok (cd.fact 62 (f := .mkr "Desk") rfl), init := ok_init Fm___init__ Y c_need_two, bInit := FunD.bindsN (ps := ["self", "web", "burning", "goal"]) Fm___init__ fun _ _ _ _ _ _ us hl => match us, hl with | [_, _, _, _], _ => rfl, p_burning := propB_ok (exF_at cm 0 rfl), p_steps := propB_ok (exF_at cm 1 rfl), ok_burning := ok_burning FB Y, ok_steps := ok_steps FS T Y, b_burning := FunD.bindsN (ps := ["self"]) FB fun _ _ _ _ _ _ us hl => match us, hl with | [_], _ => rfl, b_steps := FunD.bindsN (ps := ["self"]) FS fun _ _ _ _ _ _ us hl => match us, hl with | [_], _ => rfl, m_undo := m_undo, m_redo := m_redo, m_run := m_run, c__law_taken := c__law_taken, c__law_pick := c__law_pick, c__law_web := c__law_web, c__law_burning := c__law_burning, c__law_light := c__law_light, c__law_quench := c__law_quench, c__law_desk_due := c__law_desk_due, al0 := c__law_alike, al1 := al1 }
end
end Hd
set_option Elab.async false
set_option linter.all false
set_option maxRecDepth 100000
set_option maxHeartbeats 0
/-! Handons: the head's run, the end. -/
namespace Hd
open PySem PySem.Spec PyProof.Rows L2
abbrev R : PySem.W.OpenRow := PySem.W.OpenLaw.row PySem.Challenge.rw_handons_k63_whole_desks
abbrev hk : PySem.W.Hook := hookY 5 faL fnL tfL exF ysL vsL
def ob (s : PySem.W.SharedT) : AlY := obsY 5 faL fnL tfL exF ysL (HandSHeadRun.getT s)
theorem ob_eq (s : PySem.W.SharedT) : ob s = hk.obs s.abs := obsY_eq (HandSHeadRun.getT_eq s)
def lNames : List PySem.Str := (["__name__", "HandError", "BadWeb", "BadBurning", "NotText", "NothingToUndo", "NothingToRedo", "InvalidLine", "is_in", "MOST_LAMPS", "is_arrow", "need_web", "need_burning", "need_both", "need_two", "ahead_in", "behind_in", "light_in", "quench_in", "changed", "doable", "sides", "needs_of", "spare_in", "lit_in", "out_in", "fewest_in"] : List PySem.Str) ++ (["deeds_in", "is_before", "pairs_in", "next_in", "way_in", "DEEDS", "QUESTIONS", "listed", "Desk", "_law_taken", "_law_pick", "_law_web", "_law_burning", "_law_alike", "_law_desk_raises", "_law_light", "_law_quench", "_law_spare", "_law_fewest", "_law_changed", "_law_after", "_law_desk_due"] : List PySem.Str)
theorem run (w : World) : HandSHeadRun.RunEq R (PySem.W.view R.prog [56]) hk ob 4000 lNames w := by
  intro os
  kernel_rfl
end Hd
set_option Elab.async false
set_option linter.all false
set_option maxRecDepth 100000
set_option maxHeartbeats 0
/-! Handons: the end. -/
namespace Hd
open PySem PySem.Spec PyProof.Rows L2
theorem law_at {P : Program} {w : World} {K : PySem.W.Frag} {h : Heap} {mg : PySem.Str → Option Value} {fa : Addr} (hP : P.main.file = PySem.Challenge.pw_handons_k63_whole_desks.main.file) (hS : (P.main.scope.names.lookup ("super" : PySem.Str)).isSome = false) (X : K.In h) (G : h.Ns mainGlobals mg) (hfa : mg ("law" : PySem.Str) = some (.ref fa)) (c : SaysY faL fnL tfL exF ysL vsL w h K) :
    ∃ (fd : FuncData) (cs : List (Addr × Addr)) (sp : Sp), (∀ p ∈ cs, h.get? p.2 = some { cls := .none, data := .fields #[] }) ∧ (∀ p ∈ cs, K.lookup p.2 = none) ∧ (∀ p ∈ cs, PySem.W.CodeHd h p.1 p.2) ∧ (∀ (s : Shared) (u : Value), BindsTo s fd ⟨[u], []⟩ [("_law_script", u)]) ∧
    (∀ (H : Hp) (a : Addr) (ns : List Int), ns.length ≤ 63 → (∀ z ∈ ns, Builtin.Int.intBits z ≤ 1048576) → (∀ p ∈ cs, H p.2 = some (.tbl #[])) → SqL K H a (ns.map V.int) → sp [.ref a] H (fun v _ => v = .bl true) fun _ _ _ => False) ∧
    ∀ base : Heap, K.In base → base.Ns mainGlobals mg → (∀ p ∈ cs, LamX.TabB base mg p.1 p.2) → FnOk P w K mg base CX0 12 fa fd ["_law_script"] sp := by
  have cx := c.1
  have cd : He.SaysD faL fnL K := congrArg Prod.fst cx.t
  obtain ⟨dI, dB, dS, Z⟩ := facts hP hS X G c
  obtain ⟨fd, F⟩ := cd.defs (d := dT "law" 56) (by unfold fnL; simp)
  have e := hfa.symm.trans (He.glo_ok X G (cd.facts (f := .glo "law") (by unfold faL; simp)))
  have e : fa = He.ga K "law" := by
    have := Option.some.inj e
    cases this
    rfl
  have F : FnP K "law" (top 56) fa fd := by rw [e]; exact F
  have b := FunD.bindsA (ps := ["_law_script"]) F fun _ _ _ _ _ _ us hl => match us, hl with | [_], _ => rfl
  obtain ⟨oc, od, dV, kV, doc, pm, an, cdv, ct, osl, rfl, lk, hcd, _, _⟩ := F.ex
  obtain ⟨cl, rfl⟩ := He.codeIn_ref hcd
  have ec : He.codeOf K ("law", none) = cl := He.codeOf_eq (by rw [e] at lk; exact lk) rfl
  have key : ∀ p ∈ [He.cT K (("law" : PySem.Str), (none : Option PySem.Str))], ∃ q ∈ tfL, p = He.cT K q := fun p hp => ⟨("law", none), List.mem_singleton.mpr rfl, List.mem_singleton.mp hp⟩
  refine ⟨_, [He.cT K ("law", none)], spLaw K (He.cT K ("law", none)).2, fun p hp => ?_, fun p hp => ?_, fun p hp => ?_, fun s v => b s [v] rfl, fun H a ns _ _ hH hS => ⟨a, ns, rfl, hH _ (List.mem_singleton.mpr rfl), hS, fun _ => rfl⟩, fun base _ _ hT => ?_⟩
  · obtain ⟨q, hq, rfl⟩ := key p hp
    exact cx.empty q hq
  · obtain ⟨q, hq, rfl⟩ := key p hp
    exact cx.out q hq
  · obtain ⟨q, hq, rfl⟩ := key p hp
    exact PySem.W.codeHd_of_K X (cx.hd q hq)
  · have t := hT _ (List.mem_singleton.mpr rfl)
    have t1 : LamX.TabB base mg cl (He.cT K ("law", none)).2 := by rw [← ec]; exact t
    exact ok_law lk hcd (Z base) t1
end Hd
open PySem PySem.W PySem.Calls PyProof.Rows
theorem PySem.Challenge.cw_handons_k63_whole_desks_holds : PySem.Challenge.rw_handons_k63_whole_desks.Holds := by
  w_on; o_law
  refine HandSHeadRun.head_any (r := OpenLaw.row PySem.Challenge.rw_handons_k63_whole_desks) (q := view (OpenLaw.row PySem.Challenge.rw_handons_k63_whole_desks).prog [56]) (H := Hd.hk) (ob := Hd.ob) (M := 4000) (loose := Hd.lNames) (d := HandSHeadRun.topDef (OpenLaw.row PySem.Challenge.rw_handons_k63_whole_desks).prog 56) (kwd := []) Hd.ob_eq
    (by kernel_rfl) (fun s => by kernel_rfl) Hd.run (by kernel_rfl) (by kernel_rfl) (by kernel_rfl) (by rfl) (by first | assumption | decide +kernel) (by decide +kernel) ⟨rfl, rfl, rfl, rfl, rfl, by decide +kernel⟩ ?hw ?hc
  case hw => w_witness2
  case hc =>
    refine LamX.walk_ofTsE (l := PySem.Challenge.rw_handons_k63_whole_desks) (n := 63) (k := 12) (x := "_law_script") (CX := fun _ => L2.CX0) rfl (by decide) (by kernel_rfl) ⟨rfl, by decide, by decide⟩ ?F (fun _ _ _ _ _ z => z)
    intro w mg fa h Y G hmg0
    obtain ⟨K, KX, c⟩ := Y
    have hmg : mg ("law" : PySem.Str) = some (.ref fa) := by
      have e : (HandSHeadRun.topDef (OpenLaw.row PySem.Challenge.rw_handons_k63_whole_desks).prog 56).name = ("law" : PySem.Str) := by kernel_rfl
      rw [← e]
      exact hmg0
    exact ⟨K, KX, Hd.law_at (by kernel_rfl) (by kernel_rfl) KX G hmg c⟩
