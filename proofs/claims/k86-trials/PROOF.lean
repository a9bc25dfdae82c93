import PyProof.Rows.All
import Wide.All
import OpenK.AllK
import Wide.FinOn
import HandS.ForMost
import HandS.Exc
import HandS.SortRule
import HandS.IsInst
import HandS.TupAny
import HandS.Zip
import HandS.Defaults
import HandS.Codes
import HandS.Strs
import HandS.SetBool
import HandS.Walk
import HandS.Comp
import HandS.HeadHook4
import KE.KExcInit
import KE.KSuper
import HandS.ExcField
import HandS.HeadNt
import HandS.Head0
import HandS.Head1
import HandS.Head2
import HandS.HeadEnd
import HandS.HeadWalk
import HandS.Star
import HandS.ClsMeth
import HandS.Property
import HandS.OwnEq
import KE.KOpsOwn
import HandS.DictComp
import HandS.WordsDict
import PyProof.ExcBaseAll.ValueError
import PyProof.ExcBaseAll.RuntimeError
import PyProof.ExcBaseAll.IndexError
import HandS.ExcInit
import HandS.ExcOwn
import HandS.TryMany
import HandS.WordsExc
import HandS.GenCall
import HandS.GenList
import HandS.GenYield
import HandS.ReplaceDef
import KE.KWithOwn
import HandS.Finally
import HandS.HotCalls
import HandS.Lambda
import HandS.Nested
import PyProof.Rows.StrMeet
import PyProof.Rows.SortStr
import PyProof.NeKinds
import HandS.DictEq
import HandS.CallSlots
import HandS.TupLe
import HandS.EndTab
import PyProof.ExcBaseAll.LookupError
import PySem.Challenge.RW_boxregions_k86_whole_trials_leave_no_tra
section
set_option Elab.async false
/-! The mathematics: forms of regions as plain lists, pointwise laws, bounds. -/
namespace BX
abbrev Spn := Int × Int
abbrev Slb := Int × Int × List Spn
abbrev Frm := List Slb
abbrev Rgn := Frm × Bool

/-! ### strictly ascending lists -/
def insU (k : Int) : List Int → List Int
  | [] => [k]
  | x :: r => if k < x then k :: x :: r else if k = x then x :: r else x :: insU k r
def sortU (l : List Int) : List Int := l.foldr insU []
theorem mem_insU {k j : Int} : ∀ {l : List Int}, j ∈ insU k l ↔ j = k ∨ j ∈ l
  | [] => by simp [insU]
  | x :: r => by
    unfold insU
    split
    · simp
    · split
      · rename_i h; subst h; simp
      · rw [List.mem_cons, mem_insU, List.mem_cons]
        constructor
        · rintro (h | h | h) <;> simp [h]
        · rintro (h | h | h) <;> simp [h]
theorem asc_insU {k : Int} : ∀ {l : List Int}, l.Pairwise (· < ·) → (insU k l).Pairwise (· < ·)
  | [], _ => by simp [insU]
  | x :: r, h => by
    have hx := List.pairwise_cons.mp h
    unfold insU
    split
    · rename_i hk
      refine List.pairwise_cons.mpr ⟨fun y hy => ?_, h⟩
      rcases List.mem_cons.mp hy with rfl | hy
      · exact hk
      · exact Int.lt_trans hk (hx.1 y hy)
    · split
      · exact h
      · rename_i h1 h2
        refine List.pairwise_cons.mpr ⟨fun y hy => ?_, asc_insU hx.2⟩
        rcases mem_insU.mp hy with rfl | hy
        · omega
        · exact hx.1 y hy
theorem mem_sortU {j : Int} : ∀ {l : List Int}, j ∈ sortU l ↔ j ∈ l
  | [] => by simp [sortU]
  | x :: r => by
    show j ∈ insU x (sortU r) ↔ _
    rw [mem_insU, mem_sortU, List.mem_cons]
theorem asc_sortU : ∀ {l : List Int}, (sortU l).Pairwise (· < ·)
  | [] => List.Pairwise.nil
  | _ :: _ => asc_insU asc_sortU
/-- two strictly ascending lists with the same members are one -/
theorem asc_ext : ∀ {l m : List Int}, l.Pairwise (· < ·) → m.Pairwise (· < ·) → (∀ k, k ∈ l ↔ k ∈ m) → l = m
  | [], [], _, _, _ => rfl
  | [], y :: m, _, _, h => absurd ((h y).mpr List.mem_cons_self) (by simp)
  | x :: l, [], _, _, h => absurd ((h x).mp List.mem_cons_self) (by simp)
  | x :: l, y :: m, hl, hm, h => by
    have hx := List.pairwise_cons.mp hl
    have hy := List.pairwise_cons.mp hm
    have exy : x = y := by
      rcases List.mem_cons.mp ((h x).mp List.mem_cons_self) with e | e
      · exact e
      · rcases List.mem_cons.mp ((h y).mpr List.mem_cons_self) with e' | e'
        · exact e'.symm
        · have a := hy.1 x e
          have b := hx.1 y e'
          omega
    subst exy
    refine congrArg (x :: ·) (asc_ext hx.2 hy.2 fun k => ⟨fun hk => ?_, fun hk => ?_⟩)
    · rcases List.mem_cons.mp ((h k).mp (List.mem_cons_of_mem _ hk)) with e | e
      · have := hx.1 k hk; omega
      · exact e
    · rcases List.mem_cons.mp ((h k).mpr (List.mem_cons_of_mem _ hk)) with e | e
      · have := hy.1 k hk; omega
      · exact e
/-- a strictly ascending list within lo .. hi is short -/
theorem asc_len {hi : Int} : ∀ {l : List Int} {lo : Int}, l.Pairwise (· < ·) → (∀ k ∈ l, lo ≤ k ∧ k ≤ hi) → (l.length : Int) ≤ hi - lo + 1 ∨ l = []
  | [], _, _, _ => .inr rfl
  | x :: r, lo, h, hb => by
    have hx := List.pairwise_cons.mp h
    have b := hb x List.mem_cons_self
    refine .inl ?_
    rcases asc_len (lo := x + 1) hx.2 (fun k hk => ⟨by have := hx.1 k hk; omega, (hb k (List.mem_cons_of_mem _ hk)).2⟩) with e | e
    · rw [List.length_cons]; omega
    · rw [e]; simp; omega
/-- neighbours -/
def gaps (l : List Int) : List Spn := l.zip l.tail
theorem gaps_cons (x y : Int) (r : List Int) : gaps (x :: y :: r) = (x, y) :: gaps (y :: r) := rfl
theorem gaps_len (l : List Int) : (gaps l).length ≤ l.length := by
  unfold gaps; rw [List.length_zip]; omega
theorem gaps_mem {l : List Int} {p : Spn} (h : p ∈ gaps l) : p.1 ∈ l ∧ p.2 ∈ l := by
  obtain ⟨a, b⟩ := p
  have := List.of_mem_zip h
  exact ⟨this.1, List.mem_of_mem_tail this.2⟩
theorem gaps_lt : ∀ {l : List Int} {p : Spn}, l.Pairwise (· < ·) → p ∈ gaps l → p.1 < p.2 ∧ ∀ k ∈ l, k ≤ p.1 ∨ p.2 ≤ k
  | [], _, _, h => by simp [gaps] at h
  | [x], _, _, h => by simp [gaps] at h
  | x :: y :: r, p, hl, h => by
    have hx := List.pairwise_cons.mp hl
    have hy := List.pairwise_cons.mp hx.2
    rw [gaps_cons] at h
    rcases List.mem_cons.mp h with rfl | h
    · refine ⟨hx.1 y List.mem_cons_self, fun k hk => ?_⟩
      rcases List.mem_cons.mp hk with rfl | hk
      · exact .inl (Int.le_refl _)
      · rcases List.mem_cons.mp hk with rfl | hk
        · exact .inr (Int.le_refl _)
        · exact .inr (Int.le_of_lt (hy.1 k hk))
    · have ih := gaps_lt hx.2 h
      have h0 := hx.1 p.1 (gaps_mem h).1
      refine ⟨ih.1, fun k hk => ?_⟩
      rcases List.mem_cons.mp hk with rfl | hk
      · exact .inl (Int.le_of_lt h0)
      · exact ih.2 k hk
/-- between the least and the greatest every place lies in one gap -/
theorem gaps_has : ∀ {l : List Int} {z : Int}, l.Pairwise (· < ·) → (∃ k ∈ l, k ≤ z) → (∃ k ∈ l, z < k) → ∃ p ∈ gaps l, p.1 ≤ z ∧ z < p.2
  | [], _, _, ⟨_, h, _⟩, _ => by simp at h
  | [x], z, _, ⟨k, h, hk⟩, ⟨j, h', hj⟩ => by
    simp at h h'; omega
  | x :: y :: r, z, hl, ⟨k, hk, hkz⟩, ⟨j, hj, hjz⟩ => by
    have hx := List.pairwise_cons.mp hl
    by_cases hz : z < y
    · refine ⟨(x, y), by rw [gaps_cons]; exact List.mem_cons_self, ?_, hz⟩
      rcases List.mem_cons.mp hk with rfl | hk
      · exact hkz
      · exfalso
        rcases List.mem_cons.mp hk with rfl | hk
        · omega
        · have := (List.pairwise_cons.mp hx.2).1 k hk; omega
    · have hj' : j ∈ y :: r := by
        rcases List.mem_cons.mp hj with rfl | hj
        · have := hx.1 y List.mem_cons_self; omega
        · exact hj
      obtain ⟨p, hp, h⟩ := gaps_has hx.2 ⟨y, List.mem_cons_self, by omega⟩ ⟨j, hj', hjz⟩
      exact ⟨p, by rw [gaps_cons]; exact List.mem_cons_of_mem _ hp, h⟩
/-- the gaps of a strictly ascending list ascend, each at or behind the end of the one before -/
theorem gaps_asc : ∀ {l : List Int}, l.Pairwise (· < ·) → (gaps l).Pairwise (fun p q => p.2 ≤ q.1)
  | [], _ => List.Pairwise.nil
  | [_], _ => List.Pairwise.nil
  | x :: y :: r, hl => by
    have hx := List.pairwise_cons.mp hl
    rw [gaps_cons]
    refine List.pairwise_cons.mpr ⟨fun q hq => ?_, gaps_asc hx.2⟩
    have hm := (gaps_mem hq).1
    rcases List.mem_cons.mp hm with e | e
    · show y ≤ q.1; omega
    · have := (List.pairwise_cons.mp hx.2).1 q.1 e
      show y ≤ q.1; omega

/-! ### spans -/
def leP (p q : Spn) : Bool := decide (p.1 < q.1) || (decide (p.1 = q.1) && decide (p.2 ≤ q.2))
def mstep (acc : List Spn) (p : Spn) : List Spn :=
  match acc.getLast? with
  | none => acc ++ [p]
  | some l => if p.1 ≤ l.2 then acc.dropLast ++ [(l.1, if l.2 > p.2 then l.2 else p.2)] else acc ++ [p]
def mergeL (ps : List Spn) : List Spn := ps.foldl mstep []
def sortP (ps : List Spn) : List Spn := ps.mergeSort leP
def merged (ps : List Spn) : List Spn := mergeL (sortP ps)
def inS (p : Spn) (n : Int) : Bool := decide (p.1 ≤ n) && decide (n < p.2)
def covered (s : List Spn) (n : Int) : Bool := s.any fun p => inS p n
theorem leP_trans (a b c : Spn) (h : leP a b = true) (h' : leP b c = true) : leP a c = true := by
  unfold leP at *; simp only [Bool.or_eq_true, Bool.and_eq_true, decide_eq_true_eq] at *; omega
theorem leP_total (a b : Spn) : (leP a b || leP b a) = true := by
  unfold leP; simp only [Bool.or_eq_true, Bool.and_eq_true, decide_eq_true_eq]; omega
theorem leP_anti {a b : Spn} (h : leP a b = true) (h' : leP b a = true) : a = b := by
  unfold leP at *; simp only [Bool.or_eq_true, Bool.and_eq_true, decide_eq_true_eq] at *
  exact Prod.ext (by omega) (by omega)
theorem sortP_asc (ps : List Spn) : (sortP ps).Pairwise (fun a b => leP a b = true) := List.pairwise_mergeSort leP_trans leP_total ps
theorem sortP_perm (ps : List Spn) : (sortP ps).Perm ps := List.mergeSort_perm ps leP
/-- a sorted permutation is THE sorted one -/
theorem sortP_uniq {ys ps : List Spn} (hp : ys.Perm ps) (hs : ys.Pairwise fun a b => leP a b = true) : ys = sortP ps := by
  refine List.Perm.eq_of_pairwise (le := fun a b => leP a b = true) (fun a b _ _ h h' => leP_anti h h') hs (sortP_asc ps) (hp.trans (sortP_perm ps).symm)

theorem getLast?_dropLast {α : Type} {l : List α} {x : α} (h : l.getLast? = some x) : l = l.dropLast ++ [x] := by
  have hne : l ≠ [] := by intro e; subst e; simp at h
  rw [List.getLast?_eq_some_getLast hne] at h
  rw [← Option.some.inj h]
  exact (List.dropLast_concat_getLast hne).symm
theorem covered_append (s t : List Spn) (n : Int) : covered (s ++ t) n = (covered s n || covered t n) := by
  unfold covered; rw [List.any_append]
theorem covered_one (p : Spn) (n : Int) : covered [p] n = inS p n := by simp [covered]
/-- one step of merging keeps what is covered, if the span begins at or behind the last one's beginning -/
theorem mstep_cov {acc : List Spn} {p : Spn} (n : Int) (h : ∀ l, acc.getLast? = some l → l.1 ≤ p.1) : covered (mstep acc p) n = (covered acc n || inS p n) := by
  unfold mstep
  split
  · rw [covered_append, covered_one]
  · rename_i l hl
    split
    · rename_i hc
      have e := getLast?_dropLast hl
      have h1 := h l hl
      rw [covered_append, covered_one]
      conv => rhs; rw [e, covered_append, covered_one]
      rw [Bool.or_assoc]
      congr 1
      unfold inS
      rw [Bool.eq_iff_iff]
      simp only [Bool.or_eq_true, Bool.and_eq_true, decide_eq_true_eq]
      split <;> omega
    · rw [covered_append, covered_one]
theorem mstep_last {acc : List Spn} {p : Spn} : ∃ l, (mstep acc p).getLast? = some l ∧ (l.1 ≤ p.1 ∨ ∃ l', acc.getLast? = some l' ∧ l.1 = l'.1) := by
  unfold mstep
  split
  · exact ⟨p, List.getLast?_concat, .inl (Int.le_refl _)⟩
  · rename_i l hl
    split
    · exact ⟨(l.1, if l.2 > p.2 then l.2 else p.2), List.getLast?_concat, .inr ⟨l, hl, rfl⟩⟩
    · exact ⟨p, List.getLast?_concat, .inl (Int.le_refl _)⟩
theorem foldl_mstep_cov (n : Int) : ∀ (ps acc : List Spn), ps.Pairwise (fun a b => leP a b = true) → (∀ p ∈ ps, ∀ l, acc.getLast? = some l → l.1 ≤ p.1) →
    covered (ps.foldl mstep acc) n = (covered acc n || covered ps n)
  | [], acc, _, _ => by simp [covered]
  | p :: r, acc, hs, hl => by
    have hp := List.pairwise_cons.mp hs
    rw [List.foldl_cons, foldl_mstep_cov n r (mstep acc p) hp.2 (fun q hq l e => ?_), mstep_cov n (hl p List.mem_cons_self), Bool.or_assoc]
    · rfl
    · have hpq := hp.1 q hq
      unfold leP at hpq
      simp only [Bool.or_eq_true, Bool.and_eq_true, decide_eq_true_eq] at hpq
      obtain ⟨l', e', h'⟩ := mstep_last (acc := acc) (p := p)
      rw [e] at e'
      cases e'
      rcases h' with h' | ⟨l2, e2, h2⟩
      · omega
      · have := hl p List.mem_cons_self l2 e2
        omega
theorem merged_cov (ps : List Spn) (n : Int) : covered (merged ps) n = covered ps n := by
  unfold merged mergeL
  rw [foldl_mstep_cov n _ _ (sortP_asc ps) (by simp)]
  show (false || covered (sortP ps) n) = _
  rw [Bool.false_or]
  unfold covered
  rw [Bool.eq_iff_iff, List.any_eq_true, List.any_eq_true]
  exact ⟨fun ⟨x, hx, h⟩ => ⟨x, (sortP_perm ps).mem_iff.mp hx, h⟩, fun ⟨x, hx, h⟩ => ⟨x, (sortP_perm ps).mem_iff.mpr hx, h⟩⟩
/-- every end is one of the ends that went in -/
theorem mstep_mem {P : Int → Prop} {acc : List Spn} {p : Spn} (ha : ∀ q ∈ acc, P q.1 ∧ P q.2) (hp : P p.1 ∧ P p.2) : ∀ q ∈ mstep acc p, P q.1 ∧ P q.2 := by
  intro q hq
  unfold mstep at hq
  split at hq
  · rcases List.mem_append.mp hq with h | h
    · exact ha q h
    · rw [List.mem_singleton] at h; subst h; exact hp
  · rename_i l hl
    have hlm : l ∈ acc := List.mem_of_getLast? hl
    split at hq
    · rcases List.mem_append.mp hq with h | h
      · exact ha q (List.dropLast_subset _ h)
      · rw [List.mem_singleton] at h; subst h
        refine ⟨(ha l hlm).1, ?_⟩
        show P (if l.2 > p.2 then l.2 else p.2)
        split
        · exact (ha l hlm).2
        · exact hp.2
    · rcases List.mem_append.mp hq with h | h
      · exact ha q h
      · rw [List.mem_singleton] at h; subst h; exact hp
theorem mstep_len {acc : List Spn} {p : Spn} : (mstep acc p).length ≤ acc.length + 1 := by
  unfold mstep
  split
  · simp
  · split
    · rw [List.length_append, List.length_dropLast, List.length_singleton]; omega
    · simp
theorem foldl_mstep_mem {P : Int → Prop} : ∀ (ps acc : List Spn), (∀ q ∈ acc, P q.1 ∧ P q.2) → (∀ q ∈ ps, P q.1 ∧ P q.2) → ∀ q ∈ ps.foldl mstep acc, P q.1 ∧ P q.2
  | [], _, ha, _ => ha
  | p :: r, acc, ha, hp => by
    rw [List.foldl_cons]
    exact foldl_mstep_mem r _ (mstep_mem ha (hp p List.mem_cons_self)) fun q hq => hp q (List.mem_cons_of_mem _ hq)
theorem foldl_mstep_len : ∀ (ps acc : List Spn), (ps.foldl mstep acc).length ≤ acc.length + ps.length
  | [], acc => by simp
  | p :: r, acc => by
    rw [List.foldl_cons]
    have h1 := foldl_mstep_len r (mstep acc p)
    have h2 := mstep_len (acc := acc) (p := p)
    rw [List.length_cons]; omega
theorem merged_mem {P : Int → Prop} {ps : List Spn} (h : ∀ q ∈ ps, P q.1 ∧ P q.2) : ∀ q ∈ merged ps, P q.1 ∧ P q.2 :=
  foldl_mstep_mem _ [] (by simp) fun q hq => h q ((sortP_perm ps).mem_iff.mp hq)
theorem merged_len (ps : List Spn) : (merged ps).length ≤ ps.length := by
  have h := foldl_mstep_len (sortP ps) []
  rw [(sortP_perm ps).length_eq] at h
  simpa [merged, mergeL] using h
theorem mergeL_len (ps : List Spn) : (mergeL ps).length ≤ ps.length := by
  have h := foldl_mstep_len ps []
  simpa [mergeL] using h
/-- merged spans are not empty, if what went in is not -/
theorem mstep_pos {acc : List Spn} {p : Spn} (ha : ∀ q ∈ acc, q.1 < q.2) (hp : p.1 < p.2) : ∀ q ∈ mstep acc p, q.1 < q.2 := by
  intro q hq
  unfold mstep at hq
  split at hq
  · rcases List.mem_append.mp hq with h | h
    · exact ha q h
    · rw [List.mem_singleton] at h; subst h; exact hp
  · rename_i l hl
    have hlm : l ∈ acc := List.mem_of_getLast? hl
    have := ha l hlm
    split at hq
    · rcases List.mem_append.mp hq with h | h
      · exact ha q (List.dropLast_subset _ h)
      · rw [List.mem_singleton] at h; subst h
        show l.1 < (if l.2 > p.2 then l.2 else p.2)
        split <;> omega
    · rcases List.mem_append.mp hq with h | h
      · exact ha q h
      · rw [List.mem_singleton] at h; subst h; exact hp
theorem foldl_mstep_pos : ∀ (ps acc : List Spn), (∀ q ∈ acc, q.1 < q.2) → (∀ q ∈ ps, q.1 < q.2) → ∀ q ∈ ps.foldl mstep acc, q.1 < q.2
  | [], _, ha, _ => ha
  | p :: r, acc, ha, hp => by
    rw [List.foldl_cons]
    exact foldl_mstep_pos r _ (mstep_pos ha (hp p List.mem_cons_self)) fun q hq => hp q (List.mem_cons_of_mem _ hq)
theorem merged_pos {ps : List Spn} (h : ∀ q ∈ ps, q.1 < q.2) : ∀ q ∈ merged ps, q.1 < q.2 :=
  foldl_mstep_pos _ [] (by simp) fun q hq => h q ((sortP_perm ps).mem_iff.mp hq)

/-! ### combinations -/
inductive Wd where | or | and | less
  deriving DecidableEq
def wanted : Wd → Bool → Bool → Bool
  | .or, a, b => a || b
  | .and, a, b => a && b
  | .less, a, b => a && !b
theorem wanted_ff (w : Wd) : wanted w false false = false := by cases w <;> rfl
def endsOf (s : List Spn) : List Int := sortU (s.flatMap fun p => [p.1, p.2])
def combined (s t : List Spn) (w : Wd) : List Spn := merged ((gaps (endsOf (s ++ t))).filter fun p => wanted w (covered s p.1) (covered t p.1))
theorem mem_endsOf {s : List Spn} {k : Int} : k ∈ endsOf s ↔ ∃ p ∈ s, k = p.1 ∨ k = p.2 := by
  unfold endsOf
  rw [mem_sortU, List.mem_flatMap]
  simp
theorem inS_gap {p q : Spn} {y : Int} (h1 : q.1 ≤ y) (h2 : y < q.2) (ha : p.1 ≤ q.1 ∨ q.2 ≤ p.1) (hb : p.2 ≤ q.1 ∨ q.2 ≤ p.2) : inS p y = inS p q.1 := by
  unfold inS
  rw [Bool.eq_iff_iff]
  simp only [Bool.and_eq_true, decide_eq_true_eq]
  omega
theorem covered_gap {s : List Spn} {q : Spn} {y : Int} {l : List Int} (hs : ∀ p ∈ s, p.1 ∈ l ∧ p.2 ∈ l) (hl : l.Pairwise (· < ·)) (hq : q ∈ gaps l) (h1 : q.1 ≤ y) (h2 : y < q.2) : covered s y = covered s q.1 := by
  have g := (gaps_lt hl hq).2
  unfold covered
  rw [Bool.eq_iff_iff, List.any_eq_true, List.any_eq_true]
  constructor
  · rintro ⟨p, hp, h⟩
    exact ⟨p, hp, by rw [← inS_gap h1 h2 (g _ (hs p hp).1) (g _ (hs p hp).2)]; exact h⟩
  · rintro ⟨p, hp, h⟩
    exact ⟨p, hp, by rw [inS_gap h1 h2 (g _ (hs p hp).1) (g _ (hs p hp).2)]; exact h⟩
theorem covered_out {s : List Spn} {y : Int} {l : List Int} (hs : ∀ p ∈ s, p.1 ∈ l ∧ p.2 ∈ l) (h : ¬ ((∃ k ∈ l, k ≤ y) ∧ ∃ k ∈ l, y < k)) : covered s y = false := by
  unfold covered
  rw [List.any_eq_false]
  intro p hp hc
  unfold inS at hc
  simp only [Bool.and_eq_true, decide_eq_true_eq] at hc
  exact h ⟨⟨p.1, (hs p hp).1, hc.1⟩, ⟨p.2, (hs p hp).2, hc.2⟩⟩
theorem combined_cov (s t : List Spn) (w : Wd) (y : Int) : covered (combined s t w) y = wanted w (covered s y) (covered t y) := by
  unfold combined
  rw [merged_cov]
  have hl : (endsOf (s ++ t)).Pairwise (· < ·) := asc_sortU
  have hs : ∀ p ∈ s, p.1 ∈ endsOf (s ++ t) ∧ p.2 ∈ endsOf (s ++ t) := fun p hp => ⟨mem_endsOf.mpr ⟨p, List.mem_append_left _ hp, .inl rfl⟩, mem_endsOf.mpr ⟨p, List.mem_append_left _ hp, .inr rfl⟩⟩
  have ht : ∀ p ∈ t, p.1 ∈ endsOf (s ++ t) ∧ p.2 ∈ endsOf (s ++ t) := fun p hp => ⟨mem_endsOf.mpr ⟨p, List.mem_append_right _ hp, .inl rfl⟩, mem_endsOf.mpr ⟨p, List.mem_append_right _ hp, .inr rfl⟩⟩
  rw [Bool.eq_iff_iff]
  constructor
  · intro h
    unfold covered at h
    rw [List.any_eq_true] at h
    obtain ⟨q, hq, hin⟩ := h
    rw [List.mem_filter] at hq
    unfold inS at hin
    simp only [Bool.and_eq_true, decide_eq_true_eq] at hin
    rw [covered_gap hs hl hq.1 hin.1 hin.2, covered_gap ht hl hq.1 hin.1 hin.2]
    exact hq.2
  · intro h
    by_cases hz : (∃ k ∈ endsOf (s ++ t), k ≤ y) ∧ ∃ k ∈ endsOf (s ++ t), y < k
    · obtain ⟨q, hq, h1, h2⟩ := gaps_has hl hz.1 hz.2
      rw [covered_gap hs hl hq h1 h2, covered_gap ht hl hq h1 h2] at h
      unfold covered
      rw [List.any_eq_true]
      exact ⟨q, List.mem_filter.mpr ⟨hq, h⟩, by unfold inS; simp [h1, h2]⟩
    · rw [covered_out hs hz, covered_out ht hz, wanted_ff] at h
      cases h
theorem combined_pos (s t : List Spn) (w : Wd) : ∀ q ∈ combined s t w, q.1 < q.2 :=
  merged_pos fun q hq => (gaps_lt asc_sortU (List.mem_filter.mp hq).1).1

/-! ### slabs -/
def atX (s : Slb) (x : Int) : Bool := decide (s.1 ≤ x) && decide (x < s.2.1)
def spansAt : Frm → Int → List Spn
  | [], _ => []
  | s :: r, x => if atX s x = true then s.2.2 else spansAt r x
theorem spansAt_cons (s : Slb) (r : Frm) (x : Int) : spansAt (s :: r) x = if atX s x = true then s.2.2 else spansAt r x := rfl
def tstep (acc : Frm) (s : Slb) : Frm :=
  match acc.getLast? with
  | none => if s.2.2 = [] then acc else acc ++ [s]
  | some l => if l.2.1 = s.1 ∧ l.2.2 = s.2.2 then acc.dropLast ++ [(l.1, s.2.1, s.2.2)] else if s.2.2 = [] then acc else acc ++ [s]
def tidy (f : Frm) : Frm := f.foldl tstep []
def cutsOf (f : Frm) : List Int := sortU (f.flatMap fun s => [s.1, s.2.1])
def mixed (f g : Frm) (w : Wd) : Frm := tidy ((gaps (cutsOf (f ++ g))).map fun p => (p.1, p.2, combined (spansAt f p.1) (spansAt g p.1) w))
abbrev Bx := Int × Int × Int × Int
def inX (b : Bx) (a : Int) : Bool := decide (b.1 ≤ a) && decide (a < b.2.2.1)
def slabsOf (bs : List Bx) : Frm :=
  tidy ((gaps (sortU (bs.flatMap fun b => [b.1, b.2.2.1]))).map fun p => (p.1, p.2, merged ((bs.filter fun b => inX b p.1).map fun b => (b.2.1, b.2.2.2))))
def cov (f : Frm) (x y : Int) : Bool := covered (spansAt f x) y
theorem spansAt_append : ∀ (f g : Frm) (x : Int), spansAt (f ++ g) x = if f.any (fun s => atX s x) = true then spansAt f x else spansAt g x
  | [], g, x => by simp
  | s :: r, g, x => by
    rw [List.cons_append, spansAt_cons, spansAt_cons, spansAt_append r g x, List.any_cons]
    cases atX s x with
    | true => simp only [Bool.true_or, if_true]
    | false => simp only [Bool.false_or, Bool.false_eq_true, if_false]
/-- slabs that ascend -/
def AscF (f : Frm) : Prop := f.Pairwise (fun s t => s.2.1 ≤ t.1) ∧ ∀ s ∈ f, s.1 < s.2.1
/-- all of acc ends at or ahead of z -/
theorem spansAt_none : ∀ {f : Frm} {x : Int}, (∀ s ∈ f, atX s x = false) → spansAt f x = []
  | [], _, _ => rfl
  | s :: r, x, h => by
    unfold spansAt
    rw [h s List.mem_cons_self]
    exact spansAt_none fun t ht => h t (List.mem_cons_of_mem _ ht)
theorem spansAt_last {f : Frm} {l : Slb} {x : Int} (h : ∀ s ∈ f, atX s x = false) : spansAt (f ++ [l]) x = if atX l x = true then l.2.2 else [] := by
  rw [spansAt_append]
  have : f.any (fun s => atX s x) = false := by
    rw [List.any_eq_false]
    intro s hs
    rw [h s hs]
    simp
  rw [this]
  simp [spansAt]
theorem atX_false {s : Slb} {x : Int} (h : s.2.1 ≤ x ∨ x < s.1) : atX s x = false := by
  unfold atX
  rw [Bool.and_eq_false_iff, decide_eq_false_iff_not, decide_eq_false_iff_not]
  omega
/-- one step of tidying: the slab lies behind all that is there -/
theorem tstep_spans {acc : Frm} {s : Slb} (ha : AscF acc) (hs : ∀ t ∈ acc, t.2.1 ≤ s.1) (hp : s.1 < s.2.1) (x : Int) :
    spansAt (tstep acc s) x = (if atX s x = true then s.2.2 else spansAt acc x) := by
  have away : atX s x = true → ∀ t ∈ acc, atX t x = false := fun h t ht => by
    unfold atX at h
    simp only [Bool.and_eq_true, decide_eq_true_eq] at h
    exact atX_false (.inl (Int.le_trans (hs t ht) h.1))
  have plain : spansAt (acc ++ [s]) x = (if atX s x = true then s.2.2 else spansAt acc x) := by
    cases h : atX s x with
    | true => rw [spansAt_last (away h), h, if_pos rfl, if_pos rfl]
    | false =>
      rw [spansAt_append]
      split
      · rfl
      · rename_i hn
        have : spansAt acc x = [] := spansAt_none fun t ht => by
          cases e : atX t x with
          | false => rfl
          | true => exact absurd (List.any_eq_true.mpr ⟨t, ht, e⟩) hn
        rw [this]
        simp [spansAt, h]
  have empty : s.2.2 = [] → spansAt acc x = (if atX s x = true then s.2.2 else spansAt acc x) := fun e => by
    cases h : atX s x with
    | true => rw [e, spansAt_none (away h)]; rfl
    | false => rfl
  unfold tstep
  split
  · split
    · rename_i e; exact empty e
    · exact plain
  · rename_i l hl
    split
    · rename_i hc
      have e := getLast?_dropLast hl
      have hlm : l ∈ acc := List.mem_of_getLast? hl
      have hlp := ha.2 l hlm
      have hd : ∀ t ∈ acc.dropLast, t.2.1 ≤ l.1 := fun t ht => by
        have hpw := ha.1
        rw [e, List.pairwise_append] at hpw
        exact hpw.2.2 t ht l List.mem_cons_self
      obtain ⟨c1, c2⟩ := hc
      -- the last one grown
      rw [spansAt_append]
      conv => rhs; rw [e, spansAt_append]
      by_cases hany : acc.dropLast.any (fun s => atX s x) = true
      · rw [if_pos hany, if_pos hany]
        obtain ⟨t, ht, hx⟩ := List.any_eq_true.mp hany
        have h1 := hd t ht
        unfold atX at hx
        simp only [Bool.and_eq_true, decide_eq_true_eq] at hx
        rw [atX_false (s := s) (x := x) (.inr (by omega))]
        simp
      · rw [if_neg hany, if_neg hany]
        unfold spansAt
        simp only [spansAt]
        show (if atX (l.1, s.2.1, s.2.2) x = true then s.2.2 else []) = (if atX s x = true then s.2.2 else if atX l x = true then l.2.2 else [])
        rw [c2]
        unfold atX
        simp only [Bool.and_eq_true, decide_eq_true_eq]
        by_cases a1 : s.1 ≤ x ∧ x < s.2.1
        · rw [if_pos a1, if_pos (by show l.1 ≤ x ∧ x < s.2.1; omega)]
        · rw [if_neg a1]
          by_cases a2 : l.1 ≤ x ∧ x < l.2.1
          · rw [if_pos a2, if_pos (by show l.1 ≤ x ∧ x < s.2.1; omega)]
          · rw [if_neg a2, if_neg (by show ¬ (l.1 ≤ x ∧ x < s.2.1); omega)]
    · split
      · rename_i e; exact empty e
      · exact plain
theorem tstep_asc {acc : Frm} {s : Slb} (ha : AscF acc) (hs : ∀ t ∈ acc, t.2.1 ≤ s.1) (hp : s.1 < s.2.1) : AscF (tstep acc s) ∧ ∀ t ∈ tstep acc s, t.2.1 ≤ s.2.1 := by
  have plain : AscF (acc ++ [s]) ∧ ∀ t ∈ acc ++ [s], t.2.1 ≤ s.2.1 := by
    refine ⟨⟨?_, fun t ht => ?_⟩, fun t ht => ?_⟩
    · rw [List.pairwise_append]
      exact ⟨ha.1, List.pairwise_singleton _ _, fun t ht u hu => by rw [List.mem_singleton] at hu; subst hu; exact hs t ht⟩
    · rcases List.mem_append.mp ht with h | h
      · exact ha.2 t h
      · rw [List.mem_singleton] at h; subst h; exact hp
    · rcases List.mem_append.mp ht with h | h
      · have := hs t h; omega
      · rw [List.mem_singleton] at h; subst h; exact Int.le_refl _
  have keep : AscF acc ∧ ∀ t ∈ acc, t.2.1 ≤ s.2.1 := ⟨ha, fun t ht => by have := hs t ht; omega⟩
  unfold tstep
  split
  · split
    · exact keep
    · exact plain
  · rename_i l hl
    split
    · rename_i hc
      have e := getLast?_dropLast hl
      have hlm : l ∈ acc := List.mem_of_getLast? hl
      have hlp := ha.2 l hlm
      have hpw := ha.1
      rw [e, List.pairwise_append] at hpw
      refine ⟨⟨?_, fun t ht => ?_⟩, fun t ht => ?_⟩
      · rw [List.pairwise_append]
        exact ⟨hpw.1, List.pairwise_singleton _ _, fun t ht u hu => by
          rw [List.mem_singleton] at hu; subst hu
          exact hpw.2.2 t ht l List.mem_cons_self⟩
      · rcases List.mem_append.mp ht with h | h
        · exact ha.2 t (List.dropLast_subset _ h)
        · rw [List.mem_singleton] at h; subst h
          show l.1 < s.2.1
          omega
      · rcases List.mem_append.mp ht with h | h
        · have := hs t (List.dropLast_subset _ h); omega
        · rw [List.mem_singleton] at h; subst h; exact Int.le_refl _
    · split
      · exact keep
      · exact plain
theorem foldl_tstep_spans (x : Int) : ∀ (f acc : Frm), AscF acc → AscF f → (∀ t ∈ acc, ∀ s ∈ f, t.2.1 ≤ s.1) →
    spansAt (f.foldl tstep acc) x = (if f.any (fun s => atX s x) = true then spansAt f x else spansAt acc x)
  | [], acc, _, _, _ => by simp
  | s :: r, acc, ha, hf, h => by
    have hp := List.pairwise_cons.mp hf.1
    have hs := hf.2 s List.mem_cons_self
    have ta := tstep_asc ha (fun t ht => h t ht s List.mem_cons_self) hs
    rw [List.foldl_cons, foldl_tstep_spans x r _ ta.1 ⟨hp.2, fun t ht => hf.2 t (List.mem_cons_of_mem _ ht)⟩ (fun t ht u hu => by
      have a := ta.2 t ht
      have b := hp.1 u hu
      omega), tstep_spans ha (fun t ht => h t ht s List.mem_cons_self) hs, List.any_cons]
    rw [spansAt_cons]
    cases hx : atX s x with
    | false => simp only [Bool.false_or, Bool.false_eq_true, if_false]
    | true =>
      have : r.any (fun s => atX s x) = false := by
        rw [List.any_eq_false]
        intro t ht e
        unfold atX at hx e
        simp only [Bool.and_eq_true, decide_eq_true_eq] at hx e
        have b := hp.1 t ht
        omega
      rw [this]
      simp
theorem tidy_spans {f : Frm} (h : AscF f) (x : Int) : spansAt (tidy f) x = spansAt f x := by
  unfold tidy
  rw [foldl_tstep_spans x f [] ⟨List.Pairwise.nil, by simp⟩ h (by simp)]
  split
  · rfl
  · rename_i hn
    refine (spansAt_none fun t ht => ?_).symm
    cases e : atX t x with
    | false => rfl
    | true => exact absurd (List.any_eq_true.mpr ⟨t, ht, e⟩) hn
/-- what stands in a tidied form -/
theorem tstep_all {P : Slb → Prop} {acc : Frm} {s : Slb} (ha : ∀ t ∈ acc, P t) (hs : s.2.2 ≠ [] → P s) (hg : ∀ l ∈ acc, l.2.1 = s.1 → l.2.2 = s.2.2 → P (l.1, s.2.1, s.2.2)) : ∀ t ∈ tstep acc s, P t := by
  intro t ht
  unfold tstep at ht
  split at ht
  · split at ht
    · exact ha t ht
    · rename_i hn
      rcases List.mem_append.mp ht with h | h
      · exact ha t h
      · rw [List.mem_singleton] at h; subst h; exact hs hn
  · rename_i l hl
    split at ht
    · rename_i hc
      rcases List.mem_append.mp ht with h | h
      · exact ha t (List.dropLast_subset _ h)
      · rw [List.mem_singleton] at h; subst h
        exact hg l (List.mem_of_getLast? hl) hc.1 hc.2
    · split at ht
      · exact ha t ht
      · rename_i hn
        rcases List.mem_append.mp ht with h | h
        · exact ha t h
        · rw [List.mem_singleton] at h; subst h; exact hs hn
theorem tstep_len {acc : Frm} {s : Slb} : (tstep acc s).length ≤ acc.length + 1 := by
  unfold tstep
  split
  · split
    · omega
    · simp
  · split
    · rw [List.length_append, List.length_dropLast, List.length_singleton]; omega
    · split
      · omega
      · simp
theorem foldl_tstep_len : ∀ (f acc : Frm), (f.foldl tstep acc).length ≤ acc.length + f.length
  | [], acc => by simp
  | p :: r, acc => by
    rw [List.foldl_cons]
    have h1 := foldl_tstep_len r (tstep acc p)
    have h2 := tstep_len (acc := acc) (s := p)
    rw [List.length_cons]; omega
theorem tidy_len (f : Frm) : (tidy f).length ≤ f.length := by
  have h := foldl_tstep_len f []
  simpa [tidy] using h
/-- spans are not empty and lie in P; the slab itself lies in P -/
structure OkS (P : Int → Prop) (n : Nat) (s : Slb) : Prop where
  ne : s.2.2 ≠ []
  x1 : P s.1
  x2 : P s.2.1
  lt : s.1 < s.2.1
  sp : ∀ q ∈ s.2.2, P q.1 ∧ P q.2 ∧ q.1 < q.2
  ln : s.2.2.length ≤ n
theorem foldl_tstep_ok {P : Int → Prop} {n : Nat} : ∀ (f acc : Frm), (∀ t ∈ acc, OkS P n t) → (∀ s ∈ f, s.2.2 ≠ [] → OkS P n s) → (∀ s ∈ f, P s.2.1 ∧ s.1 < s.2.1) → ∀ t ∈ f.foldl tstep acc, OkS P n t
  | [], _, ha, _, _ => ha
  | s :: r, acc, ha, hf, hb => by
    rw [List.foldl_cons]
    refine foldl_tstep_ok r _ (tstep_all ha (hf s List.mem_cons_self) fun l hl h1 h2 => ?_) (fun t ht => hf t (List.mem_cons_of_mem _ ht)) fun t ht => hb t (List.mem_cons_of_mem _ ht)
    have o := ha l hl
    have b := hb s List.mem_cons_self
    have := o.lt
    exact ⟨by rw [← h2]; exact o.ne, o.x1, b.1, by show l.1 < s.2.1; omega, by rw [← h2]; exact o.sp, by rw [← h2]; exact o.ln⟩

/-! ### the pointwise law of mixed -/
theorem gapF_asc {l : List Int} (hl : l.Pairwise (· < ·)) (F : Spn → List Spn) : AscF ((gaps l).map fun p => (p.1, p.2, F p)) := by
  refine ⟨?_, fun s hs => ?_⟩
  · rw [List.pairwise_map]
    exact gaps_asc hl
  · obtain ⟨p, hp, rfl⟩ := List.mem_map.mp hs
    exact (gaps_lt hl hp).1
theorem gapF_at {l : List Int} (hl : l.Pairwise (· < ·)) (F : Spn → List Spn) {q : Spn} {x : Int} (hq : q ∈ gaps l) (h1 : q.1 ≤ x) (h2 : x < q.2) : spansAt ((gaps l).map fun p => (p.1, p.2, F p)) x = F q := by
  have asc := gaps_asc hl
  have lt : ∀ p ∈ gaps l, p.1 < p.2 := fun p hp => (gaps_lt hl hp).1
  generalize gaps l = m at *
  induction m with
  | nil => simp at hq
  | cons p r ih =>
    have hp := List.pairwise_cons.mp asc
    rw [List.map_cons]
    unfold spansAt
    rcases List.mem_cons.mp hq with rfl | hq
    · rw [if_pos (by unfold atX; simp [h1, h2])]
    · have := hp.1 q hq
      rw [if_neg (by unfold atX; simp only [Bool.and_eq_true, decide_eq_true_eq]; omega)]
      exact ih hq hp.2 fun t ht => lt t (List.mem_cons_of_mem _ ht)
theorem gapF_out {l : List Int} {F : Spn → List Spn} {x : Int} (h : ¬ ((∃ k ∈ l, k ≤ x) ∧ ∃ k ∈ l, x < k)) : spansAt ((gaps l).map fun p => (p.1, p.2, F p)) x = [] := by
  refine spansAt_none fun s hs => ?_
  obtain ⟨p, hp, rfl⟩ := List.mem_map.mp hs
  cases e : atX (p.1, p.2, F p) x with
  | false => rfl
  | true =>
    unfold atX at e
    simp only [Bool.and_eq_true, decide_eq_true_eq] at e
    exact absurd ⟨⟨p.1, (gaps_mem hp).1, e.1⟩, ⟨p.2, (gaps_mem hp).2, e.2⟩⟩ h
theorem mem_cutsOf {f : Frm} {k : Int} : k ∈ cutsOf f ↔ ∃ s ∈ f, k = s.1 ∨ k = s.2.1 := by
  unfold cutsOf
  rw [mem_sortU, List.mem_flatMap]
  simp
theorem atX_gap {s : Slb} {q : Spn} {x : Int} (h1 : q.1 ≤ x) (h2 : x < q.2) (ha : s.1 ≤ q.1 ∨ q.2 ≤ s.1) (hb : s.2.1 ≤ q.1 ∨ q.2 ≤ s.2.1) : atX s x = atX s q.1 := by
  unfold atX
  rw [Bool.eq_iff_iff]
  simp only [Bool.and_eq_true, decide_eq_true_eq]
  omega
theorem spansAt_gap {q : Spn} {x : Int} {l : List Int} (hl : l.Pairwise (· < ·)) (hq : q ∈ gaps l) (h1 : q.1 ≤ x) (h2 : x < q.2) : ∀ {f : Frm}, (∀ s ∈ f, s.1 ∈ l ∧ s.2.1 ∈ l) → spansAt f x = spansAt f q.1
  | [], _ => rfl
  | s :: r, hs => by
    have g := (gaps_lt hl hq).2
    unfold spansAt
    rw [atX_gap h1 h2 (g _ (hs s List.mem_cons_self).1) (g _ (hs s List.mem_cons_self).2), spansAt_gap hl hq h1 h2 fun t ht => hs t (List.mem_cons_of_mem _ ht)]
theorem spansAt_out {x : Int} {l : List Int} {f : Frm} (hs : ∀ s ∈ f, s.1 ∈ l ∧ s.2.1 ∈ l) (h : ¬ ((∃ k ∈ l, k ≤ x) ∧ ∃ k ∈ l, x < k)) : spansAt f x = [] :=
  spansAt_none fun s hm => by
    cases e : atX s x with
    | false => rfl
    | true =>
      unfold atX at e
      simp only [Bool.and_eq_true, decide_eq_true_eq] at e
      exact absurd ⟨⟨s.1, (hs s hm).1, e.1⟩, ⟨s.2.1, (hs s hm).2, e.2⟩⟩ h
theorem mixed_cov (f g : Frm) (w : Wd) (x y : Int) : cov (mixed f g w) x y = wanted w (cov f x y) (cov g x y) := by
  unfold cov mixed
  have hl : (cutsOf (f ++ g)).Pairwise (· < ·) := asc_sortU
  have hf : ∀ s ∈ f, s.1 ∈ cutsOf (f ++ g) ∧ s.2.1 ∈ cutsOf (f ++ g) := fun p hp => ⟨mem_cutsOf.mpr ⟨p, List.mem_append_left _ hp, .inl rfl⟩, mem_cutsOf.mpr ⟨p, List.mem_append_left _ hp, .inr rfl⟩⟩
  have hg : ∀ s ∈ g, s.1 ∈ cutsOf (f ++ g) ∧ s.2.1 ∈ cutsOf (f ++ g) := fun p hp => ⟨mem_cutsOf.mpr ⟨p, List.mem_append_right _ hp, .inl rfl⟩, mem_cutsOf.mpr ⟨p, List.mem_append_right _ hp, .inr rfl⟩⟩
  rw [tidy_spans (gapF_asc hl fun p => combined (spansAt f p.1) (spansAt g p.1) w)]
  by_cases hz : (∃ k ∈ cutsOf (f ++ g), k ≤ x) ∧ ∃ k ∈ cutsOf (f ++ g), x < k
  · obtain ⟨q, hq, h1, h2⟩ := gaps_has hl hz.1 hz.2
    rw [gapF_at hl (fun p => combined (spansAt f p.1) (spansAt g p.1) w) hq h1 h2, combined_cov, spansAt_gap hl hq h1 h2 hf, spansAt_gap hl hq h1 h2 hg]
  · rw [gapF_out hz, spansAt_out hf hz, spansAt_out hg hz]
    show covered [] y = _
    exact (wanted_ff w).symm
/-- a form out of mixed: its slabs are not empty -/
theorem mixed_ok {P : Int → Prop} {n : Nat} {f g : Frm} {w : Wd} (hP : ∀ k ∈ cutsOf (f ++ g), P k) (hS : ∀ x, (∀ q ∈ combined (spansAt f x) (spansAt g x) w, P q.1 ∧ P q.2) ∧ (combined (spansAt f x) (spansAt g x) w).length ≤ n) : ∀ t ∈ mixed f g w, OkS P n t := by
  refine foldl_tstep_ok _ [] (by simp) (fun s hs hn => ?_) fun s hs => ?_
  · obtain ⟨p, hp, rfl⟩ := List.mem_map.mp hs
    exact ⟨hn, hP _ (gaps_mem hp).1, hP _ (gaps_mem hp).2, (gaps_lt asc_sortU hp).1, fun q hq => ⟨((hS p.1).1 q hq).1, ((hS p.1).1 q hq).2, combined_pos _ _ _ q hq⟩, (hS p.1).2⟩
  · obtain ⟨p, hp, rfl⟩ := List.mem_map.mp hs
    exact ⟨hP _ (gaps_mem hp).2, (gaps_lt asc_sortU hp).1⟩
theorem le_sum {n : Nat} : ∀ {l : List Nat}, n ∈ l → n ≤ l.sum
  | [], h => by simp at h
  | x :: r, h => by
    rw [List.sum_cons]
    rcases List.mem_cons.mp h with rfl | h
    · omega
    · have := le_sum h; omega
theorem mixed_nil {f g : Frm} {w : Wd} (h : ∀ x y, cov (mixed f g w) x y = false) : mixed f g w = [] := by
  cases e : mixed f g w with
  | nil => rfl
  | cons s r =>
    exfalso
    have ok : ∀ t ∈ mixed f g w, OkS (fun _ => True) (mixed f g w).length t ∨ True := fun _ _ => .inr trivial
    have o : s.2.2 ≠ [] ∧ s.1 < s.2.1 ∧ ∀ q ∈ s.2.2, q.1 < q.2 := by
      have := foldl_tstep_ok (P := fun _ => True) (n := ((gaps (cutsOf (f ++ g))).map fun p => (combined (spansAt f p.1) (spansAt g p.1) w).length).sum) ((gaps (cutsOf (f ++ g))).map fun p => (p.1, p.2, combined (spansAt f p.1) (spansAt g p.1) w)) [] (by simp) (fun s hs hn => ?_) (fun s hs => ?_) s (by show s ∈ mixed f g w; rw [e]; exact List.mem_cons_self)
      · exact ⟨this.ne, this.lt, fun q hq => (this.sp q hq).2.2⟩
      · obtain ⟨p, hp, rfl⟩ := List.mem_map.mp hs
        refine ⟨hn, trivial, trivial, (gaps_lt asc_sortU hp).1, fun q hq => ⟨trivial, trivial, combined_pos _ _ _ q hq⟩, ?_⟩
        exact le_sum (List.mem_map.mpr ⟨p, hp, rfl⟩)
      · obtain ⟨p, hp, rfl⟩ := List.mem_map.mp hs
        exact ⟨trivial, (gaps_lt asc_sortU hp).1⟩
    obtain ⟨o1, o2, o3⟩ := o
    cases e2 : s.2.2 with
    | nil => exact o1 e2
    | cons q r2 =>
      have hq := o3 q (by rw [e2]; exact List.mem_cons_self)
      have hc := h s.1 q.1
      unfold cov at hc
      rw [e] at hc
      unfold spansAt at hc
      rw [if_pos (by unfold atX; simp [o2]), e2] at hc
      unfold covered at hc
      rw [List.any_cons] at hc
      unfold inS at hc
      simp [hq] at hc

/-! ### regions -/
def has (r : Rgn) (x y : Int) : Bool := cov r.1 x y != r.2
def united (r s : Rgn) : Rgn :=
  if r.2 = true then (if s.2 = true then (mixed r.1 s.1 .and, true) else (mixed r.1 s.1 .less, true))
  else if s.2 = true then (mixed s.1 r.1 .less, true) else (mixed r.1 s.1 .or, false)
def turned (r : Rgn) : Rgn := (r.1, !r.2)
def minus (r s : Rgn) : Rgn := turned (united (turned r) s)
def within (r s : Rgn) : Bool := let b := united (turned r) s; decide (b.1 = []) && b.2
theorem united_has (r s : Rgn) (x y : Int) : has (united r s) x y = (has r x y || has s x y) := by
  obtain ⟨f, a⟩ := r
  obtain ⟨g, b⟩ := s
  unfold united has
  cases a <;> cases b <;> simp only [Bool.false_eq_true, if_true, if_false, mixed_cov, wanted] <;> cases cov f x y <;> cases cov g x y <;> rfl
theorem turned_has (r : Rgn) (x y : Int) : has (turned r) x y = !has r x y := by
  unfold turned has
  cases cov r.1 x y <;> cases r.2 <;> rfl
theorem minus_has (r s : Rgn) (x y : Int) : has (minus r s) x y = (has r x y && !has s x y) := by
  unfold minus
  rw [turned_has, united_has, turned_has]
  cases has r x y <;> cases has s x y <;> rfl
/-- beyond all slabs there is nothing -/
theorem cov_far (f : Frm) : ∃ x, ∀ y, cov f x y = false := by
  have : ∃ x, ∀ s ∈ f, s.2.1 ≤ x := by
    induction f with
    | nil => exact ⟨0, by simp⟩
    | cons s r ih =>
      obtain ⟨x, hx⟩ := ih
      refine ⟨max x s.2.1, fun t ht => ?_⟩
      rcases List.mem_cons.mp ht with rfl | ht
      · omega
      · have := hx t ht; omega
  obtain ⟨x, hx⟩ := this
  refine ⟨x, fun y => ?_⟩
  unfold cov
  rw [spansAt_none fun s hs => atX_false (.inl (hx s hs))]
  rfl
theorem united_form (r s : Rgn) : ∃ f g w, (united r s).1 = mixed f g w := by
  unfold united
  split <;> split <;> exact ⟨_, _, _, rfl⟩
theorem within_iff (r s : Rgn) : within r s = true ↔ ∀ x y, has r x y = true → has s x y = true := by
  unfold within
  constructor
  · intro h x y hr
    simp only [Bool.and_eq_true, decide_eq_true_eq] at h
    have e := united_has (turned r) s x y
    rw [turned_has, hr] at e
    have e2 : has (united (turned r) s) x y = true := by
      unfold has
      rw [h.1, h.2]
      rfl
    rw [e2] at e
    simpa using e.symm
  · intro h
    have all : ∀ x y, has (united (turned r) s) x y = true := fun x y => by
      rw [united_has, turned_has]
      cases hr : has r x y with
      | false => rfl
      | true => rw [h x y hr]; rfl
    have out : (united (turned r) s).2 = true := by
      obtain ⟨x, hx⟩ := cov_far (united (turned r) s).1
      have := all x 0
      unfold has at this
      rw [hx 0] at this
      simpa using this
    have nil : (united (turned r) s).1 = [] := by
      obtain ⟨f, g, w, e⟩ := united_form (turned r) s
      rw [e]
      refine mixed_nil fun x y => ?_
      have := all x y
      unfold has at this
      rw [out, e] at this
      simpa using this
    simp only [Bool.and_eq_true, decide_eq_true_eq]
    exact ⟨nil, out⟩
theorem within_minus {k r b : Rgn} (h : within k b = true) : within (minus k r) b = true := by
  rw [within_iff] at h ⊢
  intro x y hx
  rw [minus_has] at hx
  simp only [Bool.and_eq_true] at hx
  exact h x y hx.1

/-! ### bounds: all ends within 0 .. 7 -/
abbrev B7 (k : Int) : Prop := 0 ≤ k ∧ k ≤ 7
structure OkF (f : Frm) : Prop where
  ln : f.length ≤ 8
  sl : ∀ t ∈ f, OkS B7 8 t
theorem asc8 {l : List Int} (h : l.Pairwise (· < ·)) (hb : ∀ k ∈ l, B7 k) : l.length ≤ 8 := by
  rcases asc_len (lo := 0) (hi := 7) h hb with e | e
  · omega
  · rw [e]; simp
theorem OkF.nil : OkF [] := ⟨by simp, by simp⟩
theorem OkF.spans {f : Frm} (h : OkF f) (x : Int) : (∀ q ∈ spansAt f x, B7 q.1 ∧ B7 q.2 ∧ q.1 < q.2) ∧ (spansAt f x).length ≤ 8 := by
  have hs := h.sl
  clear h
  induction f with
  | nil => simp [spansAt]
  | cons s r ih =>
    unfold spansAt
    split
    · exact ⟨(hs s List.mem_cons_self).sp, (hs s List.mem_cons_self).ln⟩
    · exact ih fun t ht => hs t (List.mem_cons_of_mem _ ht)
theorem combined_b7 {s t : List Spn} {w : Wd} (hs : ∀ q ∈ s, B7 q.1 ∧ B7 q.2 ∧ q.1 < q.2) (ht : ∀ q ∈ t, B7 q.1 ∧ B7 q.2 ∧ q.1 < q.2) : (∀ q ∈ combined s t w, B7 q.1 ∧ B7 q.2) ∧ (combined s t w).length ≤ 8 := by
  have hb : ∀ k ∈ endsOf (s ++ t), B7 k := fun k hk => by
    obtain ⟨p, hp, e⟩ := mem_endsOf.mp hk
    have : B7 p.1 ∧ B7 p.2 := by
      rcases List.mem_append.mp hp with h | h
      · exact ⟨(hs p h).1, (hs p h).2.1⟩
      · exact ⟨(ht p h).1, (ht p h).2.1⟩
    rcases e with rfl | rfl
    · exact this.1
    · exact this.2
  refine ⟨merged_mem fun q hq => ?_, ?_⟩
  · have := gaps_mem (List.mem_filter.mp hq).1
    exact ⟨hb _ this.1, hb _ this.2⟩
  · have h1 := merged_len ((gaps (endsOf (s ++ t))).filter fun p => wanted w (covered s p.1) (covered t p.1))
    have h2 := List.length_filter_le (fun p => wanted w (covered s p.1) (covered t p.1)) (gaps (endsOf (s ++ t)))
    have h3 := gaps_len (endsOf (s ++ t))
    have h4 := asc8 (l := endsOf (s ++ t)) asc_sortU hb
    unfold combined
    omega
theorem cuts_b7 {f g : Frm} (hf : OkF f) (hg : OkF g) : ∀ k ∈ cutsOf (f ++ g), B7 k := fun k hk => by
  obtain ⟨s, hs, e⟩ := mem_cutsOf.mp hk
  have o : OkS B7 8 s := by
    rcases List.mem_append.mp hs with h | h
    · exact hf.sl s h
    · exact hg.sl s h
  rcases e with rfl | rfl
  · exact o.x1
  · exact o.x2
theorem OkF.mixed {f g : Frm} {w : Wd} (hf : OkF f) (hg : OkF g) : OkF (BX.mixed f g w) := by
  refine ⟨?_, mixed_ok (cuts_b7 hf hg) fun x => combined_b7 (hf.spans x).1 (hg.spans x).1⟩
  have h1 := tidy_len ((gaps (cutsOf (f ++ g))).map fun p => (p.1, p.2, combined (spansAt f p.1) (spansAt g p.1) w))
  rw [List.length_map] at h1
  have h2 := gaps_len (cutsOf (f ++ g))
  have h3 := asc8 (l := cutsOf (f ++ g)) asc_sortU (cuts_b7 hf hg)
  unfold BX.mixed
  omega
theorem OkF.united {r s : Rgn} (hr : OkF r.1) (hs : OkF s.1) : OkF (BX.united r s).1 := by
  unfold BX.united
  split <;> split
  · exact hr.mixed hs
  · exact hr.mixed hs
  · exact hs.mixed hr
  · exact hr.mixed hs
theorem OkF.minus {r s : Rgn} (hr : OkF r.1) (hs : OkF s.1) : OkF (BX.minus r s).1 := OkF.united (r := turned r) hr hs
/-- the box of the law -/
structure OkB (b : Bx) : Prop where
  x1 : B7 b.1
  y1 : B7 b.2.1
  x2 : B7 b.2.2.1
  y2 : B7 b.2.2.2
  ltx : b.1 < b.2.2.1
  lty : b.2.1 < b.2.2.2
theorem OkF.slabsOf {b : Bx} (h : OkB b) : OkF (BX.slabsOf [b]) := by
  have hb : ∀ k ∈ sortU ([b].flatMap fun b => [b.1, b.2.2.1]), B7 k := fun k hk => by
    rw [mem_sortU] at hk
    simp at hk
    rcases hk with rfl | rfl
    · exact h.x1
    · exact h.x2
  have hm : ∀ a, (∀ q ∈ merged (([b].filter fun b => inX b a).map fun b => (b.2.1, b.2.2.2)), B7 q.1 ∧ B7 q.2) ∧ (∀ q ∈ merged (([b].filter fun b => inX b a).map fun b => (b.2.1, b.2.2.2)), q.1 < q.2) ∧ (merged (([b].filter fun b => inX b a).map fun b => (b.2.1, b.2.2.2))).length ≤ 8 := fun a => by
    have hq : ∀ q ∈ ([b].filter fun b => inX b a).map fun b => (b.2.1, b.2.2.2), q = (b.2.1, b.2.2.2) := fun q hq => by
      obtain ⟨c, hc, rfl⟩ := List.mem_map.mp hq
      have := (List.mem_filter.mp hc).1
      rw [List.mem_singleton] at this
      subst this
      rfl
    refine ⟨merged_mem fun q h' => ?_, merged_pos fun q h' => ?_, ?_⟩
    · rw [hq q h']; exact ⟨h.y1, h.y2⟩
    · rw [hq q h']; exact h.lty
    · have h1 := merged_len (([b].filter fun b => inX b a).map fun b => (b.2.1, b.2.2.2))
      have h2 := List.length_filter_le (fun b => inX b a) [b]
      rw [List.length_map] at h1
      simp at h2
      omega
  refine ⟨?_, foldl_tstep_ok _ [] (by simp) (fun s hs hn => ?_) fun s hs => ?_⟩
  · have h1 := tidy_len ((gaps (sortU ([b].flatMap fun b => [b.1, b.2.2.1]))).map fun p => (p.1, p.2, merged (([b].filter fun b => inX b p.1).map fun b => (b.2.1, b.2.2.2))))
    rw [List.length_map] at h1
    have h2 := gaps_len (sortU ([b].flatMap fun b => [b.1, b.2.2.1]))
    have h3 := asc8 (l := sortU ([b].flatMap fun b => [b.1, b.2.2.1])) asc_sortU hb
    unfold BX.slabsOf
    omega
  · obtain ⟨p, hp, rfl⟩ := List.mem_map.mp hs
    exact ⟨hn, hb _ (gaps_mem hp).1, hb _ (gaps_mem hp).2, (gaps_lt asc_sortU hp).1, fun q hq => ⟨((hm p.1).1 q hq).1, ((hm p.1).1 q hq).2, (hm p.1).2.1 q hq⟩, (hm p.1).2.2⟩
  · obtain ⟨p, hp, rfl⟩ := List.mem_map.mp hs
    exact ⟨hb _ (gaps_mem hp).2, (gaps_lt asc_sortU hp).1⟩
end BX
end
section
set_option Elab.async false
set_option linter.all false
set_option maxRecDepth 100000
set_option maxHeartbeats 4000000
/-! The text by places; forms as data. -/
namespace BX
open PySem L2
def topS (i : Nat) : Stmt := PySem.Challenge.pw_boxregions_k86_whole_trials_leave_no_tra.main.body.getD i (.Pass ⟨0, 0, 0, 0⟩)

/-! ### forms as data -/
def spanD (p : Spn) : PyData := .tuple [.int p.1, .int p.2]
def spansD (s : List Spn) : PyData := .tuple (s.map spanD)
def slabD (t : Slb) : PyData := .tuple [.int t.1, .int t.2.1, spansD t.2.2]
def formD (f : Frm) : PyData := .tuple (f.map slabD)
theorem span_eqv (p q : Spn) : PyData.eqv (spanD p) (spanD q) = decide (p = q) := by
  obtain ⟨a, b⟩ := p
  obtain ⟨c, d⟩ := q
  show ((a == c) && ((b == d) && true)) = _
  rw [Bool.eq_iff_iff]
  simp [Prod.ext_iff]
theorem spans_eqvAll : ∀ s t : List Spn, PyData.eqvAll (s.map spanD) (t.map spanD) = decide (s = t)
  | [], [] => rfl
  | [], _ :: _ => rfl
  | _ :: _, [] => rfl
  | p :: s, q :: t => by
    show (PyData.eqv (spanD p) (spanD q) && PyData.eqvAll (s.map spanD) (t.map spanD)) = _
    rw [span_eqv, spans_eqvAll s t, Bool.eq_iff_iff]
    simp
theorem spans_eqv (s t : List Spn) : PyData.eqv (spansD s) (spansD t) = decide (s = t) := spans_eqvAll s t
theorem slab_eqv (p q : Slb) : PyData.eqv (slabD p) (slabD q) = decide (p = q) := by
  obtain ⟨a, b, s⟩ := p
  obtain ⟨c, d, t⟩ := q
  show ((a == c) && ((b == d) && (PyData.eqv (spansD s) (spansD t) && true))) = _
  rw [spans_eqv, Bool.eq_iff_iff]
  simp [Prod.ext_iff]
theorem form_eqvAll : ∀ f g : Frm, PyData.eqvAll (f.map slabD) (g.map slabD) = decide (f = g)
  | [], [] => rfl
  | [], _ :: _ => rfl
  | _ :: _, [] => rfl
  | p :: s, q :: t => by
    show (PyData.eqv (slabD p) (slabD q) && PyData.eqvAll (s.map slabD) (t.map slabD)) = _
    rw [slab_eqv, form_eqvAll s t, Bool.eq_iff_iff]
    simp
theorem form_eqv (f g : Frm) : PyData.eqv (formD f) (formD g) = decide (f = g) := form_eqvAll f g
theorem spans_can : ∀ s : List Spn, PyData.canLayAll0 (s.map spanD) = true
  | [] => rfl
  | p :: s => by
    show (PyData.canLay0 (spanD p) && PyData.canLayAll0 (s.map spanD)) = true
    rw [spans_can s]; rfl
theorem form_can : ∀ f : Frm, PyData.canLayAll0 (f.map slabD) = true
  | [] => rfl
  | p :: s => by
    show (PyData.canLay0 (slabD p) && PyData.canLayAll0 (s.map slabD)) = true
    rw [form_can s]
    show (PyData.canLayAll0 [.int p.1, .int p.2.1, spansD p.2.2] && true) = true
    show ((true && (true && (PyData.canLayAll0 (p.2.2.map spanD) && true))) && true) = true
    rw [spans_can]; rfl
theorem spans_depth : ∀ s : List Spn, PyData.depthAll (s.map spanD) ≤ 1
  | [] => Nat.zero_le _
  | p :: s => by
    show max (PyData.depth (spanD p)) (PyData.depthAll (s.map spanD)) ≤ 1
    have := spans_depth s
    have h : PyData.depth (spanD p) = 1 := rfl
    omega
theorem form_depth : ∀ f : Frm, PyData.depthAll (f.map slabD) ≤ 3
  | [] => Nat.zero_le _
  | p :: s => by
    show max (PyData.depth (slabD p)) (PyData.depthAll (s.map slabD)) ≤ 3
    have := form_depth s
    have h : PyData.depth (slabD p) ≤ 3 := by
      show max 0 (max 0 (max (PyData.depthAll (p.2.2.map spanD) + 1) 0)) + 1 ≤ 3
      have := spans_depth p.2.2
      omega
    omega
theorem spans_shaped (s : List Spn) : SeqAt.shaped (spansD s) = true := by
  unfold SeqAt.shaped
  have h1 : PyData.canLay0 (spansD s) = true := spans_can s
  have h2 : PyData.depth (spansD s) ≤ 64 := by
    show PyData.depthAll (s.map spanD) + 1 ≤ 64
    have := spans_depth s; omega
  rw [h1, decide_eq_true h2]; rfl
theorem form_shaped (f : Frm) : SeqAt.shaped (formD f) = true := by
  unfold SeqAt.shaped
  have h1 : PyData.canLay0 (formD f) = true := form_can f
  have h2 : PyData.depth (formD f) ≤ 64 := by
    show PyData.depthAll (f.map slabD) + 1 ≤ 64
    have := form_depth f; omega
  rw [h1, decide_eq_true h2]; rfl
/-- a list of spans, of slabs -/
theorem lspans_shaped (s : List Spn) : SeqAt.shaped (.list (s.map spanD)) = true := by
  unfold SeqAt.shaped
  have h1 : PyData.canLay0 (.list (s.map spanD)) = true := spans_can s
  have h2 : PyData.depth (.list (s.map spanD)) ≤ 64 := by
    show PyData.depthAll (s.map spanD) + 1 ≤ 64
    have := spans_depth s; omega
  rw [h1, decide_eq_true h2]; rfl
theorem lform_shaped (s : Frm) : SeqAt.shaped (.list (s.map slabD)) = true := by
  unfold SeqAt.shaped
  have h1 : PyData.canLay0 (.list (s.map slabD)) = true := form_can s
  have h2 : PyData.depth (.list (s.map slabD)) ≤ 64 := by
    show PyData.depthAll (s.map slabD) + 1 ≤ 64
    have := form_depth s; omega
  rw [h1, decide_eq_true h2]; rfl
theorem lspans_nil (s : List Spn) : PyData.eqv (.list (s.map spanD)) (.list []) = decide (s = []) := spans_eqvAll s []
theorem lform_nil (s : Frm) : PyData.eqv (.list (s.map slabD)) (.list []) = decide (s = []) := form_eqvAll s []

/-! ### data that stays -/
/-- tuples and locked things stay -/
structure TK (H H' : Hp) : Prop where
  tup : ∀ b xs, H b = some (.tup xs) → H' b = some (.tup xs)
  frz : ∀ b o xs, H b = some (.frz o (.tup xs)) → H' b = some (.frz o (.tup xs))
theorem TK.refl (H : Hp) : TK H H := ⟨fun _ _ h => h, fun _ _ _ h => h⟩
theorem TK.trans {H H1 H2 : Hp} (a : TK H H1) (b : TK H1 H2) : TK H H2 := ⟨fun c xs h => b.tup c xs (a.tup c xs h), fun c o xs h => b.frz c o xs (a.frz c o xs h)⟩
theorem TK.of {H H' : Hp} (s : Same H H') : TK H H' := ⟨fun b _ h => s b _ h, fun b _ _ h => s b _ h⟩
theorem TK.seq {K : PySem.W.Frag} {H H' : Hp} {a : Addr} {xs : List V} (e : TK H H') (h : SqT K H a xs) : SqT K H' a xs := by
  rcases h with (h | ⟨o, h⟩) | h
  · exact .inl (.inl (e.tup _ _ h))
  · exact .inl (.inr ⟨o, e.frz _ _ _ h⟩)
  · exact .inr h
mutual
/-- data of tuples alone -/
def tupD : PyData → Bool
  | .list _ => false
  | .dict _ => false
  | .tuple ds => tupAll ds
  | _ => true
def tupAll : List PyData → Bool
  | [] => true
  | d :: ds => tupD d && tupAll ds
end
mutual
theorem Dp.tk {K : PySem.W.Frag} {H H' : Hp} (e : TK H H') : ∀ (d : PyData) (v : V), tupD d = true → Dp K H v d → Dp K H' v d
  | .none, v, _, h => by cases h; exact .non
  | .bool b, v, _, h => by cases h; exact .bl b
  | .int i, v, _, h => by cases h; exact .int i
  | .str x, v, _, h => by cases h; exact .str x
  | .list ds, v, t, h => by cases t
  | .dict ds, v, t, h => by cases t
  | .tuple ds, v, t, h => by
    cases h with
    | tup h1 h2 => exact .tup (e.seq h1) (DpAll.tk e ds _ t h2)
theorem DpAll.tk {K : PySem.W.Frag} {H H' : Hp} (e : TK H H') : ∀ (ds : List PyData) (vs : List V), tupAll ds = true → DpAll K H vs ds → DpAll K H' vs ds
  | [], vs, _, h => by cases h; exact .nil
  | d :: ds, vs, t, h => by
    cases h with
    | cons h1 h2 =>
      have t' : (tupD d && tupAll ds) = true := t
      rw [Bool.and_eq_true] at t'
      exact .cons (Dp.tk e d _ t'.1 h1) (DpAll.tk e ds _ t'.2 h2)
end
theorem tup_spans : ∀ s : List Spn, tupAll (s.map spanD) = true
  | [] => rfl
  | p :: s => by
    show (tupD (spanD p) && tupAll (s.map spanD)) = true
    rw [tup_spans s]; rfl
theorem tup_form : ∀ f : Frm, tupAll (f.map slabD) = true
  | [] => rfl
  | p :: s => by
    show (tupD (slabD p) && tupAll (s.map slabD)) = true
    rw [tup_form s]
    show ((true && (true && (tupAll (p.2.2.map spanD) && true))) && true) = true
    rw [tup_spans]; rfl
section
variable {K : PySem.W.Frag} {H H' : Hp} {v : V}
theorem span_tk {p : Spn} (e : TK H H') (h : Dp K H v (spanD p)) : Dp K H' v (spanD p) := Dp.tk e _ _ rfl h
theorem spans_tk {s : List Spn} (e : TK H H') (h : Dp K H v (spansD s)) : Dp K H' v (spansD s) := Dp.tk e _ _ (tup_spans s) h
theorem slab_tk {t : Slb} (e : TK H H') (h : Dp K H v (slabD t)) : Dp K H' v (slabD t) := Dp.tk e _ _ (by show (true && (true && (tupAll (t.2.2.map spanD) && true))) = true; rw [tup_spans]; rfl) h
theorem form_tk {f : Frm} (e : TK H H') (h : Dp K H v (formD f)) : Dp K H' v (formD f) := Dp.tk e _ _ (tup_form f) h
theorem aspans_tk {xs : List V} {s : List Spn} (e : TK H H') (h : DpAll K H xs (s.map spanD)) : DpAll K H' xs (s.map spanD) := DpAll.tk e _ _ (tup_spans s) h
theorem aform_tk {xs : List V} {f : Frm} (e : TK H H') (h : DpAll K H xs (f.map slabD)) : DpAll K H' xs (f.map slabD) := DpAll.tk e _ _ (tup_form f) h

/-! ### taken apart -/
theorem dp_tup {ds : List PyData} (h : Dp K H v (.tuple ds)) : ∃ t xs, v = .ref t ∧ SqT K H t xs ∧ DpAll K H xs ds := by
  cases h with
  | tup h1 h2 => exact ⟨_, _, rfl, h1, h2⟩
theorem dp_int {i : Int} (h : Dp K H v (.int i)) : v = .int i := by cases h; rfl
theorem dp_span {p : Spn} (h : Dp K H v (spanD p)) : ∃ t, v = .ref t ∧ SqT K H t [.int p.1, .int p.2] := by
  obtain ⟨t, xs, e, h1, h2⟩ := dp_tup h
  cases h2 with
  | cons a r =>
    cases r with
    | cons b r =>
      cases r
      cases dp_int a
      cases dp_int b
      exact ⟨t, e, h1⟩
theorem dp_slab {s : Slb} (h : Dp K H v (slabD s)) : ∃ t sv, v = .ref t ∧ SqT K H t [.int s.1, .int s.2.1, sv] ∧ Dp K H sv (spansD s.2.2) := by
  obtain ⟨t, xs, e, h1, h2⟩ := dp_tup h
  cases h2 with
  | cons a r =>
    cases r with
    | cons b r =>
      cases r with
      | cons c r =>
        cases r
        cases dp_int a
        cases dp_int b
        exact ⟨t, _, e, h1, c⟩
theorem all_len : ∀ {xs : List V} {ds : List PyData}, DpAll K H xs ds → xs.length = ds.length
  | _, _, .nil => rfl
  | _, _, .cons _ h => congrArg (· + 1) (all_len h)
theorem all_get : ∀ {xs : List V} {ds : List PyData} {i : Nat} {x : V}, DpAll K H xs ds → xs[i]? = some x → ∃ d, ds[i]? = some d ∧ Dp K H x d
  | _, _, _, _, .nil, e => by simp at e
  | _, _, 0, _, .cons h _, e => by simp at e; subst e; exact ⟨_, rfl, h⟩
  | _, _, i + 1, x, .cons _ h, e => by
    obtain ⟨d, h1, h2⟩ := all_get (i := i) (x := x) h (by simpa using e)
    exact ⟨d, by simpa using h1, h2⟩
theorem all_snoc : ∀ {xs : List V} {ds : List PyData} {x : V} {d : PyData}, DpAll K H xs ds → Dp K H x d → DpAll K H (xs ++ [x]) (ds ++ [d])
  | _, _, _, _, .nil, h => .cons h .nil
  | _, _, _, _, .cons a r, h => .cons a (all_snoc r h)
theorem all_app : ∀ {xs ys : List V} {ds es : List PyData}, DpAll K H xs ds → DpAll K H ys es → DpAll K H (xs ++ ys) (ds ++ es)
  | _, _, _, _, .nil, h => h
  | _, _, _, _, .cons a r, h => .cons a (all_app r h)
theorem all_split : ∀ {xs : List V} {ds : List PyData} {d : PyData}, DpAll K H xs (ds ++ [d]) → ∃ ys y, xs = ys ++ [y] ∧ DpAll K H ys ds ∧ Dp K H y d
  | _, [], _, h => by
    cases h with
    | cons a r => cases r; exact ⟨[], _, rfl, .nil, a⟩
  | _, e :: ds, d, h => by
    cases h with
    | cons a r =>
      obtain ⟨ys, y, q, h1, h2⟩ := all_split (ds := ds) r
      subst q
      exact ⟨_ :: ys, y, rfl, .cons a h1, h2⟩
/-! ### put together -/
theorem span_mk {t : Addr} {p : Spn} (h : H t = some (.tup [.int p.1, .int p.2])) : Dp K H (.ref t) (spanD p) := .tup (SqT.of h) (.cons (.int _) (.cons (.int _) .nil))
theorem slab_mk {t : Addr} {sv : V} {s : Slb} (h : H t = some (.tup [.int s.1, .int s.2.1, sv])) (hs : Dp K H sv (spansD s.2.2)) : Dp K H (.ref t) (slabD s) := .tup (SqT.of h) (.cons (.int _) (.cons (.int _) (.cons hs .nil)))
theorem spans_mk {t : Addr} {xs : List V} {s : List Spn} (h : H t = some (.tup xs)) (hs : DpAll K H xs (s.map spanD)) : Dp K H (.ref t) (spansD s) := .tup (SqT.of h) hs
theorem form_mk {t : Addr} {xs : List V} {f : Frm} (h : H t = some (.tup xs)) (hs : DpAll K H xs (f.map slabD)) : Dp K H (.ref t) (formD f) := .tup (SqT.of h) hs
end
theorem Same.upd1 {H : Hp} {p : Addr} {o : HO} (h : H p = none) : Same H (upd H p o) := fun b u e => by rw [upd_ne (ne_of_none e h)]; exact e
/-- what was new in a heap may change -/
theorem Same.updN {H H1 : Hp} {p : Addr} {o : HO} (s : Same H H1) (h : H p = none) : Same H (upd H1 p o) := fun b u e => by rw [upd_ne (ne_of_none e h)]; exact s b u e
end BX
end
section
set_option Elab.async false
set_option linter.all false
set_option maxRecDepth 100000
set_option maxHeartbeats 4000000
namespace BX
open PySem PySem.Spec PyProof.Rows L2
abbrev FnP (K : PySem.W.Frag) (x qual : Str) (st : Stmt) (f : Addr) (fd : FuncData) : Prop := FunD K x qual (defArgs st) (defBody st) (defScope st) [] [] f fd
/-- built-in names that the module leaves alone -/
structure Bt (mg : Str → Option Value) : Prop where
  sorted : mg "sorted" = none
  max : mg "max" = none
  min : mg "min" = none
  tuple : mg "tuple" = none
  list : mg "list" = none
  dict : mg "dict" = none
  any : mg "any" = none
  all : mg "all" = none
  zip : mg "zip" = none
  len : mg "len" = none
  isinstance : mg "isinstance" = none
  int : mg "int" = none
  bool : mg "bool" = none
  str : mg "str" = none
  range : mg "range" = none
  enumerate : mg "enumerate" = none
  super : mg "super" = none
/-- .. what a def of the module promises, ready to be called by its name -/
theorem calP {P : Program} {w : World} {K : PySem.W.Frag} {mg : Str → Option Value} {base : Heap} {x : Str} {st : Stmt} {f : Addr} {fd : FuncData} {N ps : List Str} {k : Nat} {sp : Sp} (F : FnP K x x st f fd) (hm : mg x = some (.ref f)) (S : FnScope N ps (defScope st))
    (hb : ∀ (kV doc pm : Value) (an : Option Addr) (cdv ct : Value) (us : List Value), us.length = ps.length → bindArgs (PySem.W.fnOf x x (defArgs st) (defBody st) (defScope st) .none kV doc pm an cdv ct) ⟨us, []⟩ = pure (ps.zip us))
    (len : ∀ vs H Q E, sp vs H Q E → vs.length = ps.length)
    (hbody : ∀ (cdv : Value) (A : Around) (outer : List Env) (s : Shared) (H : Hp) (vs : List V) (Q : VK) (E : XK), Room k (A.deeper (envOfC x (defScope st) s.heap.objs.size f cdv)) → sp vs H Q E →
      ∃ t, PSs (cxOf C8.CX0 P w K mg base N x (defScope st) f cdv A outer s H E).nox (defBody st) t ∧ t { nx := fun _ H' => Q .non H', rt := Q } (start N vs) H) :
    C8.Cal P w K mg base (k + 1) x sp [] :=
  ⟨f, fd, ps, [], F.ok S len fun cdv A outer s H vs Q E hr h => let ⟨t, a, b⟩ := hbody cdv A outer s H vs Q E hr h; ⟨t, PSs.nox a, b⟩, hm, F.kp, F.bindsN hb, .nil⟩

/-! ### merged -/
abbrev sMerged : Stmt := topS 14
/-- tracked pairs -/
def TrkP (H : Hp) (xs : List V) (ps : List Spn) : Prop := Paired (fun x p => ∃ t, x = V.ref t ∧ H t = some (.tup [.int p.1, .int p.2])) xs ps
theorem TrkP.dp {K : PySem.W.Frag} {H : Hp} : ∀ {xs : List V} {ps : List Spn}, TrkP H xs ps → DpAll K H xs (ps.map spanD)
  | _, _, .nil => .nil
  | _, _, .cons ⟨_, e, h⟩ r => by subst e; exact .cons (span_mk h) (TrkP.dp r)
theorem TrkP.snoc {H : Hp} {xs : List V} {ps : List Spn} {t : Addr} {p : Spn} (h : TrkP H xs ps) (ht : H t = some (.tup [.int p.1, .int p.2])) : TrkP H (xs ++ [.ref t]) (ps ++ [p]) := Paired.snoc h ⟨t, rfl, ht⟩
theorem TrkP.tk {H H' : Hp} (e : TK H H') : ∀ {xs : List V} {ps : List Spn}, TrkP H xs ps → TrkP H' xs ps
  | _, _, .nil => .nil
  | _, _, .cons ⟨t, q, h⟩ r => .cons ⟨t, q, e.tup _ _ h⟩ (TrkP.tk e r)
def kOf (H : Hp) (x : V) : Int × Int := match x with
  | .ref t => (match H t with
    | some (.tup [.int i, .int j]) => (i, j)
    | _ => (0, 0))
  | _ => (0, 0)
theorem TrkP.k {H : Hp} : ∀ {xs : List V} {ps : List Spn}, TrkP H xs ps → xs.map (kOf H) = ps ∧ ∀ x ∈ xs, ∃ t, x = V.ref t ∧ H t = some (.tup [.int (kOf H x).1, .int (kOf H x).2])
  | _, _, .nil => ⟨rfl, fun _ h => by cases h⟩
  | _, _, .cons ⟨t, q, h⟩ r => by
    have ih := TrkP.k r
    have e : ∀ p : Spn, H t = some (.tup [.int p.1, .int p.2]) → kOf H (.ref t) = p := fun p hp => by
      show (match H t with
        | some (.tup [.int i, .int j]) => (i, j)
        | _ => (0, 0)) = p
      rw [hp]
    subst q
    refine ⟨?_, fun x hx => ?_⟩
    · rw [List.map_cons, ih.1, e _ h]
    · rcases List.mem_cons.mp hx with rfl | hx
      · exact ⟨t, rfl, by rw [e _ h]; exact h⟩
      · exact ih.2 x hx
theorem TrkP.of_k {H : Hp} : ∀ {xs : List V}, (∀ x ∈ xs, ∃ t, x = V.ref t ∧ H t = some (.tup [.int (kOf H x).1, .int (kOf H x).2])) → TrkP H xs (xs.map (kOf H))
  | [], _ => .nil
  | x :: xs, h => .cons (h x List.mem_cons_self) (TrkP.of_k fun y hy => h y (List.mem_cons_of_mem _ hy))
def spMerged (K : PySem.W.Frag) : Sp := fun vs H Q _ => ∃ (l : Addr) (xs : List V) (ps : List Spn), vs = [.ref l] ∧ SqL K H l xs ∧ TrkP H xs ps ∧ ps.length ≤ 1000 ∧
  ∀ v H', Same H H' → Dp K H' v (spansD (merged ps)) → Q v H'
theorem scMerged : FnScope ["pairs", "found", "a", "b"] ["pairs"] (defScope sMerged) := ⟨rfl, rfl, rfl, by decide +kernel, rfl, by decide +kernel, by decide +kernel⟩
/-- the last one of a tracked list of pairs -/
theorem TrkP.last {H : Hp} {xs : List V} {acc : List Spn} {l : Spn} (h : TrkP H xs acc) (hl : acc.getLast? = some l) : ∃ ys t, xs = ys ++ [.ref t] ∧ TrkP H ys acc.dropLast ∧ H t = some (.tup [.int l.1, .int l.2]) := by
  have e := getLast?_dropLast hl
  rw [e] at h
  have : ∀ {xs : List V} {a : List Spn}, TrkP H xs (a ++ [l]) → ∃ ys t, xs = ys ++ [.ref t] ∧ TrkP H ys a ∧ H t = some (.tup [.int l.1, .int l.2]) := by
    intro xs a
    induction a generalizing xs with
    | nil =>
      intro h
      cases h with
      | cons q r =>
        cases r
        obtain ⟨t, rfl, ht⟩ := q
        exact ⟨[], t, rfl, .nil, ht⟩
    | cons b a ih =>
      intro h
      cases h with
      | cons q r =>
        obtain ⟨ys, t, rfl, h1, h2⟩ := ih r
        exact ⟨_ :: ys, t, rfl, .cons q h1, h2⟩
  obtain ⟨ys, t, e1, h1, h2⟩ := this h
  exact ⟨ys, t, e1, by simpa using h1, h2⟩
theorem set_last {ys : List V} {x y : V} : (ys ++ [x]).set ys.length y = ys ++ [y] := by simp
theorem ix_last (ys : List V) (x : V) : ixN (ys ++ [x]).length (-1) = some ys.length := by
  unfold ixN
  rw [if_neg (by decide), if_pos (by rw [List.length_append]; simp; omega), List.length_append]
  refine congrArg some ?_
  simp only [List.length_cons, List.length_nil]
  omega
section
variable {P : Program} {w : World} {K : PySem.W.Frag} {mg : Str → Option Value} {base : Heap}
theorem ok_merged {f : Addr} {fd : FuncData} (F : FnP K "merged" "merged" sMerged f fd) (hm : mg "merged" = some (.ref f)) (B : Bt mg) : C8.Cal P w K mg base 1 "merged" (spMerged K) [] := by
  refine calP F hm scMerged (fun _ _ _ _ _ _ us hl => match us, hl with | [_], _ => rfl) (fun vs H Q E h => ?_) (fun cdv A outer s H vs Q E hr h => ?_)
  · obtain ⟨l, xs, ps, rfl, _⟩ := h
    rfl
  · obtain ⟨l, xs, ps, rfl, hS, hT, hlen, k⟩ := h
    have hu : _ + 64 < cLine := hr.units
    refine ⟨_, pss_cons (ps_set (i := 1) scMerged.nd rfl (Or.inl rfl) (pe_lst pa_nil))
      (pss_cons (ps_for PassesOwn.never rfl (pi_list (pe_callB cr_sortedPO (by rfl) B.sorted (by decide +kernel) (pa_cons (pv 0) pa_nil))) (pg_tup rfl (pgs_cons (pg_name (i := 2) scMerged.nd rfl (Or.inl rfl)) (pgs_cons (pg_name (i := 3) scMerged.nd rfl (Or.inl rfl)) pgs_nil)))
        (pss_one (ps_if (PW.pt (pw_and (pt_cmpR (op_neD hu) (pv 1) (pe_lst pa_nil) (nomark _)) (pw_and1 (pt_cmpR op_le (pv 2) (pe_ix ix_tup (pe_ix ix_list (pv 1) (pe_un un_neg pe_int) (fun _ _ => rfl)) pe_int (fun _ _ => rfl)) (nomark _)))))
          (pss_one (ps_asg (pe_tup (pa_cons (pe_ix ix_tup (pe_ix ix_list (pv 1) (pe_un un_neg pe_int) (fun _ _ => rfl)) pe_int (fun _ _ => rfl)) (pa_cons (pe_callB (call_max2 rfl) (by rfl) B.max (by decide +kernel) (pa_cons (pv 3) (pa_cons (pe_ix ix_tup (pe_ix ix_list (pv 1) (pe_un un_neg pe_int) (fun _ _ => rfl)) pe_int (fun _ _ => rfl)) pa_nil))) pa_nil)))
            (pg_sub (pv 1) (pe_un un_neg pe_int) set_list)))
          (pss_one (ps_expr (pe_bm PySem.F.plainAttrs_list PySem.F.slot_list_append PySem.F.type_list_append mt_append (pv 1) (pa_cons (pe_tup (pa_cons (pv 2) (pa_cons (pv 3) pa_nil))) pa_nil)))))))
      (pss_one (ps_ret (pe_callTy call_tuple_of (by rfl) B.tuple (by decide +kernel) (pa_cons (pv 1) pa_nil))))), ?_⟩
    -- found = []
    refine ⟨Nat.zero_le _, fun d hd => ?_⟩
    have s0 : Same H (upd H d (.lst [])) := Same.upd1 hd
    have tk := hT.k
    refine ⟨_, rfl, l, xs, kOf H, rfl, s0.seq hS, fun x hx => ?_, fun ys p hs1 hs2 hp => ?_⟩
    · obtain ⟨t, e, h⟩ := tk.2 x hx
      exact ⟨t, e, s0 _ _ h⟩
    have hp0 : H p = none := s0.free hp
    have hdp : d ≠ p := fun e => by subst e; rw [upd_same] at hp; cases hp
    -- the sorted pairs, as numbers
    have ey : ys.map (kOf H) = sortP ps := by
      refine sortP_uniq (by rw [← tk.1]; exact hs2.perm.map _) ?_
      rw [List.pairwise_map]
      refine hs1.imp fun {a b} h => ?_
      have h' := SrtO.lexB_no.mp h
      unfold leP
      simp only [Bool.or_eq_true, Bool.and_eq_true, decide_eq_true_eq]
      omega
    have ty : TrkP H ys (sortP ps) := by
      rw [← ey]
      exact TrkP.of_k fun x hx => tk.2 x (hs2.perm.mem_iff.mp hx)
    have yl : ys.length = (sortP ps).length := ty.length
    have sl : (sortP ps).length ≤ 1000 := by rw [(sortP_perm ps).length_eq]; exact hlen
    refine ⟨p, rfl, ⟨_, SqL.of upd_same⟩, for_list (K := K) (a := p) (xs := ys) (fun i σ H' => ∃ (fx : List V) (x2 x3 : Option V), σ = [some (.ref l), some (.ref d), x2, x3] ∧ Same H H' ∧ H' p = some (.lst ys) ∧ H' d = some (.lst fx) ∧ TrkP H' fx (((sortP ps).take i).foldl mstep []))
      ⟨[], none, none, rfl, Same.updN s0 hp0, upd_same, by rw [upd_ne hdp, upd_same], .nil⟩ (fun i σ H' _ ⟨_, _, _, _, _, e, _⟩ => SqL.of e) ?_ ?_⟩
    · rintro i x σ H' hx ⟨fx, x2, x3, rfl, s1, ep, ed, tf⟩
      have hi : i < ys.length := (List.getElem?_eq_some_iff.mp hx).1
      have hi' : i < (sortP ps).length := by omega
      obtain ⟨t, rfl, ht⟩ : ∃ t, x = V.ref t ∧ H t = some (.tup [.int (sortP ps)[i].1, .int (sortP ps)[i].2]) := by
        have : ∀ {xs : List V} {qs : List Spn} {i : Nat} {x : V}, TrkP H xs qs → xs[i]? = some x → ∀ (hi : i < qs.length), ∃ t, x = V.ref t ∧ H t = some (.tup [.int qs[i].1, .int qs[i].2]) := by
          intro xs qs i x h
          induction h generalizing i with
          | nil => intro e; simp at e
          | cons q r ih =>
            intro e hi
            cases i with
            | zero =>
              obtain ⟨t, e1, e2⟩ := q
              simp at e
              subst e
              exact ⟨t, e1, e2⟩
            | succ j => exact ih (by simpa using e) (by simpa using hi)
        exact this ty hx hi'
      generalize hq : (sortP ps)[i] = q at ht
      have hstep : ((sortP ps).take (i + 1)).foldl mstep [] = mstep (((sortP ps).take i).foldl mstep []) q := by
        rw [List.take_succ, List.foldl_append, List.getElem?_eq_getElem hi', hq]
        rfl
      have lacc : (((sortP ps).take i).foldl mstep []).length ≤ 1000 := by
        have := foldl_mstep_len ((sortP ps).take i) []
        rw [List.length_take] at this
        simp at this
        omega
      have lfx : fx.length = (((sortP ps).take i).foldl mstep []).length := tf.length
      generalize hacc : ((sortP ps).take i).foldl mstep [] = acc at tf lacc hstep lfx
      have edN : H d = none := hd
      have keepP : ∀ {H2 : Hp} {o : HO}, H2 p = some (.lst ys) → (upd H2 d o) p = some (.lst ys) := fun {H2 o} e => by rw [upd_ne hdp.symm]; exact e
      -- a, b = the pair
      refine ⟨t, _, rfl, SqT.of (s1 _ _ ht), rfl, _, _, rfl, _, _, rfl, rfl, ?_⟩
      -- found != []
      refine ⟨_, rfl, Nat.zero_le _, fun z hz => ?_⟩
      have sz : Same H' (upd H' z (.lst [])) := Same.upd1 hz
      refine ⟨_, _, .lst (SqL.of (sz _ _ ed)) (tf.tk (TK.of sz)).dp, .lst (SqL.of upd_same) .nil, lspans_shaped acc, lspans_shaped [], _, rfl, ?_⟩
      rw [lspans_nil]
      cases ha : acc.getLast? with
      | none =>
        have e0 : acc = [] := List.getLast?_eq_none_iff.mp ha
        have em : mstep acc q = acc ++ [q] := by unfold mstep; rw [ha]
        rw [e0, decide_eq_true rfl]
        refine iteF ?_
        refine iteF ?_
        refine ⟨_, rfl, .inl ⟨rfl, _, SqL.of (sz _ _ ed)⟩, _, rfl, _, rfl, (by show 2 ≤ sizeLine; decide), fun r hr' => ?_⟩
        have sr : Same (upd H' z (.lst [])) (upd (upd H' z (.lst [])) r (.tup [.int q.1, .int q.2])) := Same.upd1 hr'
        refine ⟨d, fx, _, rfl, rfl, sr _ _ (sz _ _ ed), Nat.lt_of_le_of_lt (by omega : fx.length ≤ 1000) (by decide), ?_⟩
        have sd : ∀ (o : HO), Same H (upd (upd (upd H' z (.lst [])) r (.tup [.int q.1, .int q.2])) d o) := fun o => Same.updN (s1.trans (sz.trans sr)) hd
        refine ⟨fx ++ [.ref r], _, _, rfl, sd _, keepP (sr _ _ (sz _ _ ep)), upd_same, ?_⟩
        rw [hstep, em]
        have tk1 : TK H' (upd (upd (upd H' z (.lst [])) r (.tup [.int q.1, .int q.2])) d (.lst (fx ++ [.ref r]))) := ⟨fun b xs e => by
          rw [upd_ne (ne_of e ed (by intro q; cases q))]
          exact sr _ _ (sz _ _ e), fun b o xs e => by
          rw [upd_ne (ne_of e ed (by intro q; cases q))]
          exact sr _ _ (sz _ _ e)⟩
        have hrd : r ≠ d := fun e => by
          rw [e] at hr'
          rw [sz _ _ ed] at hr'
          cases hr'
        exact (tf.tk tk1).snoc (by rw [upd_ne hrd, upd_same])
      | some lst =>
        obtain ⟨fy, u, efx, tfy, hu'⟩ := tf.last ha
        subst efx
        have ne : ¬ acc = [] := fun e => by rw [e] at ha; cases ha
        rw [decide_eq_false ne]
        refine iteT ?_
        refine ⟨_, rfl, _, rfl, _, rfl, d, _, _, _, rfl, rfl, SqL.of (sz _ _ ed), atI_last fy (.ref u), u, _, _, _, rfl, rfl, SqT.of (sz _ _ hu'), atI_nat (j := 1) rfl, _, _, rfl, rfl, _, rfl, ?_⟩
        by_cases hc : q.1 ≤ lst.2
        · rw [decide_eq_true hc]
          refine iteT ?_
          have em : mstep acc q = acc.dropLast ++ [(lst.1, if lst.2 > q.2 then lst.2 else q.2)] := by
            unfold mstep
            rw [ha]
            show (if q.1 ≤ lst.2 then _ else _) = _
            rw [if_pos hc]
          refine ⟨_, rfl, _, rfl, d, _, _, _, rfl, rfl, SqL.of (sz _ _ ed), atI_last fy (.ref u), u, _, _, _, rfl, rfl, SqT.of (sz _ _ hu'), atI_nat (j := 0) rfl, ?_⟩
          refine ⟨_, rfl, _, rfl, _, rfl, d, _, _, _, rfl, rfl, SqL.of (sz _ _ ed), atI_last fy (.ref u), u, _, _, _, rfl, rfl, SqT.of (sz _ _ hu'), atI_nat (j := 1) rfl, _, _, rfl, ?_⟩
          refine ⟨(by show 2 ≤ sizeLine; decide), fun r hr' => ?_⟩
          generalize hm2 : (if lst.2 > q.2 then lst.2 else q.2) = mx at em ⊢
          have sr : Same (upd H' z (.lst [])) (upd (upd H' z (.lst [])) r (.tup [.int lst.1, .int mx])) := Same.upd1 hr'
          refine ⟨_, rfl, _, rfl, d, _, _, _, rfl, rfl, sr _ _ (sz _ _ ed), ix_last fy (.ref u), ?_⟩
          rw [set_last]
          have sd : ∀ (o : HO), Same H (upd (upd (upd H' z (.lst [])) r (.tup [.int lst.1, .int mx])) d o) := fun o => Same.updN (s1.trans (sz.trans sr)) hd
          refine ⟨fy ++ [.ref r], _, _, rfl, sd _, keepP (sr _ _ (sz _ _ ep)), upd_same, ?_⟩
          rw [hstep, em]
          have tk1 : TK H' (upd (upd (upd H' z (.lst [])) r (.tup [.int lst.1, .int mx])) d (.lst (fy ++ [.ref r]))) := ⟨fun b xs e => by
            rw [upd_ne (ne_of e ed (by intro q; cases q))]
            exact sr _ _ (sz _ _ e), fun b o xs e => by
            rw [upd_ne (ne_of e ed (by intro q; cases q))]
            exact sr _ _ (sz _ _ e)⟩
          have hrd : r ≠ d := fun e => by
            rw [e] at hr'
            rw [sz _ _ ed] at hr'
            cases hr'
          exact (tfy.tk tk1).snoc (by rw [upd_ne hrd, upd_same])
        · rw [decide_eq_false hc]
          refine iteF ?_
          have em : mstep acc q = acc ++ [q] := by
            unfold mstep
            rw [ha]
            show (if q.1 ≤ lst.2 then _ else _) = _
            rw [if_neg hc]
          refine ⟨_, rfl, .inl ⟨rfl, _, SqL.of (sz _ _ ed)⟩, _, rfl, _, rfl, (by show 2 ≤ sizeLine; decide), fun r hr' => ?_⟩
          have sr : Same (upd H' z (.lst [])) (upd (upd H' z (.lst [])) r (.tup [.int q.1, .int q.2])) := Same.upd1 hr'
          refine ⟨d, _, _, rfl, rfl, sr _ _ (sz _ _ ed), Nat.lt_of_le_of_lt (by omega : (fy ++ [V.ref u]).length ≤ 1000) (by decide), ?_⟩
          have sd : ∀ (o : HO), Same H (upd (upd (upd H' z (.lst [])) r (.tup [.int q.1, .int q.2])) d o) := fun o => Same.updN (s1.trans (sz.trans sr)) hd
          refine ⟨(fy ++ [V.ref u]) ++ [.ref r], _, _, rfl, sd _, keepP (sr _ _ (sz _ _ ep)), upd_same, ?_⟩
          rw [hstep, em]
          have tk1 : TK H' (upd (upd (upd H' z (.lst [])) r (.tup [.int q.1, .int q.2])) d (.lst ((fy ++ [V.ref u]) ++ [.ref r]))) := ⟨fun b xs e => by
            rw [upd_ne (ne_of e ed (by intro q; cases q))]
            exact sr _ _ (sz _ _ e), fun b o xs e => by
            rw [upd_ne (ne_of e ed (by intro q; cases q))]
            exact sr _ _ (sz _ _ e)⟩
          have hrd : r ≠ d := fun e => by
            rw [e] at hr'
            rw [sz _ _ ed] at hr'
            cases hr'
          exact (tf.tk tk1).snoc (by rw [upd_ne hrd, upd_same])
    · rintro σ H' ⟨fx, x2, x3, rfl, s1, ep, ed, tf⟩
      rw [yl, List.take_length] at tf
      refine ⟨_, rfl, d, fx, rfl, .inl ⟨SqL.of ed, fun r hr' => ?_⟩⟩
      refine k _ _ (s1.trans (Same.upd1 hr')) (spans_mk upd_same ?_)
      exact aspans_tk (TK.of (Same.upd1 hr')) tf.dp
end
end BX
end
section
set_option Elab.async false
set_option linter.all false
set_option maxRecDepth 100000
set_option maxHeartbeats 4000000
/-! Sets of ints by a comprehension of two clauses (no tests). -/
namespace BX
open PySem PySem.Spec PyProof.Rows L2 PpSet
/-- the inner set, the outer loop -/
theorem siTurn0 (elt t0 i0 t1 i1 : Expr) (scope : Scope) (pos : Pos) (it acc : Value) (env : Env) :
    compTurn (.SetComp elt [⟨t0, i0, [], 0⟩, ⟨t1, i1, [], 0⟩] scope pos) 0 it acc env = (do
      standAt i0.pos
      match ← pyNext it with
      | none => pure (.done .next)
      | some v =>
        letOwnedTupleGo t0 it v
        assign t0 env v
        let x ← eval i1 env
        standAt i1.pos
        let x ← foldedSetIterable i1 env x
        let _ ← runOwn (.compStart (.SetComp elt [⟨t0, i0, [], 0⟩, ⟨t1, i1, [], 0⟩] scope pos) 1 (← holding [x] (pyIter x)) acc env) env
        again (.compLoop (.SetComp elt [⟨t0, i0, [], 0⟩, ⟨t1, i1, [], 0⟩] scope pos) 0 it acc env)) := by rfl
theorem siTurn1 (elt t0 i0 t1 i1 : Expr) (scope : Scope) (pos : Pos) (it acc : Value) (env : Env) :
    compTurn (.SetComp elt [⟨t0, i0, [], 0⟩, ⟨t1, i1, [], 0⟩] scope pos) 1 it acc env = (do
      standAt i1.pos
      match ← pyNext it with
      | none => pure (.done .next)
      | some v =>
        letOwnedTupleGo t1 it v
        assign t1 env v
        (do let v ← eval elt env; standAt elt.pos; let _ ← call (.builtin "set.add") [acc, v])
        again (.compLoop (.SetComp elt [⟨t0, i0, [], 0⟩, ⟨t1, i1, [], 0⟩] scope pos) 1 it acc env)) := by rfl
section
variable {prog : Program} {w : World} {A : Around} {R : Result → Shared → Prop} {s : Shared} {elt t0 i0 t1 i1 : Expr} {scope : Scope} {pos : Pos} {it acc : Value} {env : Env}
/-- a wish that no exception may leave is enough -/
theorem mono0 {α : Type} {t : Sem α} {Q Q' : α → Shared → Prop} {M : Model} {E : Value → Shared → Prop} (h : wpAny M A t Q (fun _ _ => False) s) (k : ∀ a s, Q a s → Q' a s) : wpAny M A t Q' E s := wpAny_mono h k fun _ _ z => z.elim
theorem siLoop0 (hs : ∀ x, foldedSetIterable i1 env x = pure x) (I : Nat → Shared → Prop)
    (turn : ∀ n s, I n s → wpAny (model prog w) A (pyNext it) (fun r s₁ => match r with
      | none => R (.ok .next) s₁
      | some v => wpAny (model prog w) A (letOwnedTupleGo t0 it v) (fun _ s₂ => wpAny (model prog w) A (assign t0 env v) (fun _ s₃ =>
          wpAny (model prog w) A (eval i1 env) (fun x s₄ => wpAny (model prog w) A (pyIter x) (fun it1 s₅ =>
              codeAny (model prog w) A (.compStart (.SetComp elt [⟨t0, i0, [], 0⟩, ⟨t1, i1, [], 0⟩] scope pos) 1 it1 acc env) (fun r s' => match r with
                | .ok _ => ∃ m, m < n ∧ I m s'
                | .error _ => False) s₅) (fun _ _ => False) s₄) (fun _ _ => False) s₃) (fun _ _ => False) s₂) (fun _ _ => False) s₁) (fun _ _ => False) s)
    (n : Nat) (h : I n s) : codeAny (model prog w) A (.compLoop (.SetComp elt [⟨t0, i0, [], 0⟩, ⟨t1, i1, [], 0⟩] scope pos) 0 it acc env) R s := by
  refine codeAny_loop rfl I (fun n s hI => ?_) n h
  show wpAny _ A ((compTurn (.SetComp elt [⟨t0, i0, [], 0⟩, ⟨t1, i1, [], 0⟩] scope pos) 0 it acc env).onRaise (fun x => do noteFrame x env; theTreesLotGoes x)) _ _ s
  refine wpAny_noted ?_
  rw [siTurn0]
  refine wpAny_bind (wpAny_standAt (wpAny_bind (mono0 (turn n s hI) fun r s₁ h₁ => ?_)))
  cases r with
  | none => exact wpAny_pure h₁
  | some v =>
    refine wpAny_bind (mono0 h₁ fun _ s₂ h₂ => wpAny_bind (mono0 h₂ fun _ s₃ h₃ => wpAny_bind (mono0 h₃ fun x s₄ h₄ => ?_)))
    refine wpAny_bind (wpAny_standAt (wpAny_bind (wpAny_of_eq (hs x) (wpAny_bind (wpAny_holding (mono0 h₄ fun it1 s₅ h₅ => ?_))))))
    refine wpAny_bind (wpAny_runOwn ?_)
    rw [Around.mark_none]
    refine codeAny_mono h₅ fun r s' hr => ?_
    cases r with
    | ok f =>
      first
        | exact wpAny_pure ⟨rfl, hr⟩
        | exact wpAny_bind (wpAny_pure (wpAny_pure ⟨rfl, hr⟩))
    | error e => exact hr.elim
theorem siLoop1 (I : Nat → Shared → Prop)
    (turn : ∀ n s, I n s → wpAny (model prog w) A (pyNext it) (fun r s₁ => match r with
      | none => R (.ok .next) s₁
      | some v => wpAny (model prog w) A (letOwnedTupleGo t1 it v) (fun _ s₂ => wpAny (model prog w) A (assign t1 env v) (fun _ s₃ =>
          wpAny (model prog w) A (eval elt env) (fun x s₄ => wpAny (model prog w) A (call (.builtin "set.add") [acc, x]) (fun _ s₅ => ∃ m, m < n ∧ I m s₅) (fun _ _ => False) s₄) (fun _ _ => False) s₃) (fun _ _ => False) s₂) (fun _ _ => False) s₁) (fun _ _ => False) s)
    (n : Nat) (h : I n s) : codeAny (model prog w) A (.compLoop (.SetComp elt [⟨t0, i0, [], 0⟩, ⟨t1, i1, [], 0⟩] scope pos) 1 it acc env) R s := by
  refine codeAny_loop rfl I (fun n s hI => ?_) n h
  show wpAny _ A ((compTurn (.SetComp elt [⟨t0, i0, [], 0⟩, ⟨t1, i1, [], 0⟩] scope pos) 1 it acc env).onRaise (fun x => do noteFrame x env; theTreesLotGoes x)) _ _ s
  refine wpAny_noted ?_
  rw [siTurn1]
  refine wpAny_bind (wpAny_standAt (wpAny_bind (mono0 (turn n s hI) fun r s₁ h₁ => ?_)))
  cases r with
  | none => exact wpAny_pure h₁
  | some v =>
    refine wpAny_bind (mono0 h₁ fun _ s₂ h₂ => wpAny_bind (mono0 h₂ fun _ s₃ h₃ => ?_))
    exact wpAny_bind (wpAny_bind (mono0 h₃ fun x s₄ h₄ => wpAny_bind (wpAny_standAt (wpAny_bind (mono0 h₄ fun _ s₅ h₅ => wpAny_pure (wpAny_pure ⟨rfl, h₅⟩))))))
theorem siStart1 (h0 : codeAny (model prog w) A (.compLoop (.SetComp elt [⟨t0, i0, [], 0⟩, ⟨t1, i1, [], 0⟩] scope pos) 1 it acc env) R s)
    (h : wpAny (model prog w) A (pyIter it) (fun it' s' => codeAny (model prog w) A (.compLoop (.SetComp elt [⟨t0, i0, [], 0⟩, ⟨t1, i1, [], 0⟩] scope pos) 1 it' acc env) R s') (notedBy (model prog w) A env fun x s' => R (.error x) s') s) :
    codeAny (model prog w) A (.compStart (.SetComp elt [⟨t0, i0, [], 0⟩, ⟨t1, i1, [], 0⟩] scope pos) 1 it acc env) R s := by
  refine codeAny_of_tree ?_
  show wpAny _ _ ((compStart (.SetComp elt [⟨t0, i0, [], 0⟩, ⟨t1, i1, [], 0⟩] scope pos) 1 it acc env).onRaise (fun x => do noteFrame x env; standAt theWindowsPlace)) _ _ s
  refine wpAny_notedAt ?_
  unfold compStart
  show wpAny _ _ (ask >>= _) _ _ s
  refine wpAny_bind (wpAny_askSetting (wpAny_ite ?_))
  split
  · first
      | exact wpAny_bind (wpAny_pure (wpAny_pure (And.intro rfl h0)))
      | exact wpAny_pure (And.intro rfl h0)
  · first
      | exact wpAny_bind (wpAny_rule (wpAny_bind (wpAny_standAt (wpAny_bind (wpAny_mono h (fun it' s' h' => wpAny_pure (And.intro rfl h')) fun _ _ x => x)))))
      | (refine wpAny_bind (wpAny_rule ?_); show wpAny _ _ (standAt i1.pos >>= _) _ _ s; exact wpAny_bind (wpAny_standAt (wpAny_bind (wpAny_mono h (fun it' s' h' => wpAny_pure (And.intro rfl h')) fun _ _ x => x))))
end

section
variable {X : Cx}
/-- one more member -/
def setPut (w : World) (H : Hp) (D : Addr) (S : Int → Bool) (n : Nat) (k : Int) : Hp := upd H D (SetO w D (fun j => S j || decide (j = k)) (if S k = true then n else n + 1))
/-- {elt for tg in iter for tg1 in iter1}, ints -/
def tSi (w : World) (wi : TI) (g : TG) (wi1 : TI) (g1 : TG) (te : TE) (vs vs1 : List Nat) : TE := fun σ H Q => wi σ H fun J H1 => ∀ D, H1 D = none →
  ∃ W : Nat → Nat → Hp → Prop, (∃ m, W 0 m (upd H1 D (SetO w D (fun _ => false) 0))) ∧ ∀ i m H, W i m H →
    (J.stop i H ∧ Q (.ref D) H) ∨ (J.go i H ∧ ∃ Nx : Hp → Prop, (∀ H', Nx H' → ∃ m', m' < m ∧ W (i + 1) m' H') ∧ ∀ x H', J.yld i H x H' → g x (wipe σ vs) H' fun σ2 H2 => wipe σ2 vs = wipe σ vs ∧
      wi1 σ2 H2 fun J1 H4 => ∃ W1 : Nat → Nat → Hp → Prop, (∃ m, W1 0 m H4) ∧ ∀ j k H, W1 j k H →
        (J1.stop j H ∧ Nx H) ∨ (J1.go j H ∧ ∃ Nx1 : Hp → Prop, (∀ H', Nx1 H' → ∃ k', k' < k ∧ W1 (j + 1) k' H') ∧ ∀ x H', J1.yld j H x H' → g1 x (wipe σ2 vs1) H' fun σ3 H5 => wipe σ3 vs1 = wipe σ2 vs1 ∧
          te σ3 H5 fun y H7 => ∃ (k : Int) (S : Int → Bool) (n : Nat), y = .int k ∧ H7 D = some (SetO w D S n) ∧ n + 1 < scanBound ∧ Nx1 (setPut w H7 D S n k)))
theorem putI_ok {pins : List (Addr × Obj)} {σ : L2.St} {H : Hp} {s : Shared} {E : Value → Shared → Prop} {D : Addr} {S : Int → Bool} {n : Nat} {y : Int} {v : Value} {Q : Value → Shared → Prop} (I : Inv X pins σ H s) (hD : H D = some (SetO X.w D S n)) (room : n + 1 < scanBound) (r : RelV (.int y) v)
    (h : ∀ s', Inv X pins σ (setPut X.w H D S n y) s' → Q .none s') : wpAny (model X.prog X.w) X.A (call (.builtin "set.add") [.ref D, v]) Q E s := by
  obtain ⟨t, rfl⟩ := r
  refine setR_add (setO_get I hD) room fun h' sb new => ?_
  exact h _ (I.write (e := D) (t' := s.toks + 1) (by rw [hD]; trivial) (.inl rfl) (fun b u hb hu => (sb.2 b hb).trans hu) (by obtain ⟨o, _, _, _, ho, _⟩ := new; exact ⟨o, ho⟩) (setO_new new))
theorem pe_si {elt tg iter tg1 iter1 : Expr} {scope : Scope} {own : List (Str × Nat)} {vs1 : List Nat} {pos : Pos} {wi wi1 : TI} {g g1 : TG} {te : TE} (hc : X.calm = true) (hN : X.N.Nodup) (hi : PI X tg iter wi) (ok : BlkOk X.N X.env.scope scope own) (hv : ∀ i ∈ vs1, i ∈ own.map (·.2))
    (hg : ∀ (s : Shared) (H : Hp) (C : Addr) (cl : List (Str × Addr)) (fp : List Addr), PG (X.blk s H scope (compEnvC scope cl C X.env) fp) tg g)
    (hi1 : ∀ (s : Shared) (H : Hp) (C : Addr) (cl : List (Str × Addr)) (fp : List Addr), PI (X.blk s H scope (compEnvC scope cl C X.env) fp) tg1 iter1 wi1)
    (hg1 : ∀ (s : Shared) (H : Hp) (C : Addr) (cl : List (Str × Addr)) (fp : List Addr), PG (X.blk s H scope (compEnvC scope cl C X.env) fp) tg1 g1)
    (he : ∀ (s : Shared) (H : Hp) (C : Addr) (cl : List (Str × Addr)) (fp : List Addr), PE (X.blk s H scope (compEnvC scope cl C X.env) fp) elt te)
    (hs : ∀ x, foldedSetIterable iter X.env x = pure x := by intro _; rfl) (hs1 : ∀ env x, foldedSetIterable iter1 env x = pure x := by intro _ _; rfl) :
    PE X (.SetComp elt [⟨tg, iter, [], 0⟩, ⟨tg1, iter1, [], 0⟩] scope pos) (tSi X.w wi g wi1 g1 te (own.map (·.2)) vs1) := by
  refine ⟨fun pins s σ H Q I h => ?_⟩
  rw [eval_SetComp]
  have hfree : ∀ y ∈ scope.names, y.2 = .free → ∃ c, X.env.cells.lookup y.1 = some c := fun y hy e => (ok.free y hy e).elim (fun k => I.ok.has _ (.inl k)) fun k => I.ok.has _ (.inr k)
  refine wpAny_comprehension_free (use := none) rfl hs (closure_ok hfree) ok.kind (fun y hy e => by rw [ok.uniq y hy, e])
    (thn (hi.run pins s σ H _ I h) fun xv s1 hx => thn hx fun itv s2 h2 => ?_)
  obtain ⟨it, fp, tn, J, H2, rfl, I2, T, st2, f2, q⟩ := h2
  refine newSet_ok (newEnv_comp ?_)
  generalize hD : s2.heap.objs.size = D
  have hDn : H2 D = none := I2.hok.fresh (Nat.le_of_eq hD)
  obtain ⟨W, ⟨m0, w0⟩, turn⟩ := q D hDn
  generalize hs3 : ({ s2 with heap := s2.heap.push { cls := .type "set", dict := none, data := .set #[] 0 (.fresh 0 0 (!X.w.params.followText "set-order")) } } : Shared) = s3
  generalize hH3 : upd H2 D (SetO X.w D (fun _ => false) 0) = H3 at w0
  have I3 : Inv X pins σ H3 s3 := by
    rw [← hs3, ← hH3]
    refine I2.laid (t' := s2.toks) (fun b o e => Heap.get?_push_of_some _ e) (Nat.le_of_eq hD) ?_
    rw [← hD]
    exact setO_new (setR_fresh X.w)
  have h3 : s3.heap = s2.heap.push { cls := .type "set", dict := none, data := .set #[] 0 (.fresh 0 0 (!X.w.params.followText "set-order")) } := by rw [← hs3]
  have f3 : ∀ b ∈ fp, FpOk X pins H3 b ∧ b < s3.heap.objs.size := fun b hb => by
    obtain ⟨o, e, _⟩ := T.obj _ _ st2 b hb
    have hlt := Heap.lt_size e
    refine ⟨⟨?_, (f2 b hb).2⟩, by rw [h3, Heap.size_push]; exact Nat.lt_succ_of_lt hlt⟩
    rw [← hH3, upd_ne (by rw [← hD]; exact Nat.ne_of_lt hlt)]
    exact (f2 b hb).1
  have st3 : tn 0 s3.heap := T.keep _ _ _ st2 fun b _ o e => by rw [h3]; exact Heap.get?_push_of_some _ e
  have I4 := block_start I3 ok hN f3
  generalize hcl : cellsFrom (s3.heap.objs.size + 1) scope.names (cloFrom X.env.cells scope.names []) = cl at I4 ⊢
  have pg := hg s3 H3 s3.heap.objs.size cl fp
  have pe := he s3 H3 s3.heap.objs.size cl fp
  have pi1 := hi1 s3 H3 s3.heap.objs.size cl fp
  have pg1 := hg1 s3 H3 s3.heap.objs.size cl fp
  show codeAny _ _ (.compStart (.SetComp elt [⟨tg, iter, [], 0⟩, ⟨tg1, iter1, [], 0⟩] scope pos) 0 (.ref it) (.ref D) (compEnvC scope cl s3.heap.objs.size X.env)) (compPost (model X.prog X.w) X.A X.xe none (EP X pins σ Q) (.ref D) s3.heap.objs.size) { s3 with heap := pushCells (s3.heap.push { cls := .type "dict", data := .dict #[] }) scope.names }
  have nfp : ∀ b ∈ fp, H3 b = none := fun b hb => (f3 b hb).1.1
  generalize hce : compEnvC scope cl s3.heap.objs.size X.env = ce at I4 pg pe pi1 pg1 ⊢
  have cL : ce.locals = s3.heap.objs.size := by subst hce; rfl
  generalize hs4 : ({ s3 with heap := pushCells (s3.heap.push { cls := .type "dict", data := .dict #[] }) scope.names } : Shared) = s4 at I4 ⊢
  have st4 : tn 0 s4.heap := T.keep _ _ _ st3 fun b _ o e => by rw [← hs4]; exact pushCells_keeps _ _ _ _ (Heap.get?_push_of_some _ e)
  have stat : ∀ {σ' : L2.St} {H' : Hp} {s' : Shared}, Inv (X.blk s3 H3 scope ce fp) [] σ' H' s' → (∀ b ∈ fp, H' b = none) → ∀ b ∈ fp, FpOk (X.blk s3 H3 scope ce fp) [] H' b := fun I' hn b hb =>
    ⟨hn b hb, (I'.ok.exf b hb).1, I'.ok.exfs b hb, .inl hb, fun x c e => (I'.ok.exf b hb).2 x c e, fun p hp => absurd (show p ∈ ([] : List (Addr × Obj)) ++ [] from hp) (by simp)⟩
  have loop : codeAny (model X.prog X.w) X.A (.compLoop (.SetComp elt [⟨tg, iter, [], 0⟩, ⟨tg1, iter1, [], 0⟩] scope pos) 0 (.ref it) (.ref D) ce) (compPost (model X.prog X.w) X.A X.xe none (EP X pins σ Q) (.ref D) s3.heap.objs.size) s4 := by
    refine siLoop0 (hs1 ce) (fun n s' => ∃ i H', Inv (X.blk s3 H3 scope ce fp) [] (wipe σ (own.map (·.2))) H' s' ∧ tn i s'.heap ∧ (∀ b ∈ fp, H' b = none) ∧ W i n H') ?_ m0 ⟨0, H3, I4, st4, nfp, w0⟩
    rintro n s5 ⟨i, H5, I5, st5, n5, w5⟩
    rcases turn i n H5 w5 with ⟨stop, qq⟩ | ⟨go, Nx, hNx, step⟩
    · refine mono0 (T.done (X.blk s3 H3 scope ce fp) rfl rfl rfl hc i [] s5 _ H5 (fun _ _ => False) I5 (stat I5 n5) st5 stop) fun r s6 hr6 => ?_
      obtain ⟨rfl, I6⟩ := hr6
      have I7 : Inv X pins σ H5 s6 := I3.call' (ch := fp) I6.os I6.base I6.hok I6.bare fun b hb => ⟨(f3 b hb).1.2.2.2.1, (f3 b hb).1.2.1, (f3 b hb).1.2.2.2.2.1, (f3 b hb).1.2.2.2.2.2⟩
      have nC : H5 s3.heap.objs.size = none := by
        have z : H5 ce.locals = none := I6.free
        rw [cL] at z
        exact z
      obtain ⟨m, hn, _⟩ := I6.loc
      have hn : s6.heap.Ns ce.locals m := hn
      rw [cL] at hn
      refine ⟨m, hn, fun h'' sb => ?_⟩
      obtain ⟨f0, f1, f2, f3, f4, f5⟩ := I3.fpOk (Nat.le_refl _) nC
      exact ⟨.ref D, H5, I7.turned (t' := s6.toks) (fun b o hb e => (sb.2 b hb).trans e) f0 f1 f3 f4 f5, rfl, qq⟩
    · refine mono0 (T.item (X.blk s3 H3 scope ce fp) rfl rfl rfl hc i [] s5 _ H5 (fun _ _ => False) I5 (stat I5 n5) st5 go) fun r s6 hr6 => ?_
      obtain ⟨u, rfl, h6⟩ := hr6
      refine mono0 h6 fun _ s7 h7 => ?_
      obtain ⟨x, H7, I7, r7, y7, st7, n7⟩ := h7
      have I7' := I7.pinned (stat I7 n7) (T.obj _ _ st7)
      refine mono0 (pg.run _ s7 _ H7 x u _ I7' r7 (step x H7 y7)) fun _ s8 h8 => ?_
      obtain ⟨σ8, H8, I8, hw8, q8⟩ := h8
      have hl8 : (wipe σ (own.map (·.2))).length = σ8.length := by rw [← hw8, wipe_length]
      have hk9 : ∀ (j : Nat) v, (wipe σ (own.map (·.2)))[j]? = some (some v) → (wipe σ8 vs1)[j]? = some (some v) := fun j v e => by
        rw [← hw8] at e
        obtain ⟨e1, e2⟩ := wipe_some e
        rw [wipe_out fun z => e2 (hv j z)]
        exact e1
      refine mono0 (pi1.run _ s8 σ8 H8 _ I8 q8) fun xv s10 hx => mono0 hx fun itv s11 h11 => ?_
      obtain ⟨it1, fp1, tn1, J1, H11, rfl, I11, T1, st11, f11, W1, ⟨m1, w1⟩, turn1⟩ := h11
      have stat1 : ∀ {H' : Hp}, (∀ b ∈ fp1, H' b = none) → ∀ b ∈ fp1, FpOk (X.blk s3 H3 scope ce fp) ([] ++ pinsAt fp s7.heap) H' b := fun hn b hb => ⟨hn b hb, (f11 b hb).2⟩
      have loop1 : codeAny (model X.prog X.w) X.A (.compLoop (.SetComp elt [⟨tg, iter, [], 0⟩, ⟨tg1, iter1, [], 0⟩] scope pos) 1 (.ref it1) (.ref D) ce)
          (fun r s' => match r with
            | .ok _ => ∃ m, m < n ∧ ∃ i H', Inv (X.blk s3 H3 scope ce fp) [] (wipe σ (own.map (·.2))) H' s' ∧ tn i s'.heap ∧ (∀ b ∈ fp, H' b = none) ∧ W i m H'
            | .error _ => False) s11 := by
        refine siLoop1 (fun k s' => ∃ j H', Inv (X.blk s3 H3 scope ce fp) ([] ++ pinsAt fp s7.heap) (wipe σ8 vs1) H' s' ∧ tn1 j s'.heap ∧ (∀ b ∈ fp1, H' b = none) ∧ W1 j k H') ?_ m1
          ⟨0, H11, I11.weak (wipe_length _ _) (fun j v e => (wipe_some e).1), st11, fun b hb => (f11 b hb).1, w1⟩
        rintro k s12 ⟨j, H12, I12, st12, n12, w12⟩
        rcases turn1 j k H12 w12 with ⟨stop1, nx1⟩ | ⟨go1, Nx1, hNx1, step1⟩
        · refine mono0 (T1.done (X.blk s3 H3 scope ce fp) rfl rfl rfl hc j _ s12 (wipe σ8 vs1) H12 (fun _ _ => False) I12 (stat1 n12) st12 stop1) fun r s13 h13 => ?_
          obtain ⟨rfl, I13⟩ := h13
          obtain ⟨m', hm, w'⟩ := hNx _ nx1
          have pin' : ∀ b ∈ fp, ∀ o, s7.heap.get? b = some o → s13.heap.get? b = some o ∧ H12 b = none := fun b hb o e =>
            have z := I13.pin (b, o) (List.mem_append_right _ (List.mem_append_right _ (mem_pinsAt hb e)))
            ⟨z.1, z.2.1⟩
          refine ⟨m', hm, i + 1, H12, (I13.unpinned (pins := [])).weak (hl8.trans (wipe_length σ8 vs1).symm) hk9, T.keep _ _ _ st7 fun b hb o e => (pin' b hb o e).1, fun b hb => ?_, w'⟩
          obtain ⟨o, e, _⟩ := T.obj _ _ st7 b hb
          exact (pin' b hb o e).2
        · refine mono0 (T1.item (X.blk s3 H3 scope ce fp) rfl rfl rfl hc j _ s12 (wipe σ8 vs1) H12 (fun _ _ => False) I12 (stat1 n12) st12 go1) fun r s13 h13 => ?_
          obtain ⟨u1, rfl, h13⟩ := h13
          refine mono0 h13 fun _ s14 h14 => ?_
          obtain ⟨x1, H14, I14, r14, y14, st14, n14⟩ := h14
          have I14' := I14.pinned (stat1 n14) (T1.obj _ _ st14)
          refine mono0 (pg1.run _ s14 (wipe σ8 vs1) H14 x1 u1 _ I14' r14 (step1 x1 H14 y14)) fun _ s15 h15 => ?_
          obtain ⟨σ15, H15, I15, hw15, q15⟩ := h15
          refine mono0 (pe.run _ s15 σ15 H15 _ I15 q15) fun z s17 h17 => ?_
          obtain ⟨yv, H17, I17, r17, kk, S, nn, rfl, hD17, hz17, nx⟩ := h17
          refine putI_ok (X := X.blk s3 H3 scope ce fp) I17 hD17 hz17 r17 fun s18 I18 => ?_
          obtain ⟨m', hm, w'⟩ := hNx1 _ nx
          have pin' : ∀ b ∈ fp1, ∀ o, s14.heap.get? b = some o → s18.heap.get? b = some o ∧ (setPut X.w H17 D S nn kk) b = none := fun b hb o e =>
            have z := I18.pin (b, o) (List.mem_append_right _ (List.mem_append_right _ (mem_pinsAt hb e)))
            ⟨z.1, z.2.1⟩
          refine ⟨m', hm, j + 1, _, I18.unpinned.weak (by rw [← hw15, wipe_length]) (fun j v e => by rw [← hw15] at e; exact (wipe_some e).1), T1.keep _ _ _ st14 fun b hb o e => (pin' b hb o e).1, fun b hb => ?_, w'⟩
          obtain ⟨o, e, _⟩ := T1.obj _ _ st14 b hb
          exact (pin' b hb o e).2
      exact siStart1 loop1 (T1.self X.A 0 _ _ _ st11 loop1)
  exact codeAny_compStart_set loop (T.self X.A 0 _ _ _ st4 loop)
end
end BX
end
section
set_option Elab.async false
set_option linter.all false
set_option maxRecDepth 100000
set_option maxHeartbeats 4000000
namespace BX
open PySem PySem.Spec PyProof.Rows L2
/-- a walk, turn by turn, whatever is done at a turn -/
theorem walkW {J : It} {n : Nat} {G : Hp → Prop} {Y : Nat → Hp → V → Hp → Prop} (wk : Walk J n G Y) (Pv : Nat → Hp → Prop) {F : (Hp → Prop) → V → Hp → Prop} {Qd : Hp → Prop} {H0 : Hp} (h0 : Pv 0 H0) (hG : ∀ i H, i ≤ n → Pv i H → G H)
    (hs : ∀ i x H H', i < n → Pv i H → Y i H x H' → F (Pv (i + 1)) x H') (hd : ∀ H, Pv n H → Qd H) :
    ∃ W : Nat → Nat → Hp → Prop, (∃ m, W 0 m H0) ∧ ∀ i m H, W i m H → (J.stop i H ∧ Qd H) ∨ (J.go i H ∧ ∃ Nx : Hp → Prop, (∀ H', Nx H' → ∃ m', m' < m ∧ W (i + 1) m' H') ∧ ∀ x H', J.yld i H x H' → F Nx x H') := by
  refine ⟨fun i m H => i + m = n ∧ Pv i H, ⟨n, Nat.zero_add n, h0⟩, fun i m H hw => ?_⟩
  obtain ⟨e, p⟩ := hw
  have q := hG i H (by omega) p
  cases m with
  | zero => have e' : i = n := by omega
            subst e'
            exact .inl ⟨wk.stops H q, hd H p⟩
  | succ m => exact .inr ⟨wk.goes i H (by omega) q, Pv (i + 1), fun H' p' => ⟨m, Nat.lt_succ_self m, by omega, p'⟩, fun x H' y => hs i x H H' (by omega) p (wk.yields i H x H' (by omega) q y)⟩
/-- .. for a statement's loop: the slots too -/
theorem walkF {J : It} {n : Nat} {G : Hp → Prop} {Y : Nat → Hp → V → Hp → Prop} (wk : Walk J n G Y) (Pv : Nat → L2.St → Hp → Prop) {F : (L2.St → Hp → Prop) → V → L2.St → Hp → Prop} {Qd : L2.St → Hp → Prop} {σ0 : L2.St} {H0 : Hp} (h0 : Pv 0 σ0 H0) (hG : ∀ i σ H, i ≤ n → Pv i σ H → G H)
    (hs : ∀ i x σ H H', i < n → Pv i σ H → Y i H x H' → F (Pv (i + 1)) x σ H') (hd : ∀ σ H, Pv n σ H → Qd σ H) :
    ∃ W : Nat → Nat → L2.St → Hp → Prop, (∃ m, W 0 m σ0 H0) ∧ ∀ i m σ H, W i m σ H → (J.stop i H ∧ Qd σ H) ∨ (J.go i H ∧ ∃ Nx : L2.St → Hp → Prop, (∀ σ' H', Nx σ' H' → ∃ m', m' < m ∧ W (i + 1) m' σ' H') ∧ ∀ x H', J.yld i H x H' → F Nx x σ H') := by
  refine ⟨fun i m σ H => i + m = n ∧ Pv i σ H, ⟨n, Nat.zero_add n, h0⟩, fun i m σ H hw => ?_⟩
  obtain ⟨e, p⟩ := hw
  have q := hG i σ H (by omega) p
  cases m with
  | zero => have e' : i = n := by omega
            subst e'
            exact .inl ⟨wk.stops H q, hd σ H p⟩
  | succ m => exact .inr ⟨wk.goes i H (by omega) q, Pv (i + 1), fun σ' H' p' => ⟨m, Nat.lt_succ_self m, by omega, p'⟩, fun x H' y => hs i x σ H H' (by omega) p (wk.yields i H x H' (by omega) q y)⟩
/-- the set at D holds l -/
def Got (w : World) (H : Hp) (D : Addr) (l : List Int) : Prop := ∃ S n, H D = some (SetO w D S n) ∧ (∀ k, S k = true ↔ k ∈ l) ∧ n ≤ l.length
theorem Got.nil {w : World} {H : Hp} {D : Addr} : Got w (upd H D (SetO w D (fun _ => false) 0)) D [] := ⟨_, _, upd_same, fun k => by simp, Nat.le_refl _⟩
theorem Got.put {w : World} {H : Hp} {D : Addr} {l : List Int} {S : Int → Bool} {n : Nat} {k : Int} (e : H D = some (SetO w D S n)) (hS : ∀ k, S k = true ↔ k ∈ l) (hn : n ≤ l.length) : Got w (setPut w H D S n k) D (l ++ [k]) := by
  refine ⟨_, _, upd_same, fun j => ?_, ?_⟩
  · rw [Bool.or_eq_true, decide_eq_true_eq, hS, List.mem_append, List.mem_singleton]
  · rw [List.length_append, List.length_singleton]
    split <;> omega
theorem dec_and (p q : Prop) [Decidable p] [Decidable q] : decide (p ∧ q) = (decide p && decide q) := Bool.decide_and p q
/-! ### is_covered -/
abbrev sCov : Stmt := topS 15
def spCov (K : PySem.W.Frag) : Sp := fun vs H Q _ => ∃ (v : V) (s : List Spn) (x : Int), vs = [v, .int x] ∧ Dp K H v (spansD s) ∧ s.length ≤ 1000 ∧ ∀ H', Same H H' → Q (.bl (covered s x)) H'
theorem scCov : FnScope ["spans", "number", "a", "b"] ["spans", "number"] (defScope sCov) := ⟨rfl, rfl, rfl, by decide +kernel, rfl, by decide +kernel, by decide +kernel⟩
/-- one item of a tuple that holds data -/
theorem all_at {K : PySem.W.Frag} {H : Hp} {xs : List V} {α : Type} {f : α → PyData} {l : List α} {i : Nat} {x : V} (h : DpAll K H xs (l.map f)) (e : xs[i]? = some x) : ∃ a, l[i]? = some a ∧ Dp K H x (f a) := by
  obtain ⟨d, h1, h2⟩ := all_get h e
  rw [List.getElem?_map] at h1
  cases q : l[i]? with
  | none => rw [q] at h1; cases h1
  | some a => rw [q] at h1; cases h1; exact ⟨a, rfl, h2⟩
theorem take_succ' {α : Type} {l : List α} {i : Nat} {a : α} (h : l[i]? = some a) : l.take (i + 1) = l.take i ++ [a] := by rw [List.take_succ, h]; rfl
section
variable {P : Program} {w : World} {K : PySem.W.Frag} {mg : Str → Option Value} {base : Heap}
theorem ok_cov {f : Addr} {fd : FuncData} (F : FnP K "is_covered" "is_covered" sCov f fd) (hm : mg "is_covered" = some (.ref f)) (B : Bt mg) : C8.Cal P w K mg base 1 "is_covered" (spCov K) [] := by
  refine calP F hm scCov (fun _ _ _ _ _ _ us hl => match us, hl with | [_, _], _ => rfl) (fun vs H Q E h => ?_) (fun cdv A outer s H vs Q E hr h => ?_)
  · obtain ⟨v, s, x, rfl, _⟩ := h
    rfl
  · obtain ⟨v, l, x, rfl, hD, hlen, k⟩ := h
    refine ⟨_, pss_one (ps_ret (pe_callB (cr_any rfl) (by rfl) B.any (by decide +kernel) (pa_cons
      (pe_lc (own := [("a", 2), ("b", 3)]) (g := gTup K 2 (gCons (gName 2) (gCons (gName 3) gNil))) rfl scCov.nd (pi_tup (pv 0)) (blkOk_by rfl)
        (fun _ _ _ _ _ => pg_tup (n := 2) rfl (pgs_cons (pg_name (i := 2) scCov.nd rfl (Or.inl rfl) (.inr rfl)) (pgs_cons (pg_name (i := 3) scCov.nd rfl (Or.inl rfl) (.inr rfl)) pgs_nil)))
        (fun _ _ _ _ _ => pts_nil) (fun _ _ _ _ _ => pe_chain op_le op_lt (pv 2) (pv 1) (pv 3))) pa_nil))), ?_⟩
    obtain ⟨a, xs, rfl, hT, hA⟩ := dp_tup hD
    have lx : xs.length = l.length := by rw [all_len hA, List.length_map]
    refine ⟨_, rfl, a, rfl, ⟨_, hT⟩, fun D hDn => walkW (walk_tup (xs := xs)) (fun i H' => Same H H' ∧ H' D = some (.lst ((l.take i).map fun p => .bl (inS p x)))) ⟨Same.upd1 hDn, upd_same⟩ (fun i H' _ p => (TK.of p.1).seq hT) ?_ ?_⟩
    · rintro i y H1 H2 hi ⟨s1, e1⟩ ⟨rfl, hy⟩
      obtain ⟨p, hp, hy⟩ := all_at hA hy
      obtain ⟨t, rfl, ht⟩ := dp_span hy
      refine ⟨t, _, rfl, (TK.of s1).seq ht, rfl, _, _, rfl, _, _, rfl, rfl, rfl, ?_⟩
      refine ⟨_, rfl, _, rfl, _, _, rfl, rfl, _, rfl, ?_⟩
      have fin : ∀ b, b = inS p x → ∃ acc, H2 D = some (.lst acc) ∧ acc.length < sizeLine ∧ (fun i H' => Same H H' ∧ H' D = some (.lst ((l.take i).map fun p => V.bl (inS p x)))) (i + 1) (upd H2 D (.lst (acc ++ [.bl b]))) := by
        rintro b rfl
        refine ⟨_, e1, ?_, Same.updN s1 hDn, ?_⟩
        · rw [List.length_map, List.length_take]
          exact Nat.lt_of_le_of_lt (Nat.le_trans (Nat.min_le_right _ _) hlen) (by decide)
        · rw [upd_same, take_succ' hp, List.map_append]
          rfl
      by_cases h1 : p.1 ≤ x
      · rw [decide_eq_true h1]
        refine iteT ⟨_, rfl, _, _, rfl, rfl, fin _ ?_⟩
        show decide (x < p.2) = (decide (p.1 ≤ x) && decide (x < p.2))
        rw [decide_eq_true h1]
        rfl
      · rw [decide_eq_false h1]
        refine iteF (fin _ ?_)
        show false = (decide (p.1 ≤ x) && decide (x < p.2))
        rw [decide_eq_false h1]
        rfl
    · rintro H1 ⟨s1, e1⟩
      rw [lx, List.take_length] at e1
      refine ⟨D, l.map fun p => inS p x, rfl, SqL.of (by rw [e1, List.map_map]; rfl), ?_⟩
      have := k H1 s1
      rw [List.any_map]
      exact this
/-! ### is_wanted -/
abbrev sWant : Stmt := topS 16
def wdS : Wd → Str
  | .or => "or"
  | .and => "and"
  | .less => "less"
def spWant : Sp := fun vs H Q _ => ∃ (a b : Bool) (wd : Wd), vs = [.bl a, .bl b, .str (wdS wd)] ∧ Q (.bl (wanted wd a b)) H
theorem scWant : FnScope ["in_one", "in_other", "word"] ["in_one", "in_other", "word"] (defScope sWant) := ⟨rfl, rfl, rfl, by decide +kernel, rfl, by decide +kernel, by decide +kernel⟩
theorem ok_want {f : Addr} {fd : FuncData} (F : FnP K "is_wanted" "is_wanted" sWant f fd) (hm : mg "is_wanted" = some (.ref f)) : C8.Cal P w K mg base 1 "is_wanted" spWant [] := by
  refine calP F hm scWant (fun _ _ _ _ _ _ us hl => match us, hl with | [_, _, _], _ => rfl) (fun vs H Q E h => ?_) (fun cdv A outer s H vs Q E hr h => ?_)
  · obtain ⟨a, b, wd, rfl, _⟩ := h
    rfl
  · obtain ⟨a, b, wd, rfl, k⟩ := h
    refine ⟨_, pss_cons (ps_if (pt_cmpR op_eq (pv 2) pe_str (nomark _)) (pss_one (ps_ret (pe_or (pv 0) (pe_one (pv 1))))) pss_nil)
      (pss_cons (ps_if (pt_cmpR op_eq (pv 2) pe_str (nomark _)) (pss_one (ps_ret (pe_and (pv 0) (pe_one (pv 1))))) pss_nil)
      (pss_one (ps_ret (pe_ifExp (pt_cmpR op_eq (pv 2) pe_str (nomark _)) (pe_cmpR op_ne (pv 0) (pv 1) (nomark _)) (pe_and (pv 0) (pe_one (pe_not (pv 1)))))))), ?_⟩
    cases wd with
    | or =>
      refine ⟨_, rfl, rfl, _, rfl, iteT ⟨_, rfl, a, rfl, ?_⟩⟩
      cases a with
      | true => exact iteT k
      | false => exact iteF ⟨_, rfl, k⟩
    | and =>
      refine ⟨_, rfl, rfl, _, rfl, iteF ⟨_, rfl, rfl, _, rfl, iteT ⟨_, rfl, a, rfl, ?_⟩⟩⟩
      cases a with
      | true => exact iteT ⟨_, rfl, k⟩
      | false => exact iteF k
    | less =>
      refine ⟨_, rfl, rfl, _, rfl, iteF ⟨_, rfl, rfl, _, rfl, iteF ⟨_, rfl, rfl, _, rfl, iteF ⟨_, rfl, a, rfl, ?_⟩⟩⟩⟩
      cases a with
      | true => exact iteT ⟨_, rfl, b, rfl, k⟩
      | false => exact iteF k
end
end BX
end
section
set_option Elab.async false
set_option linter.all false
set_option maxRecDepth 100000
set_option maxHeartbeats 4000000
namespace BX
open PySem PySem.Spec PyProof.Rows L2
/-! ### what the walks share -/
theorem sq_of_tk {K : PySem.W.Frag} {H H' : Hp} {a : Addr} {xs : List V} (s : Same H H') (h : SqT K H a xs) : SqT K H' a xs := (TK.of s).seq h
theorem dp_cat {K : PySem.W.Frag} {H : Hp} {v u : V} {ds es : List PyData} {Q : VK} (hv : Dp K H v (.tuple ds)) (hu : Dp K H u (.tuple es)) (td : tupAll ds = true) (te : tupAll es = true) (hl : ds.length + es.length ≤ 1000)
    (k : ∀ c H', Same H H' → Dp K H' (.ref c) (.tuple (ds ++ es)) → Q (.ref c) H') : rCatA K v u H Q := by
  obtain ⟨a, xs, rfl, ha, hx⟩ := dp_tup hv
  obtain ⟨b, ys, rfl, hb, hy⟩ := dp_tup hu
  have lx := all_len hx
  have ly := all_len hy
  refine ⟨a, b, xs, ys, rfl, rfl, ha, hb, Nat.le_trans (by omega) (show (1000 : Nat) ≤ sizeLine by decide), fun e => ?_, fun _ e => ?_, fun _ _ p hp => ?_⟩
  · subst e
    cases hx
    exact k b H (Same.refl H) hu
  · subst e
    cases hy
    rw [List.append_nil] at k
    exact k a H (Same.refl H) hv
  · have s : Same H (upd H p (.tup (xs ++ ys))) := Same.upd1 hp
    exact k p _ s (.tup (SqT.of upd_same) (DpAll.tk (TK.of s) _ _ (by
      have : ∀ l m : List PyData, tupAll l = true → tupAll m = true → tupAll (l ++ m) = true := by
        intro l m hl hm
        induction l with
        | nil => exact hm
        | cons d l ih =>
          have h' : (tupD d && tupAll l) = true := hl
          rw [Bool.and_eq_true] at h'
          show (tupD d && tupAll (l ++ m)) = true
          rw [h'.1, ih h'.2]; rfl
      exact this _ _ td te) (all_app hx hy)))
theorem sorted_got {w : World} {H : Hp} {D : Addr} {l : List Int} {Q : VK} (g : Got w H D l) (hl : l.length < 64) (k : ∀ p, H p = none → Q (.ref p) (upd H p (.lst ((sortU l).map V.int)))) : rSortedSet w [.ref D] H Q := by
  obtain ⟨S, n, h1, h2, h3⟩ := g
  refine ⟨D, S, n, rfl, h1, by omega, fun ns p ha hm _ hp => ?_⟩
  have e : ns = sortU l := asc_ext ha asc_sortU fun j => by rw [hm, h2, mem_sortU]
  subst e
  exact k p hp
theorem insU_len (k : Int) : ∀ l : List Int, (insU k l).length ≤ l.length + 1
  | [] => Nat.le_refl _
  | x :: r => by
    unfold insU
    split
    · simp
    · split
      · simp
      · have := insU_len k r
        simp only [List.length_cons]
        omega
theorem sortU_len : ∀ l : List Int, (sortU l).length ≤ l.length
  | [] => Nat.le_refl _
  | x :: r => by
    have h1 := insU_len x (sortU r)
    have h2 := sortU_len r
    show (insU x (sortU r)).length ≤ r.length + 1
    omega
theorem gaps_tail_len (l : List Int) : (gaps l).length = min l.length l.tail.length := by unfold gaps; rw [List.length_zip]
theorem walk_gaps {K : PySem.W.Frag} {a b : Addr} {ns : List Int} : Walk (Itz K a b) (gaps ns).length (fun H => SqL K H a (ns.map V.int) ∧ SqL K H b (ns.tail.map V.int))
    (fun i H v H' => ∃ T p, v = .ref T ∧ H T = none ∧ H' = upd H T (.tup [.int p.1, .int p.2]) ∧ (gaps ns)[i]? = some p) := by
  refine (walk_zip (n := (gaps ns).length) (by rw [gaps_tail_len, List.length_map, List.length_map])).mono (fun _ h => h) fun i H x H' _ _ y => ?_
  obtain ⟨T, x1, x2, h1, h2, h3, h4, h5⟩ := y
  have h4 : (ns.map V.int)[i]? = some x1 := h4
  have h5 : (ns.tail.map V.int)[i]? = some x2 := h5
  rw [List.getElem?_map] at h4 h5
  cases e1 : ns[i]? with
  | none => rw [e1] at h4; cases h4
  | some u =>
    cases e2 : ns.tail[i]? with
    | none => rw [e2] at h5; cases h5
    | some v =>
      rw [e1] at h4
      rw [e2] at h5
      cases h4
      cases h5
      refine ⟨T, (u, v), h1, h2, h3, ?_⟩
      unfold gaps
      rw [List.getElem?_zip_eq_some]
      exact ⟨e1, e2⟩
theorem cut_tail (l : List Int) : cutV (l.map V.int) (some 1) none = l.tail.map V.int := by
  unfold cutV
  cases l with
  | nil => rfl
  | cons x r =>
    simp [HT.sIx, List.take_of_length_le]
/-! ### combined -/
abbrev sComb : Stmt := topS 17
def spComb (K : PySem.W.Frag) : Sp := fun vs H Q _ => ∃ (v u : V) (s t : List Spn) (wd : Wd), vs = [v, u, .str (wdS wd)] ∧ Dp K H v (spansD s) ∧ Dp K H u (spansD t) ∧ s.length ≤ 8 ∧ t.length ≤ 8 ∧
  ∀ r H', Same H H' → Dp K H' r (spansD (combined s t wd)) → Q r H'
abbrev nComb : List Str := ["one", "other", "word", "ends", "found", "a", "b", "span", "end"]
theorem scComb : FnScope nComb ["one", "other", "word"] (defScope sComb) := C8.fnScope_by (by decide +kernel)
theorem endsOf_take {l : List Spn} : endsOf l = sortU (l.flatMap fun p => [p.1, p.2]) := rfl
theorem flat_take {α : Type} {l : List α} {i : Nat} {a : α} {f : α → List Int} (h : l[i]? = some a) : (l.take (i + 1)).flatMap f = (l.take i).flatMap f ++ f a := by rw [take_succ' h, List.flatMap_append]; simp
theorem flat_len2 {α : Type} {f g : α → Int} : ∀ l : List α, (l.flatMap fun p => [f p, g p]).length = 2 * l.length
  | [] => rfl
  | p :: l => by
    rw [List.flatMap_cons, List.length_append, flat_len2 l]
    simp only [List.length_cons, List.length_nil]
    omega
theorem filter_take {α : Type} {l : List α} {i : Nat} {a : α} {f : α → Bool} (h : l[i]? = some a) : (l.take (i + 1)).filter f = (l.take i).filter f ++ (if f a = true then [a] else []) := by
  rw [take_succ' h, List.filter_append]
  cases e : f a <;> simp [e]
theorem filter_len {α : Type} (l : List α) (f : α → Bool) (i : Nat) : ((l.take i).filter f).length ≤ l.length := Nat.le_trans (List.length_filter_le _ _) (by rw [List.length_take]; exact Nat.min_le_right _ _)
section
variable {P : Program} {w : World} {K : PySem.W.Frag} {mg : Str → Option Value} {base : Heap}
theorem ok_comb {f : Addr} {fd : FuncData} (F : FnP K "combined" "combined" sComb f fd) (hm : mg "combined" = some (.ref f)) (B : Bt mg)
    (CM : C8.Cal P w K mg base 1 "merged" (spMerged K) []) (CC : C8.Cal P w K mg base 1 "is_covered" (spCov K) []) (CW : C8.Cal P w K mg base 1 "is_wanted" spWant []) : C8.Cal P w K mg base 2 "combined" (spComb K) [] := by
  refine calP F hm scComb (fun _ _ _ _ _ _ us hl => match us, hl with | [_, _, _], _ => rfl) (fun vs H Q E h => ?_) (fun cdv A outer s H vs Q E hr h => ?_)
  · obtain ⟨v, u, s, t, wd, rfl, _⟩ := h
    rfl
  · obtain ⟨v, u, sp, tp, wd, rfl, hv, hu, ls, lt, k⟩ := h
    refine ⟨_, pss_cons (ps_set (i := 3) scComb.nd rfl (Or.inl rfl) (pe_callB (cr_sortedSet rfl) (by rfl) B.sorted (by decide +kernel) (pa_cons
        (pe_si (own := [("span", 7), ("end", 8)]) (vs1 := [8]) rfl scComb.nd (pi_tup (pe_op op_catA (pv 0) (pv 1))) (blkOk_by rfl) (by decide)
          (fun _ _ _ _ _ => pg_name (i := 7) scComb.nd rfl (Or.inl rfl) (.inr rfl)) (wi1 := iTup K (tVar 7)) (fun _ _ _ _ _ => pi_tup (pv 7))
          (fun _ _ _ _ _ => pg_name (i := 8) scComb.nd rfl (Or.inl rfl) (.inr rfl)) (fun _ _ _ _ _ => pv 8)) pa_nil)))
      (pss_cons (ps_set (i := 4) scComb.nd rfl (Or.inl rfl) (pe_lst pa_nil))
      (pss_cons (ps_for PassesOwn.never rfl (pi_zip (by rfl) B.zip (pa_cons (pv 3) (pa_cons (pe_slice sl_list (pv 3) (po_some pe_int) po_none) pa_nil)))
          (pg_tup rfl (pgs_cons (pg_name (i := 5) scComb.nd rfl (Or.inl rfl)) (pgs_cons (pg_name (i := 6) scComb.nd rfl (Or.inl rfl)) pgs_nil)))
        (pss_one (ps_if (pt_val (C8.pe_c CW hr (Nat.le_refl 1) (by rfl) (pa_cons (C8.pe_c CC hr (Nat.le_refl 1) (by rfl) (pa_cons (pv 0) (pa_cons (pv 5) pa_nil)))
            (pa_cons (C8.pe_c CC hr (Nat.le_refl 1) (by rfl) (pa_cons (pv 1) (pa_cons (pv 5) pa_nil))) (pa_cons (pv 2) pa_nil)))))
          (pss_one (ps_expr (pe_bm PySem.F.plainAttrs_list PySem.F.slot_list_append PySem.F.type_list_append mt_append (pv 4) (pa_cons (pe_tup (pa_cons (pv 5) (pa_cons (pv 6) pa_nil))) pa_nil)))) pss_nil)))
      (pss_one (ps_ret (C8.pe_c CM hr (Nat.le_refl 1) (by rfl) (pa_cons (pv 4) pa_nil)))))), ?_⟩
    refine ⟨_, rfl, _, rfl, dp_cat hv hu (tup_spans sp) (tup_spans tp) (by rw [List.length_map, List.length_map]; omega) fun c H1 s1 hc => ?_⟩
    rw [← List.map_append] at hc
    obtain ⟨c, xs, e, hT, hA⟩ := dp_tup hc
    cases e
    have lx : xs.length = (sp ++ tp).length := by rw [all_len hA, List.length_map]
    generalize hl : sp ++ tp = l at hA lx hc
    have ll : l.length ≤ 16 := by rw [← hl, List.length_append]; omega
    refine ⟨c, rfl, ⟨xs, hT⟩, fun D hD => walkW (walk_tup (xs := xs)) (fun i H' => Same H1 H' ∧ Got w H' D ((l.take i).flatMap fun p => [p.1, p.2])) ⟨Same.upd1 hD, Got.nil⟩ (fun i H' _ p => sq_of_tk p.1 hT) ?_ ?_⟩
    · rintro i y H2 H3 hi ⟨s2, g2⟩ ⟨rfl, hy⟩
      obtain ⟨p, hp, hy⟩ := all_at hA hy
      obtain ⟨t, rfl, ht⟩ := dp_span hy
      refine ⟨rfl, _, rfl, t, rfl, ⟨_, sq_of_tk s2 ht⟩, walkW (walk_tup (xs := [.int p.1, .int p.2])) (fun j H' => Same H1 H' ∧ Got w H' D (((l.take i).flatMap fun p => [p.1, p.2]) ++ [p.1, p.2].take j)) ⟨s2, by rw [List.take_zero, List.append_nil]; exact g2⟩ (fun j H' _ q => sq_of_tk q.1 ht) ?_ ?_⟩
      · rintro j y H4 H5 hj ⟨s4, S, n, g4, hS, hn⟩ ⟨rfl, hy⟩
        have hn2 : n ≤ 2 * l.length + 2 := by
          refine Nat.le_trans hn ?_
          rw [List.length_append, flat_len2, List.length_take, List.length_take]
          simp only [List.length_cons, List.length_nil]
          omega
        have room : n + 1 < scanBound := Nat.lt_of_le_of_lt (by omega : n + 1 ≤ 100) (by decide)
        have hk : ∃ k, [p.1, p.2][j]? = some k ∧ y = .int k := by
          match j, hj, hy with
          | 0, _, e => exact ⟨p.1, rfl, by cases e; rfl⟩
          | 1, _, e => exact ⟨p.2, rfl, by cases e; rfl⟩
        obtain ⟨kk, hk, rfl⟩ := hk
        refine ⟨rfl, _, rfl, kk, S, n, rfl, g4, room, Same.updN s4 hD, ?_⟩
        rw [take_succ' hk, ← List.append_assoc]
        exact Got.put g4 hS hn
      · rintro H4 ⟨s4, g4⟩
        refine ⟨s4, ?_⟩
        rw [flat_take hp]
        exact g4
    rintro H2 ⟨s2, g2⟩
    rw [lx, List.take_length] at g2
    unfold tNil
    show rSortedSet w [V.ref D] H2 _
    refine sorted_got g2 (by rw [flat_len2]; omega) fun e he => ?_
    have e2 : sortU (l.flatMap fun p => [p.1, p.2]) = endsOf (sp ++ tp) := by rw [hl]; rfl
    rw [e2]
    generalize hE : endsOf (sp ++ tp) = ns
    have s3 : Same H (upd H2 e (.lst (ns.map V.int))) := s1.trans (s2.trans (Same.upd1 he))
    refine ⟨Nat.zero_le _, fun d hd => ?_⟩
    have s4 : Same H (upd (upd H2 e (.lst (ns.map V.int))) d (.lst [])) := s3.trans (Same.upd1 hd)
    have hed : e ≠ d := fun q => by subst q; rw [upd_same] at hd; cases hd
    have hLe : SqL K (upd (upd H2 e (.lst (ns.map V.int))) d (.lst [])) e (ns.map V.int) := SqL.of (by rw [upd_ne hed, upd_same])
    refine ⟨_, rfl, _, rfl, _, rfl, e, _, rfl, hLe, fun q hq => ?_⟩
    rw [cut_tail]
    have hqn : H q = none := s4.free hq
    have hqe : e ≠ q := fun z => by subst z; rw [upd_ne hed, upd_same] at hq; cases hq
    have hqd : d ≠ q := fun z => by subst z; rw [upd_same] at hq; cases hq
    generalize hH5 : upd (upd (upd H2 e (.lst (ns.map V.int))) d (.lst [])) q (.lst (ns.tail.map V.int)) = H5
    have s5 : Same H H5 := by rw [← hH5]; exact s4.trans (Same.upd1 hq)
    have e5 : H5 e = some (.lst (ns.map V.int)) := by rw [← hH5, upd_ne hqe, upd_ne hed, upd_same]
    have q5 : H5 q = some (.lst (ns.tail.map V.int)) := by rw [← hH5, upd_same]
    have d5 : H5 d = some (.lst []) := by rw [← hH5, upd_ne hqd, upd_same]
    have dn : H d = none := s3.free hd
    have en : H e = none := (s1.trans s2).free he
    have nl : ns.length ≤ 64 := by
      rw [← hE]
      refine Nat.le_trans (sortU_len _) ?_
      rw [flat_len2, List.length_append]
      omega
    have gl : (gaps ns).length ≤ 64 := Nat.le_trans (gaps_len ns) nl
    let fm : Spn → Bool := fun p => wanted wd (covered sp p.1) (covered tp p.1)
    refine ⟨e, q, _, _, rfl, SqL.of e5, SqL.of q5, walkF (walk_gaps (ns := ns)) (fun i σ H' => ∃ (fx : List V) (x5 x6 x7 x8 : Option V), σ = [some v, some u, some (.str (wdS wd)), some (.ref e), some (.ref d), x5, x6, x7, x8] ∧ Same H H' ∧ H' e = some (.lst (ns.map V.int)) ∧ H' q = some (.lst (ns.tail.map V.int)) ∧ H' d = some (.lst fx) ∧ TrkP H' fx (((gaps ns).take i).filter fm))
      ⟨[], none, none, none, none, rfl, s5, e5, q5, d5, .nil⟩ (fun i σ H' _ h => ?_) ?_ ?_⟩
    · obtain ⟨_, _, _, _, _, _, _, h1, h2, _⟩ := h
      exact ⟨SqL.of h1, SqL.of h2⟩
    · rintro i y σ H6 H7 hi ⟨fx, x5, x6, x7, x8, rfl, s6, e6, q6, d6, tf⟩ ⟨T, p, rfl, hT, rfl, hp⟩
      have s7 : Same H6 (upd H6 T (.tup [.int p.1, .int p.2])) := Same.upd1 hT
      refine ⟨T, _, rfl, SqT.of upd_same, rfl, _, _, rfl, _, _, rfl, rfl, ?_⟩
      refine ⟨_, rfl, _, rfl, v, sp, p.1, rfl, spans_tk (TK.of (s6.trans s7)) hv, by omega, fun H8 s8 => ?_⟩
      refine ⟨_, rfl, _, rfl, u, tp, p.1, rfl, spans_tk (TK.of ((s6.trans s7).trans s8)) hu, by omega, fun H9 s9 => ?_⟩
      refine ⟨_, rfl, _, _, wd, rfl, _, rfl, ?_⟩
      have s79 : Same H6 H9 := s7.trans (s8.trans s9)
      have tk9 : TK H6 H9 := TK.of s79
      cases hf : wanted wd (covered sp p.1) (covered tp p.1) with
      | false =>
        refine iteF ⟨fx, _, _, x7, x8, rfl, s6.trans s79, s79 _ _ e6, s79 _ _ q6, s79 _ _ d6, ?_⟩
        rw [filter_take hp, show fm p = false from hf, if_neg (by decide), List.append_nil]
        exact tf.tk tk9
      | true =>
        refine iteT ⟨_, rfl, .inl ⟨rfl, _, SqL.of (s79 _ _ d6)⟩, _, rfl, _, rfl, (by show 2 ≤ sizeLine; decide), fun r hr' => ?_⟩
        have sr : Same H9 (upd H9 r (.tup [.int p.1, .int p.2])) := Same.upd1 hr'
        have s6r := s79.trans sr
        refine ⟨d, fx, _, rfl, rfl, s6r _ _ d6, ?_, ?_⟩
        · rw [tf.length]
          exact Nat.lt_of_le_of_lt (Nat.le_trans (filter_len _ _ _) gl) (by decide)
        have hrd : r ≠ d := fun z => by
          rw [z, s79 _ _ d6] at hr'
          cases hr'
        have hde : e ≠ d := hed
        have hqd' : q ≠ d := fun z => hqd z.symm
        refine ⟨fx ++ [.ref r], _, _, x7, x8, rfl, Same.updN (s6.trans s6r) dn, by rw [upd_ne hde]; exact s6r _ _ e6, by rw [upd_ne hqd']; exact s6r _ _ q6, upd_same, ?_⟩
        rw [filter_take hp, show fm p = true from hf, if_pos rfl]
        have tk1 : TK H6 (upd (upd H9 r (.tup [.int p.1, .int p.2])) d (.lst (fx ++ [.ref r]))) := ⟨fun b xs z => by
          rw [upd_ne (ne_of z d6 (by intro w; cases w))]
          exact s6r _ _ z, fun b o xs z => by
          rw [upd_ne (ne_of z d6 (by intro w; cases w))]
          exact s6r _ _ z⟩
        exact (tf.tk tk1).snoc (by rw [upd_ne hrd, upd_same])
    · rintro σ H6 ⟨fx, x5, x6, x7, x8, rfl, s6, e6, q6, d6, tf⟩
      rw [List.take_length] at tf
      refine ⟨_, rfl, d, fx, _, rfl, SqL.of d6, tf, ?_, fun r H7 s7 hr7 => ?_⟩
      · exact Nat.le_trans (List.length_filter_le _ _) (by omega)
      · refine k r H7 (s6.trans s7) ?_
        have : merged ((gaps ns).filter fm) = combined sp tp wd := by rw [← hE]; rfl
        rw [← this]
        exact hr7
end
end BX
end
section
set_option Elab.async false
set_option linter.all false
set_option maxRecDepth 100000
set_option maxHeartbeats 4000000
namespace BX
open PySem PySem.Spec PyProof.Rows L2
theorem drop_at {α : Type} {l : List α} {i : Nat} {a : α} (h : l[i]? = some a) : l.drop i = a :: l.drop (i + 1) := by
  obtain ⟨hi, e⟩ := List.getElem?_eq_some_iff.mp h
  rw [List.drop_eq_getElem_cons hi, e]
/-! ### spans_at -/
abbrev sSpAt : Stmt := topS 19
def spSpAt (K : PySem.W.Frag) : Sp := fun vs H Q _ => ∃ (v : V) (f : Frm) (x : Int), vs = [v, .int x] ∧ Dp K H v (formD f) ∧ ∀ r H', Same H H' → Dp K H' r (spansD (spansAt f x)) → Q r H'
theorem scSpAt : FnScope ["slabs", "x", "x1", "x2", "spans"] ["slabs", "x"] (defScope sSpAt) := C8.fnScope_by (by decide +kernel)
/-! ### slabs that a list holds -/
def TrkS (K : PySem.W.Frag) (H : Hp) (xs : List V) (f : Frm) : Prop := Paired (fun x s => ∃ t sv, x = V.ref t ∧ H t = some (.tup [.int s.1, .int s.2.1, sv]) ∧ Dp K H sv (spansD s.2.2)) xs f
theorem TrkS.dp {K : PySem.W.Frag} {H : Hp} : ∀ {xs : List V} {f : Frm}, TrkS K H xs f → DpAll K H xs (f.map slabD)
  | _, _, .nil => .nil
  | _, _, .cons ⟨_, _, e, h, hs⟩ r => by subst e; exact .cons (slab_mk h hs) (TrkS.dp r)
theorem TrkS.tk {K : PySem.W.Frag} {H H' : Hp} (e : TK H H') : ∀ {xs : List V} {f : Frm}, TrkS K H xs f → TrkS K H' xs f
  | _, _, .nil => .nil
  | _, _, .cons ⟨t, sv, q, h, hs⟩ r => .cons ⟨t, sv, q, e.tup _ _ h, spans_tk e hs⟩ (TrkS.tk e r)
theorem TrkS.snoc {K : PySem.W.Frag} {H : Hp} {xs : List V} {f : Frm} {t : Addr} {sv : V} {s : Slb} (h : TrkS K H xs f) (ht : H t = some (.tup [.int s.1, .int s.2.1, sv])) (hs : Dp K H sv (spansD s.2.2)) : TrkS K H (xs ++ [.ref t]) (f ++ [s]) := Paired.snoc h ⟨t, sv, rfl, ht, hs⟩
theorem TrkS.last {K : PySem.W.Frag} {H : Hp} {xs : List V} {acc : Frm} {l : Slb} (h : TrkS K H xs acc) (hl : acc.getLast? = some l) :
    ∃ ys t sv, xs = ys ++ [.ref t] ∧ TrkS K H ys acc.dropLast ∧ H t = some (.tup [.int l.1, .int l.2.1, sv]) ∧ Dp K H sv (spansD l.2.2) := by
  rw [getLast?_dropLast hl] at h
  have : ∀ {xs : List V} {a : Frm}, TrkS K H xs (a ++ [l]) → ∃ ys t sv, xs = ys ++ [.ref t] ∧ TrkS K H ys a ∧ H t = some (.tup [.int l.1, .int l.2.1, sv]) ∧ Dp K H sv (spansD l.2.2) := by
    intro xs a
    induction a generalizing xs with
    | nil =>
      intro h
      cases h with
      | cons q r =>
        cases r
        obtain ⟨t, sv, rfl, ht, hs⟩ := q
        exact ⟨[], t, sv, rfl, .nil, ht, hs⟩
    | cons b a ih =>
      intro h
      cases h with
      | cons q r =>
        obtain ⟨ys, t, sv, rfl, h1, h2⟩ := ih r
        exact ⟨_ :: ys, t, sv, rfl, .cons q h1, h2⟩
  exact this h
/-! ### tidy -/
abbrev sTidy : Stmt := topS 20
def spTidy (K : PySem.W.Frag) : Sp := fun vs H Q _ => ∃ (l : Addr) (xs : List V) (f : Frm), vs = [.ref l] ∧ SqL K H l xs ∧ DpAll K H xs (f.map slabD) ∧ f.length ≤ 1000 ∧ ∀ r H', Same H H' → Dp K H' r (formD (tidy f)) → Q r H'
abbrev nTidy : List Str := ["slabs", "found", "x1", "x2", "spans"]
theorem scTidy : FnScope nTidy ["slabs"] (defScope sTidy) := C8.fnScope_by (by decide +kernel)
/-- what was new may change: tuples stay -/
theorem TK.upd {H H1 : Hp} {d : Addr} {ys : List V} {o : HO} (s : Same H H1) (hd : H d = some (.lst ys)) : TK H (L2.upd H1 d o) := ⟨fun b xs z => by
    rw [upd_ne (ne_of z hd (by intro w; cases w))]
    exact s _ _ z, fun b u xs z => by
    rw [upd_ne (ne_of z hd (by intro w; cases w))]
    exact s _ _ z⟩
section
variable {P : Program} {w : World} {K : PySem.W.Frag} {mg : Str → Option Value} {base : Heap}
theorem ok_spAt {f : Addr} {fd : FuncData} (F : FnP K "spans_at" "spans_at" sSpAt f fd) (hm : mg "spans_at" = some (.ref f)) : C8.Cal P w K mg base 1 "spans_at" (spSpAt K) [] := by
  refine calP F hm scSpAt (fun _ _ _ _ _ _ us hl => match us, hl with | [_, _], _ => rfl) (fun vs H Q E h => ?_) (fun cdv A outer s H vs Q E hr h => ?_)
  · obtain ⟨v, fm, x, rfl, _⟩ := h
    rfl
  · obtain ⟨v, fm, x, rfl, hv, k⟩ := h
    refine ⟨_, pss_cons (ps_for PassesOwn.never rfl (pi_tup (pv 0))
        (pg_tup rfl (pgs_cons (pg_name (i := 2) scSpAt.nd rfl (Or.inl rfl)) (pgs_cons (pg_name (i := 3) scSpAt.nd rfl (Or.inl rfl)) (pgs_cons (pg_name (i := 4) scSpAt.nd rfl (Or.inl rfl)) pgs_nil))))
        (pss_one (ps_if (pt_chain op_le op_lt (pv 2) (pv 1) (pv 3)) (pss_one (ps_ret (pv 4))) pss_nil)))
      (pss_one (ps_ret (pe_tup pa_nil))), ?_⟩
    obtain ⟨a, xs, rfl, hT, hA⟩ := dp_tup hv
    have lx : xs.length = fm.length := by rw [all_len hA, List.length_map]
    refine ⟨_, rfl, a, rfl, ⟨_, hT⟩, walkF (walk_tup (xs := xs)) (fun i σ H' => ∃ x2 x3 x4 : Option V, σ = [some (.ref a), some (.int x), x2, x3, x4] ∧ H' = H ∧ spansAt fm x = spansAt (fm.drop i) x) ⟨none, none, none, rfl, rfl, by rw [List.drop_zero]⟩ (fun i σ H' _ p => ?_) ?_ ?_⟩
    · obtain ⟨_, _, _, _, rfl, _⟩ := p
      exact hT
    · rintro i y σ H1 H2 hi ⟨x2, x3, x4, rfl, rfl, eq⟩ ⟨rfl, hy⟩
      obtain ⟨p, hp, hy⟩ := all_at hA hy
      obtain ⟨t, sv, rfl, ht, hs⟩ := dp_slab hy
      refine ⟨t, _, rfl, ht, rfl, _, _, rfl, _, _, rfl, _, _, rfl, rfl, ?_⟩
      rw [drop_at hp, spansAt_cons] at eq
      refine ⟨_, rfl, _, rfl, _, _, rfl, rfl, _, rfl, ?_⟩
      have no : atX p x = false → ∃ x2 x3 x4 : Option V, [some (V.ref a), some (V.int x), some (V.int p.1), some (V.int p.2.1), some sv] = [some (V.ref a), some (V.int x), x2, x3, x4] ∧ H2 = H2 ∧ spansAt fm x = spansAt (fm.drop (i + 1)) x := fun z => by
        rw [z, if_neg (by decide)] at eq
        exact ⟨_, _, _, rfl, rfl, eq⟩
      by_cases h1 : p.1 ≤ x
      · rw [decide_eq_true h1]
        refine iteT ⟨_, rfl, _, _, rfl, rfl, _, rfl, ?_⟩
        by_cases h2 : x < p.2.1
        · rw [decide_eq_true h2]
          have at1 : atX p x = true := by unfold atX; rw [decide_eq_true h1, decide_eq_true h2]; rfl
          rw [at1, if_pos rfl] at eq
          refine iteT ⟨_, rfl, k _ _ (Same.refl _) (by rw [eq]; exact hs)⟩
        · rw [decide_eq_false h2]
          exact iteF (no (by unfold atX; rw [decide_eq_false h2, Bool.and_false]))
      · rw [decide_eq_false h1]
        exact iteF ⟨_, rfl, iteF (no (by unfold atX; rw [decide_eq_false h1, Bool.false_and]))⟩
    · rintro σ H1 ⟨x2, x3, x4, rfl, rfl, eq⟩
      refine ⟨Nat.zero_le _, fun p hp => k _ _ (Same.upd1 hp) ?_⟩
      rw [eq, lx, List.drop_length]
      exact spans_mk upd_same .nil
theorem ok_tidy {f : Addr} {fd : FuncData} (F : FnP K "tidy" "tidy" sTidy f fd) (hm : mg "tidy" = some (.ref f)) (B : Bt mg) : C8.Cal P w K mg base 1 "tidy" (spTidy K) [] := by
  refine calP F hm scTidy (fun _ _ _ _ _ _ us hl => match us, hl with | [_], _ => rfl) (fun vs H Q E h => ?_) (fun cdv A outer s H vs Q E hr h => ?_)
  · obtain ⟨l, xs, fm, rfl, _⟩ := h
    rfl
  · obtain ⟨l, xs, fm, rfl, hS, hA, hlen, k⟩ := h
    have hu : _ + 64 < cLine := hr.units
    refine ⟨_, pss_cons (ps_set (i := 1) scTidy.nd rfl (Or.inl rfl) (pe_lst pa_nil))
      (pss_cons (ps_for PassesOwn.never rfl (pi_list (pv 0))
        (pg_tup rfl (pgs_cons (pg_name (i := 2) scTidy.nd rfl (Or.inl rfl)) (pgs_cons (pg_name (i := 3) scTidy.nd rfl (Or.inl rfl)) (pgs_cons (pg_name (i := 4) scTidy.nd rfl (Or.inl rfl)) pgs_nil))))
        (pss_one (ps_if (PW.pt (pw_and (pt_cmpR (op_neD hu) (pv 1) (pe_lst pa_nil) (nomark _))
            (pw_and (pt_cmpR op_eq (pe_ix ix_tup (pe_ix ix_list (pv 1) (pe_un un_neg pe_int) (fun _ _ => rfl)) pe_int (fun _ _ => rfl)) (pv 2) (nomark _))
            (pw_and1 (pt_cmpR (op_eqD hu) (pe_ix ix_tup (pe_ix ix_list (pv 1) (pe_un un_neg pe_int) (fun _ _ => rfl)) pe_int (fun _ _ => rfl)) (pv 4) (nomark _))))))
          (pss_one (ps_asg (pe_tup (pa_cons (pe_ix ix_tup (pe_ix ix_list (pv 1) (pe_un un_neg pe_int) (fun _ _ => rfl)) pe_int (fun _ _ => rfl)) (pa_cons (pv 3) (pa_cons (pv 4) pa_nil))))
            (pg_sub (pv 1) (pe_un un_neg pe_int) set_list)))
          (pss_one (ps_if (pt_cmpR (op_neD hu) (pv 4) (pe_tup pa_nil) (nomark _))
            (pss_one (ps_expr (pe_bm PySem.F.plainAttrs_list PySem.F.slot_list_append PySem.F.type_list_append mt_append (pv 1) (pa_cons (pe_tup (pa_cons (pv 2) (pa_cons (pv 3) (pa_cons (pv 4) pa_nil)))) pa_nil)))) pss_nil)))))
      (pss_one (ps_ret (pe_callTy call_tuple_of (by rfl) B.tuple (by decide +kernel) (pa_cons (pv 1) pa_nil))))), ?_⟩
    refine ⟨Nat.zero_le _, fun d hd => ?_⟩
    have lx : xs.length = fm.length := by rw [all_len hA, List.length_map]
    have s0 : Same H (upd H d (.lst [])) := Same.upd1 hd
    refine ⟨_, rfl, l, rfl, ⟨_, s0.seq hS⟩, walkF (walk_list (xs := xs)) (fun i σ H' => ∃ (fx : List V) (x2 x3 x4 : Option V), σ = [some (.ref l), some (.ref d), x2, x3, x4] ∧ Same H H' ∧ H' d = some (.lst fx) ∧ TrkS K H' fx ((fm.take i).foldl tstep []))
      ⟨[], none, none, none, rfl, s0, upd_same, .nil⟩ (fun i σ H' _ p => ?_) ?_ ?_⟩
    · obtain ⟨_, _, _, _, _, s1, _⟩ := p
      exact s1.seq hS
    · rintro i y σ H0 H' hi ⟨fx, x2, x3, x4, rfl, s1, ed, tf⟩ ⟨rfl, hy⟩
      obtain ⟨q, hq, hy⟩ := all_at hA hy
      obtain ⟨t, sv, rfl, ht, hsv⟩ := dp_slab hy
      have hstep : (fm.take (i + 1)).foldl tstep [] = tstep ((fm.take i).foldl tstep []) q := by
        rw [take_succ' hq, List.foldl_append]
        rfl
      have lacc : ((fm.take i).foldl tstep []).length ≤ 1000 := by
        have := foldl_tstep_len (fm.take i) []
        rw [List.length_take] at this
        simp at this
        omega
      have lfx : fx.length = ((fm.take i).foldl tstep []).length := tf.length
      generalize hacc : (fm.take i).foldl tstep [] = acc at tf lacc hstep lfx
      refine ⟨t, _, rfl, sq_of_tk s1 ht, rfl, _, _, rfl, _, _, rfl, _, _, rfl, rfl, ?_⟩
      -- what the end of a turn asks
      have fin : ∀ {H2 : Hp} {gx : List V} {g : Frm}, Same H H2 → H2 d = some (.lst gx) → TrkS K H2 gx g → g = tstep acc q →
          ∃ (fx : List V) (x2 x3 x4 : Option V), [some (V.ref l), some (V.ref d), some (V.int q.1), some (V.int q.2.1), some sv] = [some (V.ref l), some (V.ref d), x2, x3, x4] ∧ Same H H2 ∧ H2 d = some (.lst fx) ∧ TrkS K H2 fx ((fm.take (i + 1)).foldl tstep []) := fun a b c e => by
        rw [hstep, ← e]
        exact ⟨_, _, _, _, rfl, a, b, c⟩
      refine ⟨_, rfl, Nat.zero_le _, fun z hz => ?_⟩
      have sz : Same H' (upd H' z (.lst [])) := Same.upd1 hz
      refine ⟨_, _, .lst (SqL.of (sz _ _ ed)) (tf.tk (TK.of sz)).dp, .lst (SqL.of upd_same) .nil, lform_shaped acc, lform_shaped [], _, rfl, ?_⟩
      rw [lform_nil]
      -- the second arm: from here on
      have arm : ∀ {H3 : Hp}, Same H' H3 → (acc.getLast? = none ∨ ∃ lst, acc.getLast? = some lst ∧ ¬ (lst.2.1 = q.1 ∧ lst.2.2 = q.2.2)) →
          tIfS (tTest (tOp (rNeD K) (tVar 4) (tTup tNil))) (tDrop (tBM K "list" rAppend (tVar 1) (tCons (tTup (tCons (tVar 2) (tCons (tVar 3) (tCons (tVar 4) tNil)))) tNil))) tNext
            { nx := fun σ H2 => ∃ (fx : List V) (x2 x3 x4 : Option V), σ = [some (V.ref l), some (V.ref d), x2, x3, x4] ∧ Same H H2 ∧ H2 d = some (.lst fx) ∧ TrkS K H2 fx ((fm.take (i + 1)).foldl tstep []), rt := Q } [some (V.ref l), some (V.ref d), some (V.int q.1), some (V.int q.2.1), some sv] H3 := by
        intro H3 s3 hc
        have em : q.2.2 ≠ [] → tstep acc q = acc ++ [q] := fun ne => by
          unfold tstep
          rcases hc with e | ⟨lst, e, nc⟩
          · rw [e]
            show (if q.2.2 = [] then _ else _) = _
            rw [if_neg ne]
          · rw [e]
            show (if _ then _ else if q.2.2 = [] then _ else _) = _
            rw [if_neg nc, if_neg ne]
        have em0 : q.2.2 = [] → tstep acc q = acc := fun eq => by
          unfold tstep
          rcases hc with e | ⟨lst, e, nc⟩
          · rw [e]
            show (if q.2.2 = [] then _ else _) = _
            rw [if_pos eq]
          · rw [e]
            show (if _ then _ else if q.2.2 = [] then _ else _) = _
            rw [if_neg nc, if_pos eq]
        refine ⟨_, rfl, Nat.zero_le _, fun z2 hz2 => ?_⟩
        have s4 : Same H' (upd H3 z2 (.tup [])) := s3.trans (Same.upd1 hz2)
        refine ⟨_, _, spans_tk (TK.of (s1.trans s4)) hsv, spans_mk (s := []) upd_same .nil, spans_shaped _, spans_shaped [], _, rfl, ?_⟩
        rw [spans_eqv]
        by_cases he : q.2.2 = []
        · rw [decide_eq_true he]
          exact iteF (fin (s1.trans s4) (s4 _ _ ed) (tf.tk (TK.of s4)) (em0 he).symm)
        · rw [decide_eq_false he]
          refine iteT ⟨_, rfl, .inl ⟨rfl, _, SqL.of (s4 _ _ ed)⟩, _, rfl, _, rfl, _, rfl, (by show 3 ≤ sizeLine; decide), fun r hr' => ?_⟩
          have sr : Same H' (upd (upd H3 z2 (.tup [])) r (.tup [.int q.1, .int q.2.1, sv])) := s4.trans (Same.upd1 hr')
          refine ⟨d, fx, _, rfl, rfl, sr _ _ ed, Nat.lt_of_le_of_lt (by omega : fx.length ≤ 1000) (by decide), ?_⟩
          have hrd : r ≠ d := fun e => by
            rw [e, s4 _ _ ed] at hr'
            cases hr'
          refine fin (Same.updN (s1.trans sr) hd) upd_same ?_ (em he).symm
          exact (tf.tk (TK.upd sr ed)).snoc (by rw [upd_ne hrd, upd_same]) (spans_tk (TK.of (Same.updN (s1.trans sr) hd)) hsv)
      cases ha : acc.getLast? with
      | none =>
        have e0 : acc = [] := List.getLast?_eq_none_iff.mp ha
        rw [decide_eq_true e0]
        exact iteF (iteF (arm sz (.inl ha)))
      | some lst =>
        obtain ⟨fy, u, su, efx, tfy, hu', hsu⟩ := tf.last ha
        subst efx
        have ne : ¬ acc = [] := fun e => by rw [e] at ha; cases ha
        rw [decide_eq_false ne]
        refine iteT ?_
        refine ⟨_, rfl, _, rfl, d, _, _, _, rfl, rfl, SqL.of (sz _ _ ed), atI_last fy (.ref u), u, _, _, _, rfl, rfl, SqT.of (sz _ _ hu'), atI_nat (j := 1) rfl, _, rfl, rfl, _, rfl, ?_⟩
        rw [dec_int]
        by_cases hc : lst.2.1 = q.1
        · rw [show (lst.2.1 == q.1) = true from beq_iff_eq.mpr hc]
          refine iteT ?_
          refine ⟨_, rfl, _, rfl, d, _, _, _, rfl, rfl, SqL.of (sz _ _ ed), atI_last fy (.ref u), u, _, _, _, rfl, rfl, SqT.of (sz _ _ hu'), atI_nat (j := 2) rfl, _, rfl, _, _, spans_tk (TK.of sz) hsu, spans_tk (TK.of (s1.trans sz)) hsv, spans_shaped _, spans_shaped _, _, rfl, ?_⟩
          rw [spans_eqv]
          by_cases hc2 : lst.2.2 = q.2.2
          · rw [decide_eq_true hc2]
            refine iteT ?_
            have em : tstep acc q = acc.dropLast ++ [(lst.1, q.2.1, q.2.2)] := by
              unfold tstep
              rw [ha]
              show (if _ then _ else _) = _
              rw [if_pos ⟨hc, hc2⟩]
            refine ⟨_, rfl, _, rfl, d, _, _, _, rfl, rfl, SqL.of (sz _ _ ed), atI_last fy (.ref u), u, _, _, _, rfl, rfl, SqT.of (sz _ _ hu'), atI_nat (j := 0) rfl, _, rfl, _, rfl, (by show 3 ≤ sizeLine; decide), fun r hr' => ?_⟩
            have sr : Same H' (upd (upd H' z (.lst [])) r (.tup [.int lst.1, .int q.2.1, sv])) := sz.trans (Same.upd1 hr')
            refine ⟨_, rfl, _, rfl, d, _, _, _, rfl, rfl, sr _ _ ed, ix_last fy (.ref u), ?_⟩
            rw [set_last]
            have hrd : r ≠ d := fun e => by
              rw [e, sz _ _ ed] at hr'
              cases hr'
            refine fin (Same.updN (s1.trans sr) hd) upd_same ?_ em.symm
            exact (tfy.tk (TK.upd sr ed)).snoc (s := (lst.1, q.2.1, q.2.2)) (by rw [upd_ne hrd, upd_same]) (spans_tk (TK.of (Same.updN (s1.trans sr) hd)) hsv)
          · rw [decide_eq_false hc2]
            exact iteF (arm sz (.inr ⟨lst, ha, fun z => hc2 z.2⟩))
        · rw [show (lst.2.1 == q.1) = false from beq_eq_false_iff_ne.mpr hc]
          refine iteF (iteF (arm sz (.inr ⟨lst, ha, fun z => hc z.1⟩)))
    · rintro σ H' ⟨fx, x2, x3, x4, rfl, s1, ed, tf⟩
      rw [lx, List.take_length] at tf
      refine ⟨_, rfl, d, fx, rfl, .inl ⟨SqL.of ed, fun r hr' => ?_⟩⟩
      exact k _ _ (s1.trans (Same.upd1 hr')) (form_mk upd_same (aform_tk (TK.of (Same.upd1 hr')) tf.dp))
end
end BX
end
section
set_option Elab.async false
set_option linter.all false
set_option maxRecDepth 100000
set_option maxHeartbeats 4000000
namespace BX
open PySem PySem.Spec PyProof.Rows L2
/-! ### cuts_of -/
abbrev sCuts : Stmt := topS 21
def spCuts (K : PySem.W.Frag) : Sp := fun vs H Q _ => ∃ (v : V) (f : Frm), vs = [v] ∧ Dp K H v (formD f) ∧ f.length ≤ 31 ∧ ∀ p H', Same H H' → H p = none → H' p = some (.lst ((cutsOf f).map V.int)) → Q (.ref p) H'
abbrev nCuts : List Str := ["slabs", "x1", "x2", "spans", "x"]
theorem scCuts : FnScope nCuts ["slabs"] (defScope sCuts) := C8.fnScope_by (by decide +kernel)
/-! ### mixed -/
abbrev sMix : Stmt := topS 24
def spMix (K : PySem.W.Frag) : Sp := fun vs H Q _ => ∃ (v u : V) (f g : Frm) (wd : Wd), vs = [v, u, .str (wdS wd)] ∧ Dp K H v (formD f) ∧ Dp K H u (formD g) ∧ OkF f ∧ OkF g ∧
  ∀ r H', Same H H' → Dp K H' r (formD (mixed f g wd)) → Q r H'
abbrev nMix : List Str := ["one", "other", "word", "cuts", "found", "a", "b"]
theorem scMix : FnScope nMix ["one", "other", "word"] (defScope sMix) := C8.fnScope_by (by decide +kernel)
/-! ### slabs_of -/
abbrev sSlabs : Stmt := topS 22
def boxD (b : Bx) : PyData := .tuple [.int b.1, .int b.2.1, .int b.2.2.1, .int b.2.2.2]
theorem dp_box {K : PySem.W.Frag} {H : Hp} {v : V} {b : Bx} (h : Dp K H v (boxD b)) : ∃ t, v = .ref t ∧ SqT K H t [.int b.1, .int b.2.1, .int b.2.2.1, .int b.2.2.2] := by
  obtain ⟨t, xs, e, h1, h2⟩ := dp_tup h
  cases h2 with
  | cons a r =>
    cases r with
    | cons b r =>
      cases r with
      | cons c r =>
        cases r with
        | cons d r =>
          cases r
          cases dp_int a
          cases dp_int b
          cases dp_int c
          cases dp_int d
          exact ⟨t, e, h1⟩
def spSlabs (K : PySem.W.Frag) : Sp := fun vs H Q _ => ∃ (l : Addr) (xs : List V) (bs : List Bx), vs = [.ref l] ∧ SqL K H l xs ∧ DpAll K H xs (bs.map boxD) ∧ bs.length ≤ 31 ∧ ∀ r H', Same H H' → Dp K H' r (formD (slabsOf bs)) → Q r H'
abbrev nSlabs : List Str := ["boxes", "cuts", "found", "a", "b", "spans", "x1", "y1", "x2", "y2", "x"]
theorem scSlabs : FnScope nSlabs ["boxes"] (defScope sSlabs) := C8.fnScope_by (by decide +kernel)
section
variable {P : Program} {w : World} {K : PySem.W.Frag} {mg : Str → Option Value} {base : Heap}
/-- an inner loop over a new pair of ints -/
theorem in_pair {H1 H2 : Hp} {D : Addr} {l : List Int} {i j : Int} {F : (Hp → Prop) → V → Hp → Prop} {Qd : Hp → Prop} {p : Addr} {w : World} (hp : H2 p = some (.tup [.int i, .int j])) (s1 : Same H1 H2) (g : Got w H2 D l) (hl : l.length ≤ 90)
    (hs : ∀ (k : Int) (S : Int → Bool) (n : Nat) (H : Hp) (Nx : Hp → Prop), H D = some (SetO w D S n) → n + 1 < scanBound → Nx (setPut w H D S n k) → F Nx (.int k) H) (hD : H1 D = none)
    (hd : ∀ H, Same H1 H → Got w H D (l ++ [i, j]) → Qd H) : ∃ W : Nat → Nat → Hp → Prop, (∃ m, W 0 m H2) ∧ ∀ a m H, W a m H → ((Itt K p).stop a H ∧ Qd H) ∨ ((Itt K p).go a H ∧ ∃ Nx : Hp → Prop, (∀ H', Nx H' → ∃ m', m' < m ∧ W (a + 1) m' H') ∧ ∀ x H', (Itt K p).yld a H x H' → F Nx x H') := by
  have hpD : p ≠ D := fun e => by
    subst e
    obtain ⟨S, n, h, _⟩ := g
    rw [hp] at h
    cases h
  refine walkW (walk_tup (xs := [.int i, .int j])) (fun a H' => Same H1 H' ∧ H' p = some (.tup [.int i, .int j]) ∧ Got w H' D (l ++ [i, j].take a)) ⟨s1, hp, by rw [List.take_zero, List.append_nil]; exact g⟩ (fun a H' _ q => SqT.of q.2.1) ?_ (fun H q => hd H q.1 q.2.2)
  rintro a y H4 H5 ha ⟨s4, hp4, S, n, g4, hS, hn⟩ ⟨rfl, hy⟩
  have hn2 : n ≤ 92 := by
    refine Nat.le_trans hn ?_
    rw [List.length_append, List.length_take]
    simp only [List.length_cons, List.length_nil]
    omega
  have hk : ∃ k, [i, j][a]? = some k ∧ y = .int k := by
    match a, ha, hy with
    | 0, _, e => exact ⟨i, rfl, by cases e; rfl⟩
    | 1, _, e => exact ⟨j, rfl, by cases e; rfl⟩
  obtain ⟨kk, hk, rfl⟩ := hk
  refine hs kk S n H5 _ g4 (Nat.lt_of_le_of_lt (by omega : n + 1 ≤ 100) (by decide)) ⟨Same.updN s4 hD, by show upd H5 D _ p = _; rw [upd_ne hpD]; exact hp4, ?_⟩
  rw [take_succ' hk, ← List.append_assoc]
  exact Got.put g4 hS hn
theorem ok_cuts {f : Addr} {fd : FuncData} (F : FnP K "cuts_of" "cuts_of" sCuts f fd) (hm : mg "cuts_of" = some (.ref f)) (B : Bt mg) : C8.Cal P w K mg base 1 "cuts_of" (spCuts K) [] := by
  refine calP F hm scCuts (fun _ _ _ _ _ _ us hl => match us, hl with | [_], _ => rfl) (fun vs H Q E h => ?_) (fun cdv A outer s H vs Q E hr h => ?_)
  · obtain ⟨v, fm, rfl, _⟩ := h
    rfl
  · obtain ⟨v, fm, rfl, hv, hlen, k⟩ := h
    refine ⟨_, pss_one (ps_ret (pe_callB (cr_sortedSet rfl) (by rfl) B.sorted (by decide +kernel) (pa_cons
        (pe_si (own := [("x1", 1), ("x2", 2), ("spans", 3), ("x", 4)]) (vs1 := [4]) (g := gTup K 3 (gCons (gName 1) (gCons (gName 2) (gCons (gName 3) gNil)))) rfl scCuts.nd (pi_tup (pv 0)) (blkOk_by (by kernel_rfl)) (by decide)
          (fun _ _ _ _ _ => pg_tup (n := 3) rfl (pgs_cons (pg_name (i := 1) scCuts.nd rfl (Or.inl rfl) (.inr rfl)) (pgs_cons (pg_name (i := 2) scCuts.nd rfl (Or.inl rfl) (.inr rfl)) (pgs_cons (pg_name (i := 3) scCuts.nd rfl (Or.inl rfl) (.inr rfl)) pgs_nil))))
          (wi1 := iTup K (tTup (tCons (tVar 1) (tCons (tVar 2) tNil)))) (fun _ _ _ _ _ => pi_tup (pe_tup (pa_cons (pv 1) (pa_cons (pv 2) pa_nil))))
          (fun _ _ _ _ _ => pg_name (i := 4) scCuts.nd rfl (Or.inl rfl) (.inr rfl)) (fun _ _ _ _ _ => pv 4)) pa_nil))), ?_⟩
    obtain ⟨a, xs, rfl, hT, hA⟩ := dp_tup hv
    have lx : xs.length = fm.length := by rw [all_len hA, List.length_map]
    refine ⟨_, rfl, a, rfl, ⟨_, hT⟩, fun D hD => walkW (walk_tup (xs := xs)) (fun i H' => Same H H' ∧ Got w H' D ((fm.take i).flatMap fun p => [p.1, p.2.1])) ⟨Same.upd1 hD, Got.nil⟩ (fun i H' _ p => sq_of_tk p.1 hT) ?_ ?_⟩
    · rintro i y H2 H3 hi ⟨s2, g2⟩ ⟨rfl, hy⟩
      obtain ⟨p, hp, hy⟩ := all_at hA hy
      obtain ⟨t, sv, rfl, ht, _⟩ := dp_slab hy
      refine ⟨t, _, rfl, sq_of_tk s2 ht, rfl, _, _, rfl, _, _, rfl, _, _, rfl, rfl, rfl, _, rfl, _, rfl, (by show 2 ≤ sizeLine; decide), fun p2 hp2 => ⟨p2, rfl, ⟨_, SqT.of upd_same⟩, ?_⟩⟩
      obtain ⟨S, n, g3, hS, hn⟩ := g2
      have s3 : Same H3 (upd H3 p2 (.tup [.int p.1, .int p.2.1])) := Same.upd1 hp2
      refine in_pair (w := w) (H1 := H) (D := D) (l := (fm.take i).flatMap fun p => [p.1, p.2.1]) upd_same (s2.trans s3) ⟨S, n, s3 _ _ g3, hS, hn⟩ (by rw [flat_len2, List.length_take]; omega) (fun k S n H' Nx e1 e2 e3 => ⟨rfl, _, rfl, k, S, n, rfl, e1, e2, e3⟩) hD fun H' s' g' => ⟨s', by rw [flat_take hp]; exact g'⟩
    rintro H2 ⟨s2, g2⟩
    rw [lx, List.take_length] at g2
    unfold tNil
    show rSortedSet w [V.ref D] H2 _
    refine sorted_got g2 (by rw [flat_len2]; omega) fun e he => k e _ (s2.trans (Same.upd1 he)) (s2.free he) upd_same
theorem ok_mix {f : Addr} {fd : FuncData} (F : FnP K "mixed" "mixed" sMix f fd) (hm : mg "mixed" = some (.ref f)) (B : Bt mg)
    (CT : C8.Cal P w K mg base 1 "tidy" (spTidy K) []) (CC : C8.Cal P w K mg base 1 "cuts_of" (spCuts K) []) (CB : C8.Cal P w K mg base 2 "combined" (spComb K) []) (CS : C8.Cal P w K mg base 1 "spans_at" (spSpAt K) []) : C8.Cal P w K mg base 3 "mixed" (spMix K) [] := by
  refine calP F hm scMix (fun _ _ _ _ _ _ us hl => match us, hl with | [_, _, _], _ => rfl) (fun vs H Q E h => ?_) (fun cdv A outer s H vs Q E hr h => ?_)
  · obtain ⟨v, u, s, t, wd, rfl, _⟩ := h
    rfl
  · obtain ⟨v, u, fm, gm, wd, rfl, hv, hu, lf, lg, k⟩ := h
    refine ⟨_, pss_cons (ps_set (i := 3) scMix.nd rfl (Or.inl rfl) (C8.pe_c CC hr (by omega) (by rfl) (pa_cons (pe_op op_catA (pv 0) (pv 1)) pa_nil)))
      (pss_cons (ps_set (i := 4) scMix.nd rfl (Or.inl rfl) (pe_lst pa_nil))
      (pss_cons (ps_for PassesOwn.never rfl (pi_zip (by rfl) B.zip (pa_cons (pv 3) (pa_cons (pe_slice sl_list (pv 3) (po_some pe_int) po_none) pa_nil)))
          (pg_tup rfl (pgs_cons (pg_name (i := 5) scMix.nd rfl (Or.inl rfl)) (pgs_cons (pg_name (i := 6) scMix.nd rfl (Or.inl rfl)) pgs_nil)))
          (pss_one (ps_expr (pe_bm PySem.F.plainAttrs_list PySem.F.slot_list_append PySem.F.type_list_append mt_append (pv 4) (pa_cons (pe_tup (pa_cons (pv 5) (pa_cons (pv 6) (pa_cons
            (C8.pe_c CB hr (by omega) (by rfl) (pa_cons (C8.pe_c CS hr (by omega) (by rfl) (pa_cons (pv 0) (pa_cons (pv 5) pa_nil))) (pa_cons (C8.pe_c CS hr (by omega) (by rfl) (pa_cons (pv 1) (pa_cons (pv 5) pa_nil))) (pa_cons (pv 2) pa_nil)))) pa_nil)))) pa_nil)))))
      (pss_one (ps_ret (C8.pe_c CT hr (by omega) (by rfl) (pa_cons (pv 4) pa_nil)))))), ?_⟩
    refine ⟨_, rfl, _, rfl, dp_cat hv hu (tup_form fm) (tup_form gm) (by rw [List.length_map, List.length_map]; have := lf.ln; have := lg.ln; omega) fun c H1 s1 hc => ?_⟩
    rw [← List.map_append] at hc
    refine ⟨_, fm ++ gm, rfl, hc, by rw [List.length_append]; have := lf.ln; have := lg.ln; omega, fun e H2 s2 he1 he => ?_⟩
    generalize hE : cutsOf (fm ++ gm) = ns at he
    have s3 : Same H H2 := s1.trans s2
    refine ⟨Nat.zero_le _, fun d hd => ?_⟩
    have s4 : Same H (upd H2 d (.lst [])) := s3.trans (Same.upd1 hd)
    have hed : e ≠ d := fun q => by subst q; rw [he] at hd; cases hd
    have hLe : SqL K (upd H2 d (.lst [])) e (ns.map V.int) := SqL.of (by rw [upd_ne hed]; exact he)
    refine ⟨_, rfl, _, rfl, _, rfl, e, _, rfl, hLe, fun q hq => ?_⟩
    rw [cut_tail]
    have hqe : e ≠ q := fun z => by subst z; rw [upd_ne hed, he] at hq; cases hq
    have hqd : d ≠ q := fun z => by subst z; rw [upd_same] at hq; cases hq
    generalize hH5 : upd (upd H2 d (.lst [])) q (.lst (ns.tail.map V.int)) = H5
    have s5 : Same H H5 := by rw [← hH5]; exact s4.trans (Same.upd1 hq)
    have e5 : H5 e = some (.lst (ns.map V.int)) := by rw [← hH5, upd_ne hqe, upd_ne hed]; exact he
    have q5 : H5 q = some (.lst (ns.tail.map V.int)) := by rw [← hH5, upd_same]
    have d5 : H5 d = some (.lst []) := by rw [← hH5, upd_ne hqd, upd_same]
    have dn : H d = none := s3.free hd
    have nl : ns.length ≤ 8 := by
      rw [← hE]
      exact asc8 asc_sortU (cuts_b7 lf lg)
    have gl : (gaps ns).length ≤ 8 := Nat.le_trans (gaps_len ns) nl
    let fn : Spn → Slb := fun p => (p.1, p.2, combined (spansAt fm p.1) (spansAt gm p.1) wd)
    refine ⟨e, q, _, _, rfl, SqL.of e5, SqL.of q5, walkF (walk_gaps (ns := ns)) (fun i σ H' => ∃ (fx : List V) (x5 x6 : Option V), σ = [some v, some u, some (.str (wdS wd)), some (.ref e), some (.ref d), x5, x6] ∧ Same H H' ∧ H' e = some (.lst (ns.map V.int)) ∧ H' q = some (.lst (ns.tail.map V.int)) ∧ H' d = some (.lst fx) ∧ TrkS K H' fx (((gaps ns).take i).map fn))
      ⟨[], none, none, rfl, s5, e5, q5, d5, .nil⟩ (fun i σ H' _ h => ?_) ?_ ?_⟩
    · obtain ⟨_, _, _, _, _, h1, h2, _⟩ := h
      exact ⟨SqL.of h1, SqL.of h2⟩
    · rintro i y σ H6 H7 hi ⟨fx, x5, x6, rfl, s6, e6, q6, d6, tf⟩ ⟨T, p, rfl, hT, rfl, hp⟩
      have s7 : Same H6 (upd H6 T (.tup [.int p.1, .int p.2])) := Same.upd1 hT
      refine ⟨T, _, rfl, SqT.of upd_same, rfl, _, _, rfl, _, _, rfl, rfl, ?_⟩
      have d7 := s7 _ _ d6
      refine ⟨_, rfl, .inl ⟨rfl, _, SqL.of d7⟩, _, rfl, _, rfl, ?_⟩
      refine ⟨_, rfl, _, rfl, v, fm, p.1, rfl, form_tk (TK.of (s6.trans s7)) hv, fun r1 H8 s8 hr1 => ?_⟩
      refine ⟨_, rfl, _, rfl, u, gm, p.1, rfl, form_tk (TK.of ((s6.trans s7).trans s8)) hu, fun r2 H9 s9 hr2 => ?_⟩
      refine ⟨_, rfl, r1, r2, _, _, wd, rfl, spans_tk (TK.of s9) hr1, hr2, (lf.spans p.1).2, (lg.spans p.1).2, fun r3 H10 s10 hr3 => ?_⟩
      refine ⟨(by show 3 ≤ sizeLine; decide), fun r hr' => ?_⟩
      have sr : Same H6 (upd H10 r (.tup [.int p.1, .int p.2, r3])) := s7.trans (s8.trans (s9.trans (s10.trans (Same.upd1 hr'))))
      refine ⟨d, fx, _, rfl, rfl, sr _ _ d6, ?_, ?_⟩
      · rw [tf.length, List.length_map, List.length_take]
        exact Nat.lt_of_le_of_lt (Nat.le_trans (Nat.min_le_right _ _) gl) (by decide)
      have hrd : r ≠ d := fun z => by
        rw [z, s10 _ _ (s9 _ _ (s8 _ _ d7))] at hr'
        cases hr'
      have hqd' : q ≠ d := fun z => hqd z.symm
      refine ⟨fx ++ [.ref r], _, _, rfl, Same.updN (s6.trans sr) dn, by rw [upd_ne hed]; exact sr _ _ e6, by rw [upd_ne hqd']; exact sr _ _ q6, upd_same, ?_⟩
      rw [take_succ' hp, List.map_append]
      have d10 : H10 d = some (.lst fx) := s10 _ _ (s9 _ _ (s8 _ _ d7))
      exact (tf.tk (TK.upd sr d6)).snoc (s := fn p) (by rw [upd_ne hrd, upd_same]) (spans_tk (TK.upd (Same.upd1 hr') d10) hr3)
    · rintro σ H6 ⟨fx, x5, x6, rfl, s6, e6, q6, d6, tf⟩
      rw [List.take_length] at tf
      refine ⟨_, rfl, d, fx, _, rfl, SqL.of d6, tf.dp, ?_, fun r H7 s7 hr7 => ?_⟩
      · rw [List.length_map]; omega
      · refine k r H7 (s6.trans s7) ?_
        have : tidy ((gaps ns).map fn) = mixed fm gm wd := by rw [← hE]; rfl
        rw [← this]
        exact hr7
theorem ok_slabs {f : Addr} {fd : FuncData} (F : FnP K "slabs_of" "slabs_of" sSlabs f fd) (hm : mg "slabs_of" = some (.ref f)) (B : Bt mg)
    (CT : C8.Cal P w K mg base 1 "tidy" (spTidy K) []) (CM : C8.Cal P w K mg base 1 "merged" (spMerged K) []) : C8.Cal P w K mg base 2 "slabs_of" (spSlabs K) [] := by
  refine calP F hm scSlabs (fun _ _ _ _ _ _ us hl => match us, hl with | [_], _ => rfl) (fun vs H Q E h => ?_) (fun cdv A outer s H vs Q E hr h => ?_)
  · obtain ⟨v, s, t, rfl, _⟩ := h
    rfl
  · obtain ⟨l, xs, bs, rfl, hS, hA, hlen, k⟩ := h
    refine ⟨_, pss_cons (ps_set (i := 1) scSlabs.nd rfl (Or.inl rfl) (pe_callB (cr_sortedSet rfl) (by rfl) B.sorted (by decide +kernel) (pa_cons
        (pe_si (own := [("x1", 6), ("y1", 7), ("x2", 8), ("y2", 9), ("x", 10)]) (vs1 := [10]) (g := gTup K 4 (gCons (gName 6) (gCons (gName 7) (gCons (gName 8) (gCons (gName 9) gNil))))) rfl scSlabs.nd (pi_list (pv 0)) (blkOk_by (by kernel_rfl)) (by decide)
          (fun _ _ _ _ _ => pg_tup (n := 4) rfl (pgs_cons (pg_name (i := 6) scSlabs.nd rfl (Or.inl rfl) (.inr rfl)) (pgs_cons (pg_name (i := 7) scSlabs.nd rfl (Or.inl rfl) (.inr rfl)) (pgs_cons (pg_name (i := 8) scSlabs.nd rfl (Or.inl rfl) (.inr rfl)) (pgs_cons (pg_name (i := 9) scSlabs.nd rfl (Or.inl rfl) (.inr rfl)) pgs_nil)))))
          (wi1 := iTup K (tTup (tCons (tVar 6) (tCons (tVar 8) tNil)))) (fun _ _ _ _ _ => pi_tup (pe_tup (pa_cons (pv 6) (pa_cons (pv 8) pa_nil))))
          (fun _ _ _ _ _ => pg_name (i := 10) scSlabs.nd rfl (Or.inl rfl) (.inr rfl)) (fun _ _ _ _ _ => pv 10)) pa_nil)))
      (pss_cons (ps_set (i := 2) scSlabs.nd rfl (Or.inl rfl) (pe_lst pa_nil))
      (pss_cons (ps_for PassesOwn.never rfl (pi_zip (by rfl) B.zip (pa_cons (pv 1) (pa_cons (pe_slice sl_list (pv 1) (po_some pe_int) po_none) pa_nil)))
          (pg_tup rfl (pgs_cons (pg_name (i := 3) scSlabs.nd rfl (Or.inr rfl)) (pgs_cons (pg_name (i := 4) scSlabs.nd rfl (Or.inl rfl)) pgs_nil)))
          (pss_cons (ps_set (i := 5) scSlabs.nd rfl (Or.inl rfl) (C8.pe_c CM hr (by omega) (by rfl) (pa_cons
              (pe_lc (own := [("x1", 6), ("y1", 7), ("x2", 8), ("y2", 9)]) (g := gTup K 4 (gCons (gName 6) (gCons (gName 7) (gCons (gName 8) (gCons (gName 9) gNil))))) rfl scSlabs.nd (pi_list (pv 0)) (blkOk_by (by kernel_rfl))
                (fun _ _ _ _ _ => pg_tup (n := 4) rfl (pgs_cons (pg_name (i := 6) scSlabs.nd rfl (Or.inl rfl) (.inr rfl)) (pgs_cons (pg_name (i := 7) scSlabs.nd rfl (Or.inl rfl) (.inr rfl)) (pgs_cons (pg_name (i := 8) scSlabs.nd rfl (Or.inl rfl) (.inr rfl)) (pgs_cons (pg_name (i := 9) scSlabs.nd rfl (Or.inl rfl) (.inr rfl)) pgs_nil)))))
                (fun _ _ _ _ _ => pts_one (pt_chain op_le op_lt (pv 6) (pv 3) (pv 8))) (fun _ _ _ _ _ => pe_tup (pa_cons (pv 7) (pa_cons (pv 9) pa_nil)))) pa_nil)))
          (pss_one (ps_expr (pe_bm PySem.F.plainAttrs_list PySem.F.slot_list_append PySem.F.type_list_append mt_append (pv 2) (pa_cons (pe_tup (pa_cons (pv 3) (pa_cons (pv 4) (pa_cons (pv 5) pa_nil)))) pa_nil))))))
      (pss_one (ps_ret (C8.pe_c CT hr (by omega) (by rfl) (pa_cons (pv 2) pa_nil)))))), ?_⟩
    have lx : xs.length = bs.length := by rw [all_len hA, List.length_map]
    refine ⟨_, rfl, l, rfl, ⟨_, hS⟩, fun D hD => walkW (walk_list (xs := xs)) (fun i H' => Same H H' ∧ Got w H' D ((bs.take i).flatMap fun p => [p.1, p.2.2.1])) ⟨Same.upd1 hD, Got.nil⟩ (fun i H' _ p => p.1.seq hS) ?_ ?_⟩
    · rintro i y H2 H3 hi ⟨s2, g2⟩ ⟨rfl, hy⟩
      obtain ⟨p, hp, hy⟩ := all_at hA hy
      obtain ⟨t, rfl, ht⟩ := dp_box hy
      refine ⟨t, _, rfl, sq_of_tk s2 ht, rfl, _, _, rfl, _, _, rfl, _, _, rfl, _, _, rfl, rfl, by kernel_rfl, _, rfl, _, rfl, (by show 2 ≤ sizeLine; decide), fun p2 hp2 => ⟨p2, rfl, ⟨_, SqT.of upd_same⟩, ?_⟩⟩
      obtain ⟨S, n, g3, hS', hn⟩ := g2
      have s3 : Same H3 (upd H3 p2 (.tup [.int p.1, .int p.2.2.1])) := Same.upd1 hp2
      refine in_pair (w := w) (H1 := H) (D := D) (l := (bs.take i).flatMap fun p => [p.1, p.2.2.1]) upd_same (s2.trans s3) ⟨S, n, s3 _ _ g3, hS', hn⟩ (by rw [flat_len2, List.length_take]; omega) (fun k S n H' Nx e1 e2 e3 => ⟨by kernel_rfl, _, rfl, k, S, n, rfl, e1, e2, e3⟩) hD fun H' s' g' => ⟨s', by rw [flat_take hp]; exact g'⟩
    rintro H2 ⟨s2, g2⟩
    rw [lx, List.take_length] at g2
    unfold tNil
    show rSortedSet w [V.ref D] H2 _
    refine sorted_got g2 (by rw [flat_len2]; omega) fun e he => ?_
    generalize hE : sortU (bs.flatMap fun p => [p.1, p.2.2.1]) = ns
    have s3 : Same H (upd H2 e (.lst (ns.map V.int))) := s2.trans (Same.upd1 he)
    refine ⟨Nat.zero_le _, fun d hd => ?_⟩
    have s4 : Same H (upd (upd H2 e (.lst (ns.map V.int))) d (.lst [])) := s3.trans (Same.upd1 hd)
    have hed : e ≠ d := fun q => by subst q; rw [upd_same] at hd; cases hd
    have hLe : SqL K (upd (upd H2 e (.lst (ns.map V.int))) d (.lst [])) e (ns.map V.int) := SqL.of (by rw [upd_ne hed, upd_same])
    refine ⟨_, rfl, _, rfl, _, rfl, e, _, rfl, hLe, fun q hq => ?_⟩
    rw [cut_tail]
    have hqe : e ≠ q := fun z => by subst z; rw [upd_ne hed, upd_same] at hq; cases hq
    have hqd : d ≠ q := fun z => by subst z; rw [upd_same] at hq; cases hq
    generalize hH5 : upd (upd (upd H2 e (.lst (ns.map V.int))) d (.lst [])) q (.lst (ns.tail.map V.int)) = H5
    have s5 : Same H H5 := by rw [← hH5]; exact s4.trans (Same.upd1 hq)
    have e5 : H5 e = some (.lst (ns.map V.int)) := by rw [← hH5, upd_ne hqe, upd_ne hed, upd_same]
    have q5 : H5 q = some (.lst (ns.tail.map V.int)) := by rw [← hH5, upd_same]
    have d5 : H5 d = some (.lst []) := by rw [← hH5, upd_ne hqd, upd_same]
    have dn : H d = none := s3.free hd
    have nl : ns.length ≤ 64 := by
      rw [← hE]
      refine Nat.le_trans (sortU_len _) ?_
      rw [flat_len2]
      omega
    have gl : (gaps ns).length ≤ 64 := Nat.le_trans (gaps_len ns) nl
    let fn : Spn → Slb := fun p => (p.1, p.2, merged ((bs.filter fun b => inX b p.1).map fun b => (b.2.1, b.2.2.2)))
    refine ⟨e, q, _, _, rfl, SqL.of e5, SqL.of q5, walkF (walk_gaps (ns := ns)) (fun i σ H' => ∃ (fx : List V) (x3 x4 x5 x6 x7 x8 x9 x10 : Option V), σ = [some (.ref l), some (.ref e), some (.ref d), x3, x4, x5, x6, x7, x8, x9, x10] ∧ Same H H' ∧ H' e = some (.lst (ns.map V.int)) ∧ H' q = some (.lst (ns.tail.map V.int)) ∧ H' d = some (.lst fx) ∧ TrkS K H' fx (((gaps ns).take i).map fn))
      ⟨[], none, none, none, none, none, none, none, none, rfl, s5, e5, q5, d5, .nil⟩ (fun i σ H' _ h => ?_) ?_ ?_⟩
    · obtain ⟨_, _, _, _, _, _, _, _, _, _, _, h1, h2, _⟩ := h
      exact ⟨SqL.of h1, SqL.of h2⟩
    · rintro i y σ H6 H7 hi ⟨fx, x3, x4, x5, x6, x7, x8, x9, x10, rfl, s6, e6, q6, d6, tf⟩ ⟨T, p, rfl, hT, rfl, hp⟩
      have s7 : Same H6 (upd H6 T (.tup [.int p.1, .int p.2])) := Same.upd1 hT
      generalize hH8 : upd H6 T (.tup [.int p.1, .int p.2]) = H8 at s7
      have hT8 : H8 T = some (.tup [.int p.1, .int p.2]) := by rw [← hH8, upd_same]
      refine ⟨T, _, rfl, SqT.of hT8, rfl, _, _, rfl, _, _, rfl, rfl, ?_⟩
      have s8 : Same H H8 := s6.trans s7
      -- the comprehension
      refine ⟨_, rfl, l, rfl, ⟨_, s8.seq hS⟩, fun D2 hD2 => walkW (walk_list (xs := xs)) (fun j H' => Same H8 H' ∧ ∃ gx, H' D2 = some (.lst gx) ∧ TrkP H' gx (((bs.take j).filter fun b => inX b p.1).map fun b => (b.2.1, b.2.2.2)))
        ⟨Same.upd1 hD2, [], upd_same, .nil⟩ (fun j H' _ z => (s8.trans z.1).seq hS) ?_ ?_⟩
      · rintro j y H9 H10 hj ⟨s9, gx, e9, tg⟩ ⟨rfl, hy⟩
        obtain ⟨b, hb, hy⟩ := all_at hA hy
        obtain ⟨t, rfl, ht⟩ := dp_box hy
        refine ⟨t, _, rfl, sq_of_tk (s8.trans s9) ht, rfl, _, _, rfl, _, _, rfl, _, _, rfl, _, _, rfl, rfl, by kernel_rfl, ?_⟩
        have no : inX b p.1 = false → Same H8 H10 ∧ ∃ gx, H10 D2 = some (.lst gx) ∧ TrkP H10 gx (((bs.take (j + 1)).filter fun b => inX b p.1).map fun b => (b.2.1, b.2.2.2)) := fun z => by
          refine ⟨s9, gx, e9, ?_⟩
          rw [filter_take (f := fun b => inX b p.1) hb, z, if_neg (by decide), List.append_nil]
          exact tg
        refine ⟨_, rfl, _, rfl, _, _, rfl, rfl, _, rfl, ?_⟩
        by_cases h1 : b.1 ≤ p.1
        · rw [decide_eq_true h1]
          refine iteT ⟨_, rfl, _, _, rfl, rfl, _, rfl, ?_⟩
          by_cases h2 : p.1 < b.2.2.1
          · rw [decide_eq_true h2]
            have at1 : inX b p.1 = true := by unfold inX; rw [decide_eq_true h1, decide_eq_true h2]; rfl
            refine iteT ⟨_, rfl, _, rfl, (by show 2 ≤ sizeLine; decide), fun r hr' => ?_⟩
            have sr : Same H10 (upd H10 r (.tup [.int b.2.1, .int b.2.2.2])) := Same.upd1 hr'
            have hr2 : r ≠ D2 := fun z => by rw [z, e9] at hr'; cases hr'
            refine ⟨gx, sr _ _ e9, ?_, Same.updN (s9.trans sr) hD2, gx ++ [.ref r], upd_same, ?_⟩
            · rw [tg.length, List.length_map]
              exact Nat.lt_of_le_of_lt (Nat.le_trans (filter_len _ _ _) hlen) (by decide)
            · rw [filter_take (f := fun b => inX b p.1) hb, at1, if_pos rfl, List.map_append]
              exact (tg.tk (TK.upd sr e9)).snoc (p := (b.2.1, b.2.2.2)) (by rw [upd_ne hr2, upd_same])
          · rw [decide_eq_false h2]
            exact iteF (no (by unfold inX; rw [decide_eq_false h2, Bool.and_false]))
        · rw [decide_eq_false h1]
          exact iteF ⟨_, rfl, iteF (no (by unfold inX; rw [decide_eq_false h1, Bool.false_and]))⟩
      rintro H9 ⟨s9, gx, e9, tg⟩
      rw [lx, List.take_length] at tg
      refine ⟨D2, gx, _, rfl, SqL.of e9, tg, ?_, fun r3 H10 s10 hr3 => ?_⟩
      · rw [List.length_map]
        exact Nat.le_trans (List.length_filter_le _ _) (by omega)
      have s610 : Same H6 H10 := s7.trans (s9.trans s10)
      have d10 := s610 _ _ d6
      refine ⟨_, rfl, .inl ⟨rfl, _, SqL.of d10⟩, _, rfl, _, rfl, _, rfl, (by show 3 ≤ sizeLine; decide), fun r hr' => ?_⟩
      have sr : Same H6 (upd H10 r (.tup [.int p.1, .int p.2, r3])) := s610.trans (Same.upd1 hr')
      refine ⟨d, fx, _, rfl, rfl, sr _ _ d6, ?_, ?_⟩
      · rw [tf.length, List.length_map, List.length_take]
        exact Nat.lt_of_le_of_lt (Nat.le_trans (Nat.min_le_right _ _) gl) (by decide)
      have hrd : r ≠ d := fun z => by
        rw [z, d10] at hr'
        cases hr'
      have hqd' : q ≠ d := fun z => hqd z.symm
      refine ⟨fx ++ [.ref r], _, _, _, _, _, _, _, _, rfl, Same.updN (s6.trans sr) dn, by rw [upd_ne hed]; exact sr _ _ e6, by rw [upd_ne hqd']; exact sr _ _ q6, upd_same, ?_⟩
      rw [take_succ' hp, List.map_append]
      exact (tf.tk (TK.upd sr d6)).snoc (s := fn p) (by rw [upd_ne hrd, upd_same]) (spans_tk (TK.upd (Same.upd1 hr') d10) hr3)
    · rintro σ H6 ⟨fx, x3, x4, x5, x6, x7, x8, x9, x10, rfl, s6, e6, q6, d6, tf⟩
      rw [List.take_length] at tf
      refine ⟨_, rfl, d, fx, _, rfl, SqL.of d6, tf.dp, ?_, fun r H7 s7 hr7 => ?_⟩
      · rw [List.length_map]; omega
      · refine k r H7 (s6.trans s7) ?_
        have : tidy ((gaps ns).map fn) = slabsOf bs := by rw [← hE]; rfl
        rw [← this]
        exact hr7
end
end BX
end
section
set_option Elab.async false
set_option linter.all false
set_option maxRecDepth 100000
set_option maxHeartbeats 4000000
namespace BX
open PySem PySem.Spec PyProof.Rows L2
/-! ### a def that raises nothing, by its address -/
abbrev At (P : Program) (w : World) (K : PySem.W.Frag) (mg : Str → Option Value) (base : Heap) (k : Nat) (f : Addr) (sp : Sp) : Prop := C8.CalAt P w K mg base k f sp
abbrev FnQ (K : PySem.W.Frag) (x qual : Str) (st : Stmt) (f : Addr) (fd : FuncData) : Prop := FunD K x qual (defArgs st) (defBody st) (defScope st) [] [] f fd
section
variable {P : Program} {w : World} {K : PySem.W.Frag} {mg : Str → Option Value} {base : Heap} {k j : Nat} {f C : Addr} {sp : Sp} {x m : Str}
theorem atP {x qual : Str} {st : Stmt} {fd : FuncData} {N ps : List Str} (F : FnQ K x qual st f fd) (S : FnScope N ps (defScope st))
    (hb : ∀ (kV doc pm : Value) (an : Option Addr) (cdv ct : Value) (us : List Value), us.length = ps.length → bindArgs (PySem.W.fnOf x qual (defArgs st) (defBody st) (defScope st) .none kV doc pm an cdv ct) ⟨us, []⟩ = pure (ps.zip us))
    (len : ∀ vs H Q E, sp vs H Q E → vs.length = ps.length)
    (hbody : ∀ (cdv : Value) (A : Around) (outer : List Env) (s : Shared) (H : Hp) (vs : List V) (Q : VK) (E : XK), Room k (A.deeper (envOfC qual (defScope st) s.heap.objs.size f cdv)) → sp vs H Q E →
      ∃ t, PSs (cxOf C8.CX0 P w K mg base N qual (defScope st) f cdv A outer s H E).nox (defBody st) t ∧ t { nx := fun _ H' => Q .non H', rt := Q } (start N vs) H) : At P w K mg base (k + 1) f sp :=
  ⟨fd, ps, F.ok S len fun cdv A outer s H vs Q E hr h => let ⟨t, a, b⟩ := hbody cdv A outer s H vs Q E hr h; ⟨t, PSs.nox a, b⟩, F.kp, F.bindsN hb⟩
theorem at_cal (a : At P w K mg base k f sp) (hm : mg x = some (.ref f)) : C8.Cal P w K mg base k x sp [] := by
  obtain ⟨fd, ps, F, kp, b⟩ := a.ex
  exact ⟨f, fd, ps, [], F, hm, kp, b, .nil⟩
theorem at_met (a : At P w K mg base k f sp) (c : Cls K C) (me : Meth K C m f) : C8.Met P w K mg base k C m sp [] := by
  obtain ⟨fd, ps, F, kp, b⟩ := a.ex
  exact ⟨f, fd, ps, [], c, me, F, b, .nil⟩
theorem at_mak (a : At P w K mg base k f sp) (M : Mk K C f) (hm : mg x = some (.ref C)) : C8.Mak P w K mg base k x C sp [] := by
  obtain ⟨fd, ps, F, kp, b⟩ := a.ex
  exact ⟨f, fd, ps, [], M, F, hm, b, .nil⟩
end
/-! ### what of a class of the module is asked -/
structure ClsI (K : PySem.W.Frag) (C : Addr) : Prop where
  cl : Cls K C
  ha : PySem.W.findIn K (.ref C) "__class__" = some (some (.builtin "object.__class__"))
  hn : PySem.W.specialIn K (.builtin "object.__class__") "__get__" = some (some (.builtin "getset_descriptor.__get__"))
  htk : PySem.W.takesIn K (.builtin "object.__class__") = some true
  hm : PySem.W.mroIn K C (.type "object") = some true
theorem ClsI.ty {K : PySem.W.Frag} {H : Hp} {a C dx : Addr} {fs : List (Str × V)} (c : ClsI K C) (e : H a = some (.ins C dx fs)) : TyX K H (.ref a) (.ref C) := .base (.ins e c.cl c.ha c.hn c.htk c.hm)
/-! ### regions -/
def regF (fv : V) (b : Bool) : List (Str × V) := [("form", fv), ("is_outside", .bl b)]
structure RegC (K : PySem.W.Frag) (mg : Str → Option Value) (CR : Addr) : Prop where
  g : mg "Region" = some (.ref CR)
  i : ClsI K CR
  nf : NoAttr K CR "form"
  no : NoAttr K CR "is_outside"
  kit : PySem.W.kitOne K (.ref CR) (.ref CR) = some true
/-- the value v is the region r -/
def RegAt (K : PySem.W.Frag) (CR : Addr) (H : Hp) (v : V) (r : Rgn) : Prop := ∃ x dx fv, v = V.ref x ∧ H x = some (.ins CR dx (regF fv r.2)) ∧ Dp K H fv (formD r.1) ∧ OkF r.1
theorem RegAt.same {K : PySem.W.Frag} {CR : Addr} {H H' : Hp} {v : V} {r : Rgn} (s : Same H H') (h : RegAt K CR H v r) : RegAt K CR H' v r := by
  obtain ⟨x, dx, fv, e, h1, h2, h3⟩ := h
  exact ⟨x, dx, fv, e, s _ _ h1, form_tk (TK.of s) h2, h3⟩
theorem reg_form {b : Bool} {fv : V} : (regF fv b).lookup ("form" : Str) = some fv := rfl
theorem reg_out {b : Bool} {fv : V} : (regF fv b).lookup ("is_outside" : Str) = some (V.bl b) := rfl
/-- an instance that was just made and filled -/
theorem made_same {H : Hp} {x dx C : Addr} {fs : List (Str × V)} (nx : H x = none) (nd : H dx = none) : Same H (upd (upd (upd H dx (.own x)) x (.ins C dx [])) x (.ins C dx fs)) := by
  rw [upd_upd]
  exact fun b u e => by rw [upd_ne (ne_of_none e nx), upd_ne (ne_of_none e nd)]; exact e
theorem sqt_ty {K : PySem.W.Frag} {H : Hp} {a : Addr} {xs : List V} (h : SqT K H a xs) : TyX K H (.ref a) (.type "tuple") := by
  rcases h with (h | ⟨o, h⟩) | ⟨o, _, _, h, hc, _⟩
  · exact .base (.tup h)
  · exact .fTuple h
  · exact .kTuple h hc
/-! the statements -/
abbrev sReg : Stmt := topS 41
def mth (c : Stmt) (i : Nat) : Stmt := (C8.clsBody c).getD i (.Pass ⟨0, 0, 0, 0⟩)
def spRInit (CR : Addr) : Sp := fun vs H Q _ => ∃ (x dx : Addr) (fv : V) (b : Bool), vs = [.ref x, fv, .bl b] ∧ H x = some (.ins CR dx []) ∧ Q .non (upd H x (.ins CR dx (regF fv b)))
def spUni (K : PySem.W.Frag) (CR : Addr) : Sp := fun vs H Q _ => ∃ (v u : V) (r s : Rgn), vs = [v, u] ∧ RegAt K CR H v r ∧ RegAt K CR H u s ∧ ∀ z H', Same H H' → RegAt K CR H' z (united r s) → Q z H'
def spTurn (K : PySem.W.Frag) (CR : Addr) : Sp := fun vs H Q _ => ∃ (v : V) (r : Rgn), vs = [v] ∧ RegAt K CR H v r ∧ ∀ z H', Same H H' → RegAt K CR H' z (turned r) → Q z H'
def spChkR (K : PySem.W.Frag) (CR : Addr) : Sp := fun vs H Q _ => ∃ (v : V) (r : Rgn), vs = [v] ∧ RegAt K CR H v r ∧ Q .non H
def spWith (K : PySem.W.Frag) (CR : Addr) : Sp := fun vs H Q _ => ∃ (v u : V) (r s : Rgn), vs = [v, u] ∧ RegAt K CR H v r ∧ RegAt K CR H u s ∧ ∀ H', Same H H' → Q (.bl (within r s)) H'
def spSub (K : PySem.W.Frag) (CR : Addr) : Sp := fun vs H Q _ => ∃ (v u : V) (r s : Rgn), vs = [v, u] ∧ RegAt K CR H v r ∧ RegAt K CR H u s ∧ ∀ z H', Same H H' → RegAt K CR H' z (minus r s) → Q z H'
def spREq (K : PySem.W.Frag) (CR : Addr) : Sp := fun vs H Q _ => ∃ (v u : V) (r s : Rgn), vs = [v, u] ∧ RegAt K CR H v r ∧ RegAt K CR H u s ∧ Q (.bl (decide (r = s))) H
def spREmp (K : PySem.W.Frag) (CR : Addr) : Sp := fun vs H Q _ => vs = [] ∧ ∀ z H', Same H H' → RegAt K CR H' z ([], false) → Q z H'
abbrev two : List Str := ["self", "other"]
theorem scRInit : FnScope ["self", "form", "is_outside"] ["self", "form", "is_outside"] (defScope (mth sReg 0)) := C8.fnScope_by (by decide +kernel)
theorem scUni : FnScope ["one", "other"] ["one", "other"] (defScope (topS 39)) := C8.fnScope_by (by decide +kernel)
theorem scTurn : FnScope ["region"] ["region"] (defScope (topS 40)) := C8.fnScope_by (by decide +kernel)
theorem scChkR : FnScope ["region"] ["region"] (defScope (topS 37)) := C8.fnScope_by (by decide +kernel)
theorem scEmp : FnScope [] [] (defScope (mth sReg 2)) := C8.fnScope_by (by decide +kernel)
theorem scWith : FnScope ["self", "other", "both"] two (defScope (mth sReg 8)) := C8.fnScope_by (by decide +kernel)
theorem scOr : FnScope two two (defScope (mth sReg 9)) := C8.fnScope_by (by decide +kernel)
theorem scSub : FnScope two two (defScope (mth sReg 11)) := C8.fnScope_by (by decide +kernel)
theorem scInv : FnScope ["self"] ["self"] (defScope (mth sReg 13)) := C8.fnScope_by (by decide +kernel)
theorem scREq : FnScope two two (defScope (mth sReg 18)) := C8.fnScope_by (by decide +kernel)
section
variable {P : Program} {w : World} {K : PySem.W.Frag} {mg : Str → Option Value} {base : Heap} {f CR : Addr} {fd : FuncData}
theorem ok_rinit (F : FnQ K "__init__" "Region.__init__" (mth sReg 0) f fd) (R : RegC K mg CR) : At P w K mg base 1 f (spRInit CR) := by
  refine atP F scRInit (fun _ _ _ _ _ _ us hl => match us, hl with | [_, _, _], _ => rfl) (fun vs H Q E h => ?_) (fun cdv A outer s H vs Q E hr h => ?_)
  · obtain ⟨x, dx, fv, b, rfl, _⟩ := h
    rfl
  · obtain ⟨x, dx, fv, b, rfl, hx, k⟩ := h
    refine ⟨_, pss_cons (ps_fld (pv 0) (pv 1) rfl) (pss_one (ps_fld (pv 0) (pv 2) rfl)), ?_⟩
    refine ⟨fv, rfl, _, rfl, x, CR, dx, [], rfl, hx, R.i.cl, R.nf, by decide, ?_⟩
    refine ⟨_, rfl, _, rfl, x, CR, dx, _, rfl, upd_same, R.i.cl, R.no, by show 1 < 1000; decide, ?_⟩
    rw [upd_upd]
    exact k
/-- Region(form, b) behind its making -/
theorem mk_reg {H : Hp} {fv : V} {r : Rgn} {Q : VK} (hD : Dp K H fv (formD r.1)) (ok : OkF r.1) (k : ∀ z H', Same H H' → RegAt K CR H' z r → Q z H') :
    ∀ x dx, H x = none → H dx = none → dx ≠ x → spRInit CR (V.ref x :: ([fv, .bl r.2] ++ [])) (upd (upd H dx (.own x)) x (.ins CR dx [])) (fun v H2 => v = .non ∧ Q (.ref x) H2) C8.E0 := by
  intro x dx nx nd _
  have s := made_same (C := CR) (fs := regF fv r.2) nx nd
  exact ⟨x, dx, fv, r.2, rfl, upd_same, rfl, k _ _ s ⟨x, dx, fv, rfl, upd_same, form_tk (TK.of s) hD, ok⟩⟩
theorem ok_uni (F : FnQ K "united" "united" (topS 39) f fd) (R : RegC K mg CR) (CM : C8.Cal P w K mg base 3 "mixed" (spMix K) []) (CN : C8.Mak P w K mg base 1 "Region" CR (spRInit CR) []) : At P w K mg base 4 f (spUni K CR) := by
  refine atP F scUni (fun _ _ _ _ _ _ us hl => match us, hl with | [_, _], _ => rfl) (fun vs H Q E h => ?_) (fun cdv A outer s H vs Q E hr h => ?_)
  · obtain ⟨v, u, r, s, rfl, _⟩ := h
    rfl
  · obtain ⟨v, u, r, t, rfl, ⟨x, dx, fv, rfl, hx, hf, of⟩, ⟨y, dy, gv, rfl, hy, hg, og⟩, k⟩ := h
    obtain ⟨rf, rb⟩ := r
    obtain ⟨tf, tb⟩ := t
    refine ⟨_, pss_cons (ps_if (PW.pt (pw_and (pt_val (pe_fld (pv 0) rfl)) (pw_and1 (pt_val (pe_fld (pv 1) rfl)))))
        (pss_one (ps_ret (C8.pe_mk CN hr (by omega) (by rfl) (pa_cons (C8.pe_c CM hr (by omega) (by rfl) (pa_cons (pe_fld (pv 0) rfl) (pa_cons (pe_fld (pv 1) rfl) (pa_cons pe_str pa_nil)))) (pa_cons pe_bl pa_nil))))) pss_nil)
      (pss_cons (ps_if (pt_val (pe_fld (pv 0) rfl))
        (pss_one (ps_ret (C8.pe_mk CN hr (by omega) (by rfl) (pa_cons (C8.pe_c CM hr (by omega) (by rfl) (pa_cons (pe_fld (pv 0) rfl) (pa_cons (pe_fld (pv 1) rfl) (pa_cons pe_str pa_nil)))) (pa_cons pe_bl pa_nil))))) pss_nil)
      (pss_cons (ps_if (pt_val (pe_fld (pv 1) rfl))
        (pss_one (ps_ret (C8.pe_mk CN hr (by omega) (by rfl) (pa_cons (C8.pe_c CM hr (by omega) (by rfl) (pa_cons (pe_fld (pv 1) rfl) (pa_cons (pe_fld (pv 0) rfl) (pa_cons pe_str pa_nil)))) (pa_cons pe_bl pa_nil))))) pss_nil)
      (pss_one (ps_ret (C8.pe_mk CN hr (by omega) (by rfl) (pa_cons (C8.pe_c CM hr (by omega) (by rfl) (pa_cons (pe_fld (pv 0) rfl) (pa_cons (pe_fld (pv 1) rfl) (pa_cons pe_str pa_nil)))) (pa_cons pe_bl pa_nil))))))), ?_⟩
    have mkr : ∀ (z : V) (H' : Hp) (wd : Wd) (f g : Frm) (b : Bool), OkF f → OkF g → Same H H' → united (rf, rb) (tf, tb) = (mixed f g wd, b) → Dp K H' z (formD (mixed f g wd)) →
        ∀ x dx, H' x = none → H' dx = none → dx ≠ x → spRInit CR (V.ref x :: ([z, .bl b] ++ [])) (upd (upd H' dx (.own x)) x (.ins CR dx [])) (fun v H2 => v = .non ∧ Q (.ref x) H2) C8.E0 := fun z H' wd f g b o1 o2 s e hz =>
      mk_reg (r := (mixed f g wd, b)) hz (OkF.mixed o1 o2) fun z2 H2 s2 hz2 => k z2 H2 (s.trans s2) (by rw [e]; exact hz2)
    cases rb with
    | true =>
      refine ⟨_, rfl, x, CR, dx, _, _, rfl, hx, R.i.cl, R.no, rfl, _, rfl, iteT ?_⟩
      refine ⟨_, rfl, y, CR, dy, _, _, rfl, hy, R.i.cl, R.no, rfl, _, rfl, ?_⟩
      cases tb with
      | true =>
        refine iteT ⟨_, rfl, x, CR, dx, _, _, rfl, hx, R.i.cl, R.nf, rfl, _, rfl, y, CR, dy, _, _, rfl, hy, R.i.cl, R.nf, rfl, ?_⟩
        exact ⟨fv, gv, rf, tf, .and, rfl, hf, hg, of, og, fun z H' s hz => mkr z H' .and rf tf true of og s rfl hz⟩
      | false =>
        refine iteF ⟨_, rfl, x, CR, dx, _, _, rfl, hx, R.i.cl, R.no, rfl, _, rfl, iteT ?_⟩
        refine ⟨_, rfl, x, CR, dx, _, _, rfl, hx, R.i.cl, R.nf, rfl, _, rfl, y, CR, dy, _, _, rfl, hy, R.i.cl, R.nf, rfl, ?_⟩
        exact ⟨fv, gv, rf, tf, .less, rfl, hf, hg, of, og, fun z H' s hz => mkr z H' .less rf tf true of og s rfl hz⟩
    | false =>
      refine ⟨_, rfl, x, CR, dx, _, _, rfl, hx, R.i.cl, R.no, rfl, _, rfl, iteF (iteF ?_)⟩
      refine ⟨_, rfl, x, CR, dx, _, _, rfl, hx, R.i.cl, R.no, rfl, _, rfl, iteF ?_⟩
      refine ⟨_, rfl, y, CR, dy, _, _, rfl, hy, R.i.cl, R.no, rfl, _, rfl, ?_⟩
      cases tb with
      | true =>
        refine iteT ⟨_, rfl, y, CR, dy, _, _, rfl, hy, R.i.cl, R.nf, rfl, _, rfl, x, CR, dx, _, _, rfl, hx, R.i.cl, R.nf, rfl, ?_⟩
        exact ⟨gv, fv, tf, rf, .less, rfl, hg, hf, og, of, fun z H' s hz => mkr z H' .less tf rf true og of s rfl hz⟩
      | false =>
        refine iteF ⟨_, rfl, x, CR, dx, _, _, rfl, hx, R.i.cl, R.nf, rfl, _, rfl, y, CR, dy, _, _, rfl, hy, R.i.cl, R.nf, rfl, ?_⟩
        exact ⟨fv, gv, rf, tf, .or, rfl, hf, hg, of, og, fun z H' s hz => mkr z H' .or rf tf false of og s rfl hz⟩
end
end BX
end
section
set_option Elab.async false
set_option linter.all false
set_option maxRecDepth 100000
set_option maxHeartbeats 4000000
/-! A Hook over the objects that the wanted names lead to. -/
namespace BXH
open PySem PySem.Spec PyProof.Rows L2
abbrev Look1 := Addr → Option Obj
def codesAt (g : Look1) (a : Addr) : List Addr := match g a with
  | some ⟨_, _, .func fd, _⟩ => He.refV fd.code
  | _ => []
/-- a function with its code object; what wraps a function, with both -/
def leads (g : Look1) : Value → List Addr
  | .ref a => a :: (match g a with
    | some ⟨_, _, .func fd, _⟩ => He.refV fd.code
    | some ⟨_, _, .fields vs, _⟩ => vs.toList.flatMap fun v => (He.refV v).flatMap fun b => b :: codesAt g b
    | _ => [])
  | _ => []
def atGlo (g : Look1) (x : Str) : Value := match PySem.W.nsIn (He.frG g [mainGlobals]) mainGlobals x with
  | some (some v) => v
  | _ => .none
/-- a class, its namespace, what stands there under these names -/
def leadsC (g : Look1) (p : Str × List Str) : List Addr := match atGlo g p.1 with
  | .ref C => C :: (match g C with
    | some ⟨_, _, .cls cd, _⟩ => cd.ns :: p.2.flatMap fun m => (match PySem.W.nsIn (He.frG g [cd.ns]) cd.ns m with
      | some (some v) => leads g v
      | _ => [])
    | _ => [])
  | _ => []
def asW (cs : List (Str × List Str)) (fs : List Str) (g : Look1) : List Addr := mainGlobals :: (cs.flatMap (leadsC g) ++ fs.flatMap fun x => leads g (atGlo g x))
def obsW (cs : List (Str × List Str)) (fs : List Str) (fn : List He.DefD) (tf : List He.Defn) (ex : PySem.W.Frag → Bool) (g : Look1) : He.AlX :=
  (fun K => (He.obsT [] fn [] K, ex K && He.tabsB g tf K)) (He.frT g (asW cs fs g))
theorem saysW {cs : List (Str × List Str)} {fs : List Str} {fn : List He.DefD} {tf : List He.Defn} {ex : PySem.W.Frag → Bool} {w : World} {h : Heap} (e : obsW cs fs fn tf ex h.get? = He.valX fn [] w) : ∃ K : PySem.W.Frag, K.In h ∧ He.SaysX [] fn [] tf ex w h K := by
  refine ⟨_, He.frT_in (as := asW cs fs h.get?), ?_⟩
  have e1 : He.obsT [] fn [] (He.frT h.get? (asW cs fs h.get?)) = He.valT fn [] w := congrArg Prod.fst e
  have e2 : (ex (He.frT h.get? (asW cs fs h.get?)) && He.tabsB h.get? tf (He.frT h.get? (asW cs fs h.get?))) = true := congrArg Prod.snd e
  obtain ⟨h1, h2⟩ := He.ba e2
  have key : ∀ p ∈ tf, PySem.W.codeHdIn (He.frT h.get? (asW cs fs h.get?)) (He.cT (He.frT h.get? (asW cs fs h.get?)) p).1 (He.cT (He.frT h.get? (asW cs fs h.get?)) p).2 = true ∧
      ∃ o, h.get? (He.cT (He.frT h.get? (asW cs fs h.get?)) p).2 = some o ∧ He.emptyTab o = true := by
    intro p hp
    have := He.ba (List.all_eq_true.mp h2 p hp)
    refine ⟨this.1, ?_⟩
    have h4 := this.2
    split at h4
    · exact ⟨_, by assumption, h4⟩
    · cases h4
  exact ⟨e1, h1, fun p hp => (key p hp).1, fun p hp => (key p hp).2.elim fun o q => He.frT_none q.1 q.2, fun p hp => (key p hp).2.elim fun o q => by rw [q.1, He.emptyTab_eq q.2]⟩
def hookW (cs : List (Str × List Str)) (fs : List Str) (fn : List He.DefD) (tf : List He.Defn) (ex : PySem.W.Frag → Bool) : PySem.W.Hook where
  α := He.AlX
  obs := fun s => obsW cs fs fn tf ex s.heap.get?
  val := He.valX fn []
  says := fun w h => ∃ K : PySem.W.Frag, K.In h ∧ He.SaysX [] fn [] tf ex w h K
  of := fun _ _ => saysW
  keeps := fun _ _ _ ⟨K, hK, c⟩ k => ⟨K, PySem.W.Frag.In.keeps hK k, { t := c.t, more := c.more, hd := c.hd, out := c.out, empty := fun p hp => k _ _ (c.empty p hp) }⟩
theorem obsW_eq {cs : List (Str × List Str)} {fs : List Str} {fn : List He.DefD} {tf : List He.Defn} {ex : PySem.W.Frag → Bool} {g : Look1} {s : Shared} (h : ∀ a, g a = s.heap.get? a) : obsW cs fs fn tf ex g = (hookW cs fs fn tf ex).obs s := congrArg (obsW cs fs fn tf ex) (funext h)
end BXH
end
section
set_option Elab.async false
set_option linter.all false
set_option maxRecDepth 100000
set_option maxHeartbeats 4000000
/-! printed by gen_end.py: what the end asks of the head's heap -/
namespace BXH
open PySem PySem.Spec PyProof.Rows L2 BX
abbrev veB : List Value := [.type "ValueError", .type "Exception", .type "BaseException", .type "object"]
abbrev reB : List Value := [.type "RuntimeError", .type "Exception", .type "BaseException", .type "object"]
abbrev ieB : List Value := [.type "IndexError", .type "LookupError", .type "Exception", .type "BaseException", .type "object"]
abbrev keB : List Value := [.type "KeyError", .type "LookupError", .type "Exception", .type "BaseException", .type "object"]
def clsIB (K : PySem.W.Frag) (C : Addr) : Bool := He.eqO (PySem.W.findIn K (.ref C) "__class__") (some (some (.builtin "object.__class__"))) && (He.eqO (PySem.W.specialIn K (.builtin "object.__class__") "__get__") (some (some (.builtin "getset_descriptor.__get__"))) && (decide (PySem.W.takesIn K (.builtin "object.__class__") = some true) && decide (PySem.W.mroIn K C (.type "object") = some true)))
def creadB (K : PySem.W.Frag) (C : Addr) : Bool := PySem.W.readsIn K C (.type "type") && He.eqO (PySem.W.specialIn K (.ref C) "__getattribute__") (some (some (.builtin "type.__getattribute__")))
def fcB (K : PySem.W.Frag) (c : Value) (n : Str) (id : String) : Bool := match PySem.W.findCls K c (.type "type") n with
  | some (.val (.builtin g)) => decide (g = id)
  | _ => false
def propB (K : PySem.W.Frag) (C : Addr) (m : Str) : Bool := He.eqO (PySem.W.findIn K (.ref C) m) (some (some (.ref (He.ma K C m)))) && (He.eqO (PySem.W.specialIn K (.ref (He.ma K C m)) "__get__") (some (some (.builtin "property.__get__"))) && (decide (PySem.W.takesIn K (.ref (He.ma K C m)) = some true) && (match PySem.W.recIn K (He.ma K C m) "property" with
  | some (.ref _ :: _) => true
  | _ => false)))
def oxB (K : PySem.W.Frag) (C : Addr) (bt : List Value) (newId : String) : Bool := PySem.W.excInitIn K C bt newId && (PySem.W.excOver K C bt && (PySem.W.hasDictIn K C && (He.eqO (PySem.W.findIn K (.ref C) "__setattr__") (some (some (.builtin "object.__setattr__"))) && (decide (PySem.W.subIn K (.ref C) (.type "BaseException") = some true) && (decide (PySem.W.typeIn K (.ref C) = some (.type "type")) && (PySem.W.keepIn K (.ref C) &&
  (He.eqO (PySem.W.findIn K (.ref C) "__init__") (some (some (.ref (He.ma K C "__init__")))) && decide (PySem.W.typeIn K (.ref (He.ma K C "__init__")) = some (.type "function")))))))))
def eqcB (K : PySem.W.Frag) (C : Addr) : Bool := He.eqO (PySem.W.findIn K (.ref C) "__eq__") (some (some (.ref (He.ma K C "__eq__")))) && (PySem.W.isFn K (.ref (He.ma K C "__eq__")) && He.eqO (PySem.W.findIn K (.ref C) "__ne__") (some (some (.builtin "object.__ne__"))))
/-- a def with the cell of its class: the cell, the code's file, no defaults -/
def supB (K : PySem.W.Frag) (C : Addr) (m qual : Str) : Bool := PySem.W.keepIn K (.ref (He.ma K C m)) && (match K.lookup (He.ma K C m) with
  | some ⟨_, _, .func fd, _⟩ => PySem.W.codeIn K fd.code qual && ((match fd.closure with
    | [(x, cc)] => decide (x = "__class__") && (match K.lookup cc with
      | some ⟨_, _, .cell (some (.ref D)), _⟩ => decide (D = C)
      | _ => false)
    | _ => false) && ((match fd.defaults with
    | .none => true
    | _ => false) && (match fd.code with
    | .ref cda => (match K.lookup cda with
      | some ⟨_, _, .fields vs, _⟩ => (match (vs[2]? : Option Value) with
        | some (.str file _) => (PySem.Challenge.pw_boxregions_k86_whole_trials_leave_no_tra.main.file : Str) == file
        | _ => false)
      | _ => false)
    | _ => false)))
  | _ => false)
def supmB (K : PySem.W.Frag) (C D : Addr) (m : Str) : Bool := He.eqO (PySem.W.ks_superIn K C C m) (some (some (.ref (He.ma K D m)))) && (decide (PySem.W.typeIn K (.ref (He.ma K D m)) = some (.type "function")) && PySem.W.fnIn K (He.ma K D m))
def tfL : List He.Defn := [("_law_tried", none), ("_law_nested", none), ("_law_broken", none), ("_law_right", none)]
def fnL : List He5.DefA := [
  ⟨fun K => He.ga K "merged", "merged", "merged", defArgs (topS 14), defBody (topS 14), defScope (topS 14), [], []⟩,
  ⟨fun K => He.ga K "is_covered", "is_covered", "is_covered", defArgs (topS 15), defBody (topS 15), defScope (topS 15), [], []⟩,
  ⟨fun K => He.ga K "is_wanted", "is_wanted", "is_wanted", defArgs (topS 16), defBody (topS 16), defScope (topS 16), [], []⟩,
  ⟨fun K => He.ga K "combined", "combined", "combined", defArgs (topS 17), defBody (topS 17), defScope (topS 17), [], []⟩,
  ⟨fun K => He.ga K "spans_at", "spans_at", "spans_at", defArgs (topS 19), defBody (topS 19), defScope (topS 19), [], []⟩,
  ⟨fun K => He.ga K "tidy", "tidy", "tidy", defArgs (topS 20), defBody (topS 20), defScope (topS 20), [], []⟩,
  ⟨fun K => He.ga K "cuts_of", "cuts_of", "cuts_of", defArgs (topS 21), defBody (topS 21), defScope (topS 21), [], []⟩,
  ⟨fun K => He.ga K "slabs_of", "slabs_of", "slabs_of", defArgs (topS 22), defBody (topS 22), defScope (topS 22), [], []⟩,
  ⟨fun K => He.ga K "mixed", "mixed", "mixed", defArgs (topS 24), defBody (topS 24), defScope (topS 24), [], []⟩,
  ⟨fun K => He.ga K "is_integer", "is_integer", "is_integer", defArgs (topS 31), defBody (topS 31), defScope (topS 31), [], []⟩,
  ⟨fun K => He.ga K "are_integers", "are_integers", "are_integers", defArgs (topS 32), defBody (topS 32), defScope (topS 32), [], []⟩,
  ⟨fun K => He.ga K "is_box", "is_box", "is_box", defArgs (topS 34), defBody (topS 34), defScope (topS 34), [], []⟩,
  ⟨fun K => He.ga K "check_box", "check_box", "check_box", defArgs (topS 36), defBody (topS 36), defScope (topS 36), [], []⟩,
  ⟨fun K => He.ga K "check_region", "check_region", "check_region", defArgs (topS 37), defBody (topS 37), defScope (topS 37), [], []⟩,
  ⟨fun K => He.ga K "united", "united", "united", defArgs (topS 39), defBody (topS 39), defScope (topS 39), [], []⟩,
  ⟨fun K => He.ga K "turned_out", "turned_out", "turned_out", defArgs (topS 40), defBody (topS 40), defScope (topS 40), [], []⟩,
  ⟨fun K => He.ga K "is_word", "is_word", "is_word", defArgs (topS 45), defBody (topS 45), defScope (topS 45), [], []⟩,
  ⟨fun K => He.ga K "check_word", "check_word", "check_word", defArgs (topS 46), defBody (topS 46), defScope (topS 46), [], []⟩,
  ⟨fun K => He.ga K "_law_pool", "_law_pool", "_law_pool", defArgs (topS 51), defBody (topS 51), defScope (topS 51), [], []⟩,
  ⟨fun K => He.ga K "_law_take", "_law_take", "_law_take", defArgs (topS 52), defBody (topS 52), defScope (topS 52), [], []⟩,
  ⟨fun K => He.ga K "_law_region", "_law_region", "_law_region", defArgs (topS 53), defBody (topS 53), defScope (topS 53), [], []⟩,
  ⟨fun K => He.ga K "_law_row", "_law_row", "_law_row", defArgs (topS 54), defBody (topS 54), defScope (topS 54), [], []⟩,
  ⟨fun K => He.ga K "_law_act", "_law_act", "_law_act", defArgs (topS 57), defBody (topS 57), defScope (topS 57), [], []⟩,
  ⟨fun K => He.ga K "_law_told", "_law_told", "_law_told", defArgs (topS 58), defBody (topS 58), defScope (topS 58), [], []⟩,
  ⟨fun K => He.ga K "_law_tried", "_law_tried", "_law_tried", defArgs (topS 60), defBody (topS 60), defScope (topS 60), [], []⟩,
  ⟨fun K => He.ga K "_law_state", "_law_state", "_law_state", defArgs (topS 61), defBody (topS 61), defScope (topS 61), [], []⟩,
  ⟨fun K => He.ga K "_law_acted", "_law_acted", "_law_acted", defArgs (topS 62), defBody (topS 62), defScope (topS 62), [], []⟩,
  ⟨fun K => He.ga K "_law_nested", "_law_nested", "_law_nested", defArgs (topS 63), defBody (topS 63), defScope (topS 63), [], []⟩,
  ⟨fun K => He.ga K "_law_broken", "_law_broken", "_law_broken", defArgs (topS 64), defBody (topS 64), defScope (topS 64), [], []⟩,
  ⟨fun K => He.ga K "_law_right", "_law_right", "_law_right", defArgs (topS 65), defBody (topS 65), defScope (topS 65), [], []⟩,
  ⟨fun K => He.ga K "law", "law", "law", defArgs (topS 66), defBody (topS 66), defScope (topS 66), [], []⟩,
  ⟨fun K => He.ma K (He.ga K "Region") "__init__", "__init__", "Region.__init__", defArgs (mth (topS 41) 0), defBody (mth (topS 41) 0), defScope (mth (topS 41) 0), [], []⟩,
  ⟨fun K => He.ma K (He.ga K "Region") "within", "within", "Region.within", defArgs (mth (topS 41) 8), defBody (mth (topS 41) 8), defScope (mth (topS 41) 8), [], []⟩,
  ⟨fun K => He.ma K (He.ga K "Region") "__or__", "__or__", "Region.__or__", defArgs (mth (topS 41) 9), defBody (mth (topS 41) 9), defScope (mth (topS 41) 9), [], []⟩,
  ⟨fun K => He.ma K (He.ga K "Region") "__sub__", "__sub__", "Region.__sub__", defArgs (mth (topS 41) 11), defBody (mth (topS 41) 11), defScope (mth (topS 41) 11), [], []⟩,
  ⟨fun K => He.ma K (He.ga K "Region") "__invert__", "__invert__", "Region.__invert__", defArgs (mth (topS 41) 13), defBody (mth (topS 41) 13), defScope (mth (topS 41) 13), [], []⟩,
  ⟨fun K => He.ma K (He.ga K "Region") "__eq__", "__eq__", "Region.__eq__", defArgs (mth (topS 41) 18), defBody (mth (topS 41) 18), defScope (mth (topS 41) 18), [], []⟩,
  ⟨fun K => He.ma K (He.ga K "Trial") "__init__", "__init__", "Trial.__init__", defArgs (mth (topS 47) 0), defBody (mth (topS 47) 0), defScope (mth (topS 47) 0), [], []⟩,
  ⟨fun K => He.ma K (He.ga K "Trial") "__enter__", "__enter__", "Trial.__enter__", defArgs (mth (topS 47) 1), defBody (mth (topS 47) 1), defScope (mth (topS 47) 1), [], []⟩,
  ⟨fun K => He.ma K (He.ga K "Trial") "__exit__", "__exit__", "Trial.__exit__", defArgs (mth (topS 47) 2), defBody (mth (topS 47) 2), defScope (mth (topS 47) 2), [], []⟩,
  ⟨fun K => He.ma K (He.ga K "Room") "__init__", "__init__", "Room.__init__", defArgs (mth (topS 48) 1), defBody (mth (topS 48) 1), defScope (mth (topS 48) 1), [], []⟩,
  ⟨fun K => He.ma K (He.ga K "Room") "check_name", "check_name", "Room.check_name", defArgs (mth (topS 48) 3), defBody (mth (topS 48) 3), defScope (mth (topS 48) 3), [], []⟩,
  ⟨fun K => He.ma K (He.ga K "Room") "check_inside", "check_inside", "Room.check_inside", defArgs (mth (topS 48) 4), defBody (mth (topS 48) 4), defScope (mth (topS 48) 4), [], []⟩,
  ⟨fun K => He.ma K (He.ga K "Room") "replace", "replace", "Room.replace", defArgs (mth (topS 48) 5), defBody (mth (topS 48) 5), defScope (mth (topS 48) 5), [], []⟩,
  ⟨fun K => He.ma K (He.ga K "Room") "put", "put", "Room.put", defArgs (mth (topS 48) 6), defBody (mth (topS 48) 6), defScope (mth (topS 48) 6), [], []⟩,
  ⟨fun K => He.ma K (He.ga K "Room") "join", "join", "Room.join", defArgs (mth (topS 48) 7), defBody (mth (topS 48) 7), defScope (mth (topS 48) 7), [], []⟩,
  ⟨fun K => He.ma K (He.ga K "Room") "cut", "cut", "Room.cut", defArgs (mth (topS 48) 8), defBody (mth (topS 48) 8), defScope (mth (topS 48) 8), [], []⟩,
  ⟨fun K => He.ma K (He.ga K "Room") "drop", "drop", "Room.drop", defArgs (mth (topS 48) 9), defBody (mth (topS 48) 9), defScope (mth (topS 48) 9), [], []⟩,
  ⟨fun K => He.ma K (He.ga K "Room") "undo", "undo", "Room.undo", defArgs (mth (topS 48) 10), defBody (mth (topS 48) 10), defScope (mth (topS 48) 10), [], []⟩,
  ⟨fun K => He.ma K (He.ga K "Room") "region", "region", "Room.region", defArgs (mth (topS 48) 11), defBody (mth (topS 48) 11), defScope (mth (topS 48) 11), [], []⟩,
  ⟨fun K => He.ma K (He.ga K "Room") "names", "names", "Room.names", defArgs (mth (topS 48) 12), defBody (mth (topS 48) 12), defScope (mth (topS 48) 12), [], []⟩,
  ⟨fun K => He.ma K (He.ga K "Room") "log", "log", "Room.log", defArgs (mth (topS 48) 13), defBody (mth (topS 48) 13), defScope (mth (topS 48) 13), [], []⟩,
  ⟨fun K => He.ma K (He.ga K "Room") "trial", "trial", "Room.trial", defArgs (mth (topS 48) 15), defBody (mth (topS 48) 15), defScope (mth (topS 48) 15), [], []⟩,
  ⟨fun K => He.ma K (He.ga K "Room") "tried", "tried", "Room.tried", defArgs (mth (topS 48) 16), defBody (mth (topS 48) 16), defScope (mth (topS 48) 16), [], []⟩,
  ⟨fun K => He.ma K (He.ga K "Room") "handed_to", "handed_to", "Room.handed_to", defArgs (mth (topS 48) 17), defBody (mth (topS 48) 17), defScope (mth (topS 48) 17), [], []⟩,
  ⟨fun K => He.ma K (He.ga K "Room") "copy", "copy", "Room.copy", defArgs (mth (topS 48) 18), defBody (mth (topS 48) 18), defScope (mth (topS 48) 18), [], []⟩,
  ⟨fun K => He.ma K (He.ga K "Room") "__len__", "__len__", "Room.__len__", defArgs (mth (topS 48) 19), defBody (mth (topS 48) 19), defScope (mth (topS 48) 19), [], []⟩,
  ⟨fun K => He.ma K (He.ga K "Room") "__eq__", "__eq__", "Room.__eq__", defArgs (mth (topS 48) 20), defBody (mth (topS 48) 20), defScope (mth (topS 48) 20), [], []⟩,
  ⟨fun K => He.ma K (He.ga K "FixedRoom") "check_inside", "check_inside", "FixedRoom.check_inside", defArgs (mth (topS 49) 2), defBody (mth (topS 49) 2), defScope (mth (topS 49) 2), [], []⟩,
  ⟨fun K => He.ma K (He.ga K "FixedRoom") "copy", "copy", "FixedRoom.copy", defArgs (mth (topS 49) 5), defBody (mth (topS 49) 5), defScope (mth (topS 49) 5), [], []⟩,
  ⟨fun K => He.ma K (He.ga K "NoName") "__init__", "__init__", "NoName.__init__", defArgs (mth (topS 11) 0), defBody (mth (topS 11) 0), defScope (mth (topS 11) 0), [], []⟩,
  ⟨fun K => He.ma K (He.ga K "Outside") "__init__", "__init__", "Outside.__init__", defArgs (mth (topS 7) 0), defBody (mth (topS 7) 0), defScope (mth (topS 7) 0), [], []⟩,
  ⟨fun K => He.ma K (He.ga K "Blocked") "__init__", "__init__", "Blocked.__init__", defArgs (mth (topS 9) 0), defBody (mth (topS 9) 0), defScope (mth (topS 9) 0), [], []⟩,
  ⟨fun K => He.ma K (He.ga K "NothingLeft") "__init__", "__init__", "NothingLeft.__init__", defArgs (mth (topS 12) 0), defBody (mth (topS 12) 0), defScope (mth (topS 12) 0), [], []⟩,
  ⟨fun K => He5.wf K (He.ga K "Region") "classmethod" "of", "of", "Region.of", defArgs (mth (topS 41) 1), defBody (mth (topS 41) 1), defScope (mth (topS 41) 1), [], []⟩,
  ⟨fun K => He5.wf K (He.ga K "Region") "staticmethod" "empty", "empty", "Region.empty", defArgs (mth (topS 41) 2), defBody (mth (topS 41) 2), defScope (mth (topS 41) 2), [], []⟩,
  ⟨fun K => He5.wf K (He.ga K "Room") "property" "whole", "whole", "Room.whole", defArgs (mth (topS 48) 14), defBody (mth (topS 48) 14), defScope (mth (topS 48) 14), [], []⟩,
  ⟨fun K => He5.wf K (He.ga K "FixedRoom") "property" "frame", "frame", "FixedRoom.frame", defArgs (mth (topS 49) 1), defBody (mth (topS 49) 1), defScope (mth (topS 49) 1), [], []⟩]
def sfL : List He5.DefA := [
  ⟨fun K => He.ma K (He.ga K "FixedRoom") "__init__", "__init__", "FixedRoom.__init__", defArgs (mth (topS 49) 0), defBody (mth (topS 49) 0), defScope (mth (topS 49) 0), [], []⟩,
  ⟨fun K => He.ma K (He.ga K "FixedRoom") "put", "put", "FixedRoom.put", defArgs (mth (topS 49) 3), defBody (mth (topS 49) 3), defScope (mth (topS 49) 3), [], []⟩,
  ⟨fun K => He.ma K (He.ga K "FixedRoom") "join", "join", "FixedRoom.join", defArgs (mth (topS 49) 4), defBody (mth (topS 49) 4), defScope (mth (topS 49) 4), [], []⟩]
def faL : List He.Fa := [
  .glo "merged",
  .glo "is_covered",
  .glo "is_wanted",
  .glo "combined",
  .glo "spans_at",
  .glo "tidy",
  .glo "cuts_of",
  .glo "slabs_of",
  .glo "mixed",
  .glo "is_integer",
  .glo "are_integers",
  .glo "is_box",
  .glo "check_box",
  .glo "check_region",
  .glo "united",
  .glo "turned_out",
  .glo "is_word",
  .glo "check_word",
  .glo "_law_pool",
  .glo "_law_take",
  .glo "_law_region",
  .glo "_law_row",
  .glo "_law_act",
  .glo "_law_told",
  .glo "_law_tried",
  .glo "_law_state",
  .glo "_law_acted",
  .glo "_law_nested",
  .glo "_law_broken",
  .glo "_law_right",
  .glo "law",
  .glo "Region",
  .glo "Trial",
  .glo "Room",
  .glo "FixedRoom",
  .glo "NoName",
  .glo "Outside",
  .glo "Blocked",
  .glo "NothingLeft",
  .glo "BoxError",
  .free "sorted",
  .free "max",
  .free "min",
  .free "tuple",
  .free "list",
  .free "dict",
  .free "any",
  .free "all",
  .free "zip",
  .free "len",
  .free "isinstance",
  .free "int",
  .free "bool",
  .free "str",
  .free "range",
  .free "enumerate",
  .free "super",
  .free "KeyError",
  .free "RuntimeError",
  .free "IndexError",
  .int "MOST_LETTERS" 8,
  .str "LETTERS" "abcdefghijklmnopqrstuvwxyz",
  .cls "Region",
  .mkr "Region",
  .cls "Trial",
  .mkr "Trial",
  .cls "Room",
  .mkr "Room",
  .cls "FixedRoom",
  .mkr "FixedRoom",
  .noat "Region" "form",
  .noat "Region" "is_outside",
  .noat "Trial" "room",
  .noat "Trial" "kept_before",
  .noat "Trial" "calls_before",
  .noat "Room" "kept",
  .noat "Room" "calls",
  .noat "FixedRoom" "kept",
  .noat "FixedRoom" "calls",
  .noat "FixedRoom" "own_frame",
  .noat "NoName" "value",
  .noat "Outside" "value",
  .noat "Blocked" "value",
  .noat "NothingLeft" "value",
  .meth "Region" "within",
  .meth "Region" "__or__",
  .meth "Region" "__sub__",
  .meth "Region" "__invert__",
  .meth "Trial" "__enter__",
  .meth "Trial" "__exit__",
  .meth "Room" "check_name",
  .meth "Room" "check_inside",
  .meth "Room" "replace",
  .meth "Room" "put",
  .meth "Room" "join",
  .meth "Room" "cut",
  .meth "Room" "drop",
  .meth "Room" "undo",
  .meth "Room" "region",
  .meth "Room" "names",
  .meth "Room" "log",
  .meth "Room" "trial",
  .meth "Room" "tried",
  .meth "Room" "handed_to",
  .meth "Room" "copy",
  .meth "Room" "__len__",
  .meth "FixedRoom" "check_name",
  .meth "FixedRoom" "check_inside",
  .meth "FixedRoom" "replace",
  .meth "FixedRoom" "put",
  .meth "FixedRoom" "join",
  .meth "FixedRoom" "cut",
  .meth "FixedRoom" "drop",
  .meth "FixedRoom" "undo",
  .meth "FixedRoom" "region",
  .meth "FixedRoom" "names",
  .meth "FixedRoom" "log",
  .meth "FixedRoom" "trial",
  .meth "FixedRoom" "tried",
  .meth "FixedRoom" "handed_to",
  .meth "FixedRoom" "copy",
  .meth "FixedRoom" "__len__",
  .exm "NoName" "NoName" true,
  .exm "Blocked" "NoName" false,
  .exm "NothingLeft" "NoName" false,
  .exm "Outside" "NoName" false,
  .exm "Blocked" "Blocked" true,
  .exm "NothingLeft" "Blocked" false,
  .exm "Outside" "Blocked" false,
  .exm "NothingLeft" "NothingLeft" true,
  .exm "Outside" "NothingLeft" false,
  .exm "Outside" "Outside" true]
def exL (K : PySem.W.Frag) : List Bool := [
  clsIB K (He.ga K "Region"),
  clsIB K (He.ga K "Trial"),
  clsIB K (He.ga K "Room"),
  clsIB K (He.ga K "FixedRoom"),
  decide (PySem.W.kitOne K (.ref (He.ga K "Region")) (.ref (He.ga K "Region")) = some true),
  PySem.W.selfFirst K (He.ga K "Region"),
  He5.wrapB K (He.ga K "Region") "staticmethod" "staticmethod.__get__" "empty" && PySem.W.keepIn K (.ref (He5.wf K (He.ga K "Region") "staticmethod" "empty")),
  He5.wrapB K (He.ga K "Region") "classmethod" "classmethod.__get__" "of" && PySem.W.fnIn K (He5.wf K (He.ga K "Region") "classmethod" "of"),
  creadB K (He.ga K "Region"),
  creadB K (He.ga K "BoxError"),
  fcB K (.ref (He.ga K "BoxError")) "__init__" "ValueError.__init__",
  fcB K (.type "KeyError") "__init__" "KeyError.__init__",
  fcB K (.type "RuntimeError") "__init__" "RuntimeError.__init__",
  fcB K (.type "IndexError") "__init__" "IndexError.__init__",
  propB K (He.ga K "Room") "whole",
  propB K (He.ga K "FixedRoom") "whole",
  propB K (He.ga K "FixedRoom") "frame",
  He.conB K "Room" "MOST" (.int 20),
  He.conB K "FixedRoom" "MOST" (.int 20),
  oxB K (He.ga K "NoName") keB "LookupError.__new__",
  oxB K (He.ga K "Outside") veB "ValueError.__new__",
  oxB K (He.ga K "Blocked") reB "RuntimeError.__new__",
  oxB K (He.ga K "NothingLeft") ieB "IndexError.__new__",
  xfB K (He.ga K "NoName"),
  xfB K (He.ga K "Outside"),
  xfB K (He.ga K "Blocked"),
  decide (PySem.W.kitOne K (.ref (He.ga K "Room")) (.ref (He.ga K "Room")) = some true),
  PySem.W.notFirst K (He.ga K "Room") (.type "list"),
  PySem.W.notFirst K (He.ga K "Room") (.ref (He.ga K "Region")),
  !decide ((He.ga K "Room") = (He.ga K "Region")),
  eqcB K (He.ga K "Room"),
  decide (PySem.W.kitOne K (.ref (He.ga K "FixedRoom")) (.ref (He.ga K "Room")) = some true),
  PySem.W.notFirst K (He.ga K "FixedRoom") (.type "list"),
  PySem.W.notFirst K (He.ga K "FixedRoom") (.ref (He.ga K "Region")),
  !decide ((He.ga K "FixedRoom") = (He.ga K "Region")),
  eqcB K (He.ga K "FixedRoom"),
  decide (PySem.W.kitOne K (.type "list") (.ref (He.ga K "Room")) = some false),
  decide (PySem.W.kitOne K (.ref (He.ga K "Region")) (.ref (He.ga K "Room")) = some false),
  !decide ((He.ga K "FixedRoom") = (He.ga K "Room")),
  decide (PySem.W.subIn K (.ref (He.ga K "FixedRoom")) (.ref (He.ga K "Room")) = some true),
  He.eqO (PySem.W.findIn K (.ref (He.ga K "Region")) "__eq__") (some (some (.ref (He.ma K (He.ga K "Region") "__eq__")))) && PySem.W.isFn K (.ref (He.ma K (He.ga K "Region") "__eq__")),
  decide (He.ma K (He.ga K "FixedRoom") "check_name" = He.ma K (He.ga K "Room") "check_name"),
  decide (He.ma K (He.ga K "FixedRoom") "replace" = He.ma K (He.ga K "Room") "replace"),
  decide (He.ma K (He.ga K "FixedRoom") "cut" = He.ma K (He.ga K "Room") "cut"),
  decide (He.ma K (He.ga K "FixedRoom") "drop" = He.ma K (He.ga K "Room") "drop"),
  decide (He.ma K (He.ga K "FixedRoom") "undo" = He.ma K (He.ga K "Room") "undo"),
  decide (He.ma K (He.ga K "FixedRoom") "region" = He.ma K (He.ga K "Room") "region"),
  decide (He.ma K (He.ga K "FixedRoom") "names" = He.ma K (He.ga K "Room") "names"),
  decide (He.ma K (He.ga K "FixedRoom") "log" = He.ma K (He.ga K "Room") "log"),
  decide (He.ma K (He.ga K "FixedRoom") "trial" = He.ma K (He.ga K "Room") "trial"),
  decide (He.ma K (He.ga K "FixedRoom") "tried" = He.ma K (He.ga K "Room") "tried"),
  decide (He.ma K (He.ga K "FixedRoom") "handed_to" = He.ma K (He.ga K "Room") "handed_to"),
  decide (He.ma K (He.ga K "FixedRoom") "__len__" = He.ma K (He.ga K "Room") "__len__"),
  decide (He.ma K (He.ga K "FixedRoom") "__eq__" = He.ma K (He.ga K "Room") "__eq__"),
  decide (He.ma K (He.ga K "FixedRoom") "whole" = He.ma K (He.ga K "Room") "whole"),
  supB K (He.ga K "FixedRoom") "__init__" "FixedRoom.__init__",
  supmB K (He.ga K "FixedRoom") (He.ga K "Room") "__init__",
  supB K (He.ga K "FixedRoom") "put" "FixedRoom.put",
  supmB K (He.ga K "FixedRoom") (He.ga K "Room") "put",
  supB K (He.ga K "FixedRoom") "join" "FixedRoom.join",
  supmB K (He.ga K "FixedRoom") (He.ga K "Room") "join",
  (PySem.W.clsIn K (He.ga K "FixedRoom")).isSome && (decide (PySem.W.mroIn K (He.ga K "FixedRoom") (.ref (He.ga K "FixedRoom")) = some true) && He.eqO (PySem.W.nsIn K cStatics "thirdparty.any") (some none)),
  decide ((tfL.map fun p => (He.cT K p).2).Nodup)]
/-! the Hook -/
/-- a function with its code object and its cells; what wraps a function, with both -/
def leadsZ (g : Look1) : Value → List Addr
  | .ref a => a :: (match g a with
    | some ⟨_, _, .func fd, _⟩ => He.refV fd.code ++ fd.closure.map (·.2)
    | some ⟨_, _, .fields vs, _⟩ => vs.toList.flatMap fun v => (He.refV v).flatMap fun b => b :: codesAt g b
    | _ => [])
  | _ => []
def leadsCZ (g : Look1) (p : Str × List Str) : List Addr := match atGlo g p.1 with
  | .ref C => C :: (match g C with
    | some ⟨_, _, .cls cd, _⟩ => cd.ns :: p.2.flatMap fun m => (match PySem.W.nsIn (He.frG g [cd.ns]) cd.ns m with
      | some (some v) => leadsZ g v
      | _ => [])
    | _ => [])
  | _ => []
def asZ (cs : List (Str × List Str)) (fs : List Str) (g : Look1) : List Addr := mainGlobals :: cStatics :: (cs.flatMap (leadsCZ g) ++ fs.flatMap fun x => leadsZ g (atGlo g x))
/-- a function's datum but for its cells -/
def fnZ (K : PySem.W.Frag) (a : Addr) : He.FnW := match K.lookup a with
  | some ⟨_, _, .func fd, _⟩ => some (fd.name, fd.qualname, fd.params, fd.body, fd.scope, fd.globals, [], fd.builtins)
  | _ => none
abbrev AlZ : Type := (List He.FnW × List He.FnW) × Bool
def tabsZ (g : Look1) (tf : List He.Defn) (K : PySem.W.Frag) : Bool := He.tabsB g tf K
def okZ (K : PySem.W.Frag) : Bool := (fnL.all fun d => d.ok K) && ((faL.all fun f => f.ok K) && (exL K).all id)
def obZ (cs : List (Str × List Str)) (fs : List Str) (g : Look1) : AlZ :=
  (fun K => ((fnL.map fun d => He5.fnA K (d.at_ K), sfL.map fun d => fnZ K (d.at_ K)), okZ K && tabsZ g tfL K)) (He.frT g (asZ cs fs g))
def valZ : AlZ := ((fnL.map He5.DefA.val, sfL.map He5.DefA.val), true)
structure SaysZ (h : Heap) (K : PySem.W.Frag) : Prop where
  kin : K.In h
  fns : (fnL.map fun d => He5.fnA K (d.at_ K)) = fnL.map He5.DefA.val
  sfs : (sfL.map fun d => fnZ K (d.at_ K)) = sfL.map He5.DefA.val
  ok : okZ K = true
  hd : ∀ p ∈ tfL, PySem.W.codeHdIn K (He.cT K p).1 (He.cT K p).2 = true
  out : ∀ p ∈ tfL, K.lookup (He.cT K p).2 = none
  empty : ∀ p ∈ tfL, h.get? (He.cT K p).2 = some { cls := .none, data := .fields #[] }
theorem saysZ {cs : List (Str × List Str)} {fs : List Str} {h : Heap} (e : obZ cs fs h.get? = valZ) : ∃ K : PySem.W.Frag, SaysZ h K := by
  refine ⟨He.frT h.get? (asZ cs fs h.get?), ?_⟩
  have e1 := congrArg (fun z : AlZ => z.1.1) e
  have e2 := congrArg (fun z : AlZ => z.1.2) e
  have e3 : (okZ (He.frT h.get? (asZ cs fs h.get?)) && He.tabsB h.get? tfL (He.frT h.get? (asZ cs fs h.get?))) = true := congrArg (fun z : AlZ => z.2) e
  obtain ⟨h1, h2⟩ := He.ba e3
  have key : ∀ p ∈ tfL, PySem.W.codeHdIn (He.frT h.get? (asZ cs fs h.get?)) (He.cT (He.frT h.get? (asZ cs fs h.get?)) p).1 (He.cT (He.frT h.get? (asZ cs fs h.get?)) p).2 = true ∧
      ∃ o, h.get? (He.cT (He.frT h.get? (asZ cs fs h.get?)) p).2 = some o ∧ He.emptyTab o = true := by
    intro p hp
    have := He.ba (List.all_eq_true.mp h2 p hp)
    refine ⟨this.1, ?_⟩
    have h4 := this.2
    split at h4
    · exact ⟨_, by assumption, h4⟩
    · cases h4
  exact ⟨He.frT_in, e1, e2, h1, fun p hp => (key p hp).1, fun p hp => (key p hp).2.elim fun o q => He.frT_none q.1 q.2, fun p hp => (key p hp).2.elim fun o q => by rw [q.1, He.emptyTab_eq q.2]⟩
def hookZ (cs : List (Str × List Str)) (fs : List Str) : PySem.W.Hook where
  α := AlZ
  obs := fun s => obZ cs fs s.heap.get?
  val := fun _ => valZ
  says := fun _ h => ∃ K : PySem.W.Frag, SaysZ h K
  of := fun _ _ => saysZ
  keeps := fun _ _ _ ⟨K, c⟩ k => ⟨K, ⟨PySem.W.Frag.In.keeps c.kin k, c.fns, c.sfs, c.ok, c.hd, c.out, fun p hp => k _ _ (c.empty p hp)⟩⟩
theorem obZ_eq {cs : List (Str × List Str)} {fs : List Str} {g : Look1} {s : Shared} (h : ∀ a, g a = s.heap.get? a) : obZ cs fs g = (hookZ cs fs).obs s := congrArg (obZ cs fs) (funext h)
def csZ : List (Str × List Str) := [("BoxError", []), ("Outside", ["__init__"]), ("Blocked", ["__init__"]), ("NoName", ["__init__"]), ("NothingLeft", ["__init__"]),
  ("Region", ["__init__", "of", "empty", "within", "__or__", "__sub__", "__invert__", "__eq__"]), ("Trial", ["__init__", "__enter__", "__exit__"]),
  ("Room", ["__init__", "check_name", "check_inside", "replace", "put", "join", "cut", "drop", "undo", "region", "names", "log", "whole", "trial", "tried", "handed_to", "copy", "__len__", "__eq__"]),
  ("FixedRoom", ["__init__", "frame", "check_inside", "put", "join", "copy"])]
def fsZ : List Str := ["merged", "is_covered", "is_wanted", "combined", "spans_at", "tidy", "cuts_of", "slabs_of", "mixed", "is_integer", "are_integers", "is_box", "check_box", "check_region", "united", "turned_out", "is_word", "check_word", "_law_pool", "_law_take", "_law_region", "_law_row", "_law_act", "_law_told", "_law_tried", "_law_state", "_law_acted", "_law_nested", "_law_broken", "_law_right", "law"]
end BXH
end
section
set_option Elab.async false
set_option linter.all false
set_option maxRecDepth 100000
set_option maxHeartbeats 0
namespace BXH
open PySem PySem.Spec PyProof.Rows L2
abbrev R : PySem.W.OpenRow := PySem.W.OpenLaw.row PySem.Challenge.rw_boxregions_k86_whole_trials_leave_no_tra
def names1 : List PySem.Str := ["_wall", "BoxError", "InvalidBox", "InvalidSquare", "InvalidRegion", "InvalidName", "Outside", "Unbounded", "Blocked", "TooMany", "NoName", "NothingLeft", "merged", "is_covered", "is_wanted", "combined", "spans_at", "tidy", "cuts_of", "slabs_of", "boxes_of", "mixed", "frame_of", "added_box", "opposite", "grown", "shrunk", "is_integer", "are_integers", "is_square"]
def names2 : List PySem.Str := ["is_box", "check_square", "check_box", "check_region", "check_bounded", "united", "turned_out", "Region", "LETTERS", "MOST_LETTERS", "is_word", "check_word", "Trial", "Room", "FixedRoom", "_law_pool", "_law_take", "_law_region", "_law_row", "_law_undone", "_law_done", "_law_act", "_law_told", "_law_looks", "_law_tried", "_law_state", "_law_acted", "_law_nested", "_law_broken", "_law_right"]
def names : List PySem.Str := names1 ++ names2
abbrev hk : PySem.W.Hook := hookZ csZ fsZ
def ob (s : PySem.W.SharedT) : AlZ := obZ csZ fsZ (HandSHeadRun.getT s)
theorem ob_eq (s : PySem.W.SharedT) : ob s = hk.obs s.abs := obZ_eq (HandSHeadRun.getT_eq s)
theorem run (w : World) : HandSHeadRun.RunEq R (PySem.W.view R.prog [66]) hk ob 8000 names w := by
  intro os
  kernel_rfl
end BXH
end
section
set_option Elab.async false
set_option linter.all false
set_option maxRecDepth 100000
set_option maxHeartbeats 4000000
namespace BX
open PySem PySem.Spec PyProof.Rows L2
def spInt : Sp := fun vs H Q _ => ∃ i : Int, vs = [.int i] ∧ Q (.bl true) H
def spInts (K : PySem.W.Frag) : Sp := fun vs H Q _ => ∃ (t : Addr) (ns : List Int), vs = [.ref t, .int ns.length] ∧ SqT K H t (ns.map V.int) ∧ ns.length ≤ 1000 ∧ ∀ H', Same H H' → Q (.bl true) H'
def spBox (K : PySem.W.Frag) : Sp := fun vs H Q _ => ∃ (t : Addr) (b : Bx), vs = [.ref t] ∧ SqT K H t [.int b.1, .int b.2.1, .int b.2.2.1, .int b.2.2.2] ∧ b.1 < b.2.2.1 ∧ b.2.1 < b.2.2.2 ∧ ∀ H', Same H H' → Q (.bl true) H'
def spChkB (K : PySem.W.Frag) : Sp := fun vs H Q _ => ∃ (t : Addr) (b : Bx), vs = [.ref t] ∧ SqT K H t [.int b.1, .int b.2.1, .int b.2.2.1, .int b.2.2.2] ∧ b.1 < b.2.2.1 ∧ b.2.1 < b.2.2.2 ∧ ∀ H', Same H H' → Q .non H'
theorem scInt : FnScope ["thing"] ["thing"] (defScope (topS 31)) := C8.fnScope_by (by decide +kernel)
theorem scInts : FnScope ["thing", "count", "number"] ["thing", "count"] (defScope (topS 32)) := C8.fnScope_by (by decide +kernel)
theorem scBox : FnScope ["thing"] ["thing"] (defScope (topS 34)) := C8.fnScope_by (by decide +kernel)
theorem scChkB : FnScope ["box"] ["box"] (defScope (topS 36)) := C8.fnScope_by (by decide +kernel)
section
variable {P : Program} {w : World} {K : PySem.W.Frag} {mg : Str → Option Value} {base : Heap} {f CR : Addr} {fd : FuncData}
theorem ok_turn (F : FnQ K "turned_out" "turned_out" (topS 40) f fd) (R : RegC K mg CR) (CN : C8.Mak P w K mg base 1 "Region" CR (spRInit CR) []) : At P w K mg base 3 f (spTurn K CR) := by
  refine atP F scTurn (fun _ _ _ _ _ _ us hl => match us, hl with | [_], _ => rfl) (fun vs H Q E h => ?_) (fun cdv A outer s H vs Q E hr h => ?_)
  · obtain ⟨v, r, rfl, _⟩ := h
    rfl
  · obtain ⟨v, r, rfl, ⟨x, dx, fv, rfl, hx, hf, of⟩, k⟩ := h
    refine ⟨_, pss_one (ps_ret (C8.pe_mk CN hr (by omega) (by rfl) (pa_cons (pe_fld (pv 0) rfl) (pa_cons (pe_not (pe_fld (pv 0) rfl)) pa_nil)))), ?_⟩
    refine ⟨_, rfl, x, CR, dx, _, _, rfl, hx, R.i.cl, R.nf, rfl, _, rfl, x, CR, dx, _, _, rfl, hx, R.i.cl, R.no, rfl, _, rfl, ?_⟩
    exact mk_reg (r := turned r) hf of k
theorem ok_chkR (F : FnQ K "check_region" "check_region" (topS 37) f fd) (R : RegC K mg CR) (B : Bt mg) : At P w K mg base 1 f (spChkR K CR) := by
  refine atP F scChkR (fun _ _ _ _ _ _ us hl => match us, hl with | [_], _ => rfl) (fun vs H Q E h => ?_) (fun cdv A outer s H vs Q E hr h => ?_)
  · obtain ⟨v, r, rfl, _⟩ := h
    rfl
  · obtain ⟨v, r, rfl, ⟨x, dx, fv, rfl, hx, hf, of⟩, k⟩ := h
    refine ⟨_, pss_one (ps_if (pt_not (pt_val (pe_callB call_isi (by rfl) B.isinstance (by decide +kernel) (pa_cons (pv 0) (pa_cons (pe_glob (v := .ref CR) (by rfl) R.g rfl) pa_nil))))) pss_never pss_nil), ?_⟩
    exact ⟨_, rfl, V.ref x, .ref CR, _, _, true, rfl, .own CR, R.i.ty hx, R.kit, _, rfl, iteF k⟩
theorem ok_with (F : FnQ K "within" "Region.within" (mth sReg 8) f fd) (R : RegC K mg CR) (CK : C8.Cal P w K mg base 1 "check_region" (spChkR K CR) []) (CU : C8.Cal P w K mg base 4 "united" (spUni K CR) []) (CT : C8.Cal P w K mg base 3 "turned_out" (spTurn K CR) []) : At P w K mg base 5 f (spWith K CR) := by
  refine atP F scWith (fun _ _ _ _ _ _ us hl => match us, hl with | [_, _], _ => rfl) (fun vs H Q E h => ?_) (fun cdv A outer s H vs Q E hr h => ?_)
  · obtain ⟨v, u, r, s, rfl, _⟩ := h
    rfl
  · obtain ⟨v, u, r, t, rfl, hv, hu, k⟩ := h
    have hun : _ + 64 < cLine := hr.units
    refine ⟨_, pss_cons (ps_expr (C8.pe_c CK hr (by omega) (by rfl) (pa_cons (pv 1) pa_nil)))
      (pss_cons (ps_set (i := 2) scWith.nd rfl (Or.inl rfl) (C8.pe_c CU hr (by omega) (by rfl) (pa_cons (C8.pe_c CT hr (by omega) (by rfl) (pa_cons (pv 0) pa_nil)) (pa_cons (pv 1) pa_nil))))
      (pss_one (ps_ret (pe_and (pe_cmpR (op_eqD hun) (pe_fld (pv 2) rfl) (pe_tup pa_nil) (nomark _)) (pe_one (pe_fld (pv 2) rfl)))))), ?_⟩
    refine ⟨_, rfl, u, t, rfl, hu, _, rfl, v, r, rfl, hv, fun z H1 s1 hz => ⟨_, rfl, z, u, turned r, t, rfl, hz, hu.same s1, fun y H2 s2 hy => ?_⟩⟩
    obtain ⟨x, dx, fv, rfl, hx, hf, of⟩ := hy
    refine ⟨_, rfl, x, CR, dx, _, _, rfl, hx, R.i.cl, R.nf, rfl, Nat.zero_le _, fun p hp => ?_⟩
    have s3 : Same H2 (upd H2 p (.tup [])) := Same.upd1 hp
    refine ⟨_, _, form_tk (TK.of s3) hf, form_mk (f := []) upd_same .nil, form_shaped _, form_shaped [], _, rfl, ?_⟩
    rw [form_eqv]
    have e : within r t = (decide ((united (turned r) t).1 = []) && (united (turned r) t).2) := rfl
    by_cases h0 : (united (turned r) t).1 = []
    · rw [decide_eq_true h0]
      refine iteT ⟨_, rfl, x, CR, dx, _, _, rfl, s3 _ _ hx, R.i.cl, R.no, rfl, ?_⟩
      have := k _ (s1.trans (s2.trans s3))
      rw [e, decide_eq_true h0, Bool.true_and] at this
      exact this
    · rw [decide_eq_false h0]
      refine iteF ?_
      have := k _ (s1.trans (s2.trans s3))
      rw [e, decide_eq_false h0, Bool.false_and] at this
      exact this
theorem ok_or (F : FnQ K "__or__" "Region.__or__" (mth sReg 9) f fd) (CK : C8.Cal P w K mg base 1 "check_region" (spChkR K CR) []) (CU : C8.Cal P w K mg base 4 "united" (spUni K CR) []) : At P w K mg base 5 f (spUni K CR) := by
  refine atP F scOr (fun _ _ _ _ _ _ us hl => match us, hl with | [_, _], _ => rfl) (fun vs H Q E h => ?_) (fun cdv A outer s H vs Q E hr h => ?_)
  · obtain ⟨v, u, r, s, rfl, _⟩ := h
    rfl
  · obtain ⟨v, u, r, t, rfl, hv, hu, k⟩ := h
    refine ⟨_, pss_cons (ps_expr (C8.pe_c CK hr (by omega) (by rfl) (pa_cons (pv 1) pa_nil)))
      (pss_one (ps_ret (C8.pe_c CU hr (by omega) (by rfl) (pa_cons (pv 0) (pa_cons (pv 1) pa_nil))))), ?_⟩
    exact ⟨_, rfl, u, t, rfl, hu, _, rfl, _, rfl, v, u, r, t, rfl, hv, hu, k⟩
theorem ok_sub (F : FnQ K "__sub__" "Region.__sub__" (mth sReg 11) f fd) (CK : C8.Cal P w K mg base 1 "check_region" (spChkR K CR) []) (CU : C8.Cal P w K mg base 4 "united" (spUni K CR) []) (CT : C8.Cal P w K mg base 3 "turned_out" (spTurn K CR) []) : At P w K mg base 5 f (spSub K CR) := by
  refine atP F scSub (fun _ _ _ _ _ _ us hl => match us, hl with | [_, _], _ => rfl) (fun vs H Q E h => ?_) (fun cdv A outer s H vs Q E hr h => ?_)
  · obtain ⟨v, u, r, s, rfl, _⟩ := h
    rfl
  · obtain ⟨v, u, r, t, rfl, hv, hu, k⟩ := h
    refine ⟨_, pss_cons (ps_expr (C8.pe_c CK hr (by omega) (by rfl) (pa_cons (pv 1) pa_nil)))
      (pss_one (ps_ret (C8.pe_c CT hr (by omega) (by rfl) (pa_cons (C8.pe_c CU hr (by omega) (by rfl) (pa_cons (C8.pe_c CT hr (by omega) (by rfl) (pa_cons (pv 0) pa_nil)) (pa_cons (pv 1) pa_nil))) pa_nil)))), ?_⟩
    exact ⟨_, rfl, u, t, rfl, hu, _, rfl, v, r, rfl, hv, fun z H1 s1 hz => ⟨_, rfl, z, u, turned r, t, rfl, hz, hu.same s1, fun y H2 s2 hy => ⟨y, _, rfl, hy, fun q H3 s3 hq => k q H3 (s1.trans (s2.trans s3)) hq⟩⟩⟩
theorem ok_inv (F : FnQ K "__invert__" "Region.__invert__" (mth sReg 13) f fd) (CT : C8.Cal P w K mg base 3 "turned_out" (spTurn K CR) []) : At P w K mg base 4 f (spTurn K CR) := by
  refine atP F scInv (fun _ _ _ _ _ _ us hl => match us, hl with | [_], _ => rfl) (fun vs H Q E h => ?_) (fun cdv A outer s H vs Q E hr h => ?_)
  · obtain ⟨v, r, rfl, _⟩ := h
    rfl
  · obtain ⟨v, r, rfl, hv, k⟩ := h
    exact ⟨_, pss_one (ps_ret (C8.pe_c CT hr (by omega) (by rfl) (pa_cons (pv 0) pa_nil))), _, rfl, v, r, rfl, hv, k⟩
theorem ok_req (F : FnQ K "__eq__" "Region.__eq__" (mth sReg 18) f fd) (R : RegC K mg CR) (B : Bt mg) : At P w K mg base 1 f (spREq K CR) := by
  refine atP F scREq (fun _ _ _ _ _ _ us hl => match us, hl with | [_, _], _ => rfl) (fun vs H Q E h => ?_) (fun cdv A outer s H vs Q E hr h => ?_)
  · obtain ⟨v, u, r, s, rfl, _⟩ := h
    rfl
  · obtain ⟨v, u, r, t, rfl, ⟨x, dx, fv, rfl, hx, hf, of⟩, ⟨y, dy, gv, rfl, hy, hg, og⟩, k⟩ := h
    have hun : _ + 64 < cLine := hr.units
    refine ⟨_, pss_cons (ps_if (pt_not (pt_val (pe_callB call_isi (by rfl) B.isinstance (by decide +kernel) (pa_cons (pv 1) (pa_cons (pe_glob (v := .ref CR) (by rfl) R.g rfl) pa_nil))))) pss_never pss_nil)
      (pss_one (ps_ret (pe_and (pe_cmpR (op_eqD hun) (pe_fld (pv 0) rfl) (pe_fld (pv 1) rfl) (nomark _)) (pe_one (pe_cmpR op_eq (pe_fld (pv 0) rfl) (pe_fld (pv 1) rfl) (nomark _)))))), ?_⟩
    refine ⟨_, rfl, V.ref y, .ref CR, _, _, true, rfl, .own CR, R.i.ty hy, R.kit, _, rfl, iteF ?_⟩
    refine ⟨_, rfl, x, CR, dx, _, _, rfl, hx, R.i.cl, R.nf, rfl, _, rfl, y, CR, dy, _, _, rfl, hy, R.i.cl, R.nf, rfl, _, _, hf, hg, form_shaped _, form_shaped _, _, rfl, ?_⟩
    rw [form_eqv]
    by_cases h1 : r.1 = t.1
    · rw [decide_eq_true h1]
      refine iteT ⟨_, rfl, x, CR, dx, _, _, rfl, hx, R.i.cl, R.no, rfl, _, rfl, y, CR, dy, _, _, rfl, hy, R.i.cl, R.no, rfl, rfl, ?_⟩
      rw [dec_bl]
      have e : (r.2 == t.2) = decide (r = t) := by
        rw [Bool.eq_iff_iff, beq_iff_eq, decide_eq_true_iff]
        exact ⟨fun h => Prod.ext h1 h, fun h => by rw [h]⟩
      rw [e]
      exact k
    · rw [decide_eq_false h1]
      refine iteF ?_
      rw [decide_eq_false (fun h : r = t => h1 (by rw [h]))] at k
      exact k
theorem ok_emp (F : FnQ K "empty" "Region.empty" (mth sReg 2) f fd) (CN : C8.Mak P w K mg base 1 "Region" CR (spRInit CR) []) : At P w K mg base 3 f (spREmp K CR) := by
  refine atP F scEmp (fun _ _ _ _ _ _ us hl => match us, hl with | [], _ => rfl) (fun vs H Q E h => ?_) (fun cdv A outer s H vs Q E hr h => ?_)
  · obtain ⟨rfl, _⟩ := h
    rfl
  · obtain ⟨rfl, k⟩ := h
    refine ⟨_, pss_one (ps_ret (C8.pe_mk CN hr (by omega) (by rfl) (pa_cons (pe_tup pa_nil) (pa_cons pe_bl pa_nil)))), Nat.zero_le _, fun p hp => ?_⟩
    exact mk_reg (r := ([], false)) (form_mk (f := []) upd_same .nil) OkF.nil fun z H' s hz => k z H' ((Same.upd1 hp).trans s) hz
/-! ### boxes -/
theorem ok_int (F : FnQ K "is_integer" "is_integer" (topS 31) f fd) (B : Bt mg) : At P w K mg base 1 f spInt := by
  refine atP F scInt (fun _ _ _ _ _ _ us hl => match us, hl with | [_], _ => rfl) (fun vs H Q E h => ?_) (fun cdv A outer s H vs Q E hr h => ?_)
  · obtain ⟨i, rfl, _⟩ := h
    rfl
  · obtain ⟨i, rfl, k⟩ := h
    refine ⟨_, pss_one (ps_ret (pe_and (pe_callB call_isi (by rfl) B.isinstance (by decide +kernel) (pa_cons (pv 0) (pa_cons (pe_bltn (v := .ty "int") (by rfl) B.int (by decide +kernel) rfl) pa_nil)))
      (pe_one (pe_not (pe_callB call_isi (by rfl) B.isinstance (by decide +kernel) (pa_cons (pv 0) (pa_cons (pe_bltn (v := .ty "bool") (by rfl) B.bool (by decide +kernel) rfl) pa_nil))))))), ?_⟩
    exact ⟨_, rfl, .int i, .ty "int", _, _, true, rfl, .ty _, .base (.int i), kit_ty (by decide +kernel), _, rfl, iteT ⟨_, rfl, .int i, .ty "bool", _, _, false, rfl, .ty _, .base (.int i), kit_ty (by decide +kernel), _, rfl, k⟩⟩
theorem ok_ints (F : FnQ K "are_integers" "are_integers" (topS 32) f fd) (B : Bt mg) (CI : C8.Cal P w K mg base 1 "is_integer" spInt []) : At P w K mg base 2 f (spInts K) := by
  refine atP F scInts (fun _ _ _ _ _ _ us hl => match us, hl with | [_, _], _ => rfl) (fun vs H Q E h => ?_) (fun cdv A outer s H vs Q E hr h => ?_)
  · obtain ⟨t, ns, rfl, _⟩ := h
    rfl
  · obtain ⟨t, ns, rfl, hT, hl, k⟩ := h
    refine ⟨_, pss_one (ps_ret (pe_and (pe_callB call_isi (by rfl) B.isinstance (by decide +kernel) (pa_cons (pv 0) (pa_cons (pe_bltn (v := .ty "tuple") (by rfl) B.tuple (by decide +kernel) rfl) pa_nil)))
      (pe_and (pe_cmpR op_eq (pe_callB call_len (by rfl) B.len (by decide +kernel) (pa_cons (pv 0) pa_nil)) (pv 1) (nomark _))
      (pe_one (pe_callB (cr_all rfl) (by rfl) B.all (by decide +kernel) (pa_cons
        (pe_lc (own := [("number", 2)]) rfl scInts.nd (pi_tup (pv 0)) (blkOk_by (by kernel_rfl)) (fun _ _ _ _ _ => pg_name (i := 2) scInts.nd rfl (Or.inl rfl) (.inr rfl)) (fun _ _ _ _ _ => pts_nil)
          (fun _ _ _ _ _ => C8.pe_c CI (by exact hr) (by omega) (by rfl) (pa_cons (pv 2) pa_nil))) pa_nil)))))), ?_⟩
    have lx : (ns.map V.int).length = ns.length := List.length_map ..
    refine ⟨_, rfl, .ref t, .ty "tuple", _, _, true, rfl, .ty _, sqt_ty hT, kit_ty (by decide +kernel), _, rfl, iteT ?_⟩
    refine ⟨_, rfl, .ref t, ns.length, rfl, .inr ⟨_, hT, lx.symm⟩, _, rfl, rfl, ?_⟩
    rw [decide_eq_true rfl]
    refine ⟨_, rfl, iteT ?_⟩
    refine ⟨_, rfl, t, rfl, ⟨_, hT⟩, fun D hD => walkW (walk_tup (xs := ns.map V.int)) (fun i H' => Same H H' ∧ H' D = some (.lst (List.replicate i (V.bl true)))) ⟨Same.upd1 hD, upd_same⟩ (fun i H' _ p => sq_of_tk p.1 hT) ?_ ?_⟩
    · rintro i y H1 H2 hi ⟨s1, e1⟩ ⟨rfl, hy⟩
      rw [List.getElem?_map] at hy
      obtain ⟨n, hn, rfl⟩ := Option.map_eq_some_iff.mp hy
      refine ⟨by kernel_rfl, _, rfl, n, rfl, _, e1, ?_, Same.updN s1 hD, ?_⟩
      · rw [List.length_replicate]
        exact Nat.lt_of_le_of_lt (by omega : i ≤ 1000) (by decide)
      · rw [upd_same, List.replicate_succ']
    · rintro H1 ⟨s1, e1⟩
      refine ⟨D, List.replicate ns.length true, rfl, SqL.of (by rw [e1, lx, List.map_replicate]), ?_⟩
      have e : (List.replicate ns.length true).any id = (List.replicate ns.length true).any id := rfl
      have e2 : (List.replicate ns.length true).all id = true := by simp
      rw [e2]
      exact k H1 s1
theorem ok_box (F : FnQ K "is_box" "is_box" (topS 34) f fd) (CI : C8.Cal P w K mg base 2 "are_integers" (spInts K) []) : At P w K mg base 3 f (spBox K) := by
  refine atP F scBox (fun _ _ _ _ _ _ us hl => match us, hl with | [_], _ => rfl) (fun vs H Q E h => ?_) (fun cdv A outer s H vs Q E hr h => ?_)
  · obtain ⟨t, b, rfl, _⟩ := h
    rfl
  · obtain ⟨t, b, rfl, hT, h1, h2, k⟩ := h
    refine ⟨_, pss_one (ps_ret (pe_and (C8.pe_c CI hr (by omega) (by rfl) (pa_cons (pv 0) (pa_cons pe_int pa_nil)))
      (pe_and (pe_cmpR op_lt (pe_ix ix_tup (pv 0) pe_int (fun _ _ => rfl)) (pe_ix ix_tup (pv 0) pe_int (fun _ _ => rfl)) (nomark _))
        (pe_one (pe_cmpR op_lt (pe_ix ix_tup (pv 0) pe_int (fun _ _ => rfl)) (pe_ix ix_tup (pv 0) pe_int (fun _ _ => rfl)) (nomark _)))))), ?_⟩
    refine ⟨_, rfl, t, [b.1, b.2.1, b.2.2.1, b.2.2.2], rfl, hT, by show 4 ≤ 1000; decide, fun H' s' => ⟨_, rfl, iteT ?_⟩⟩
    have hT' := sq_of_tk s' hT
    refine ⟨_, rfl, t, _, _, _, rfl, rfl, hT', atI_nat (j := 0) rfl, _, rfl, t, _, _, _, rfl, rfl, hT', atI_nat (j := 2) rfl, _, _, rfl, rfl, ?_⟩
    refine ⟨true, congrArg V.bl (decide_eq_true h1), iteT ?_⟩
    refine ⟨_, rfl, t, _, _, _, rfl, rfl, hT', atI_nat (j := 1) rfl, _, rfl, t, _, _, _, rfl, rfl, hT', atI_nat (j := 3) rfl, _, _, rfl, rfl, ?_⟩
    show Q (V.bl (decide (b.2.1 < b.2.2.2))) H'
    rw [decide_eq_true h2]
    exact k H' s'
theorem ok_chkB (F : FnQ K "check_box" "check_box" (topS 36) f fd) (CI : C8.Cal P w K mg base 3 "is_box" (spBox K) []) : At P w K mg base 4 f (spChkB K) := by
  refine atP F scChkB (fun _ _ _ _ _ _ us hl => match us, hl with | [_], _ => rfl) (fun vs H Q E h => ?_) (fun cdv A outer s H vs Q E hr h => ?_)
  · obtain ⟨t, b, rfl, _⟩ := h
    rfl
  · obtain ⟨t, b, rfl, hT, h1, h2, k⟩ := h
    refine ⟨_, pss_one (ps_if (pt_not (pt_val (C8.pe_c CI hr (by omega) (by rfl) (pa_cons (pv 0) pa_nil)))) pss_never pss_nil), ?_⟩
    exact ⟨_, rfl, t, b, rfl, hT, h1, h2, fun H' s' => ⟨_, rfl, iteF (k H' s')⟩⟩
end
end BX
end
section
set_option Elab.async false
set_option linter.all false
set_option maxRecDepth 100000
set_option maxHeartbeats 4000000
/-! Rules for classes of the text: operators, a class in a slot, static methods, len. -/
namespace BX
open PySem PySem.Spec PyProof.Rows L2 ClX StX
section
variable {X : Cx} {pins : List (Addr × Obj)} {σ : L2.St} {H : Hp} {s : Shared}
theorem ins_inst {a C dx : Addr} {fs : List (Str × V)} (I : Inv X pins σ H s) (e : H a = some (.ins C dx fs)) : ∃ od, PySem.W.InstAt s.heap a (PySem.W.instObj C dx) C (some od) := by
  obtain ⟨mA, om, _⟩ := ins_get I.hok e
  obtain ⟨od, J, _⟩ := om.look
  exact ⟨od, J⟩
/-- a value of the layer is never NotImplemented -/
theorem back_of {Q : VK} {v : Value} {s' : Shared} (h : EP X pins σ Q v s') : PySem.W.CmpBack (EP X pins σ Q) v s' := by
  obtain ⟨x, H', I, r, q⟩ := h
  have : EP X pins σ Q v s' := ⟨x, H', I, r, q⟩
  cases x <;> first
    | (cases r; exact this)
    | (obtain ⟨t, rfl⟩ := r; exact this)
/-- the callee by its address, from the running body or just below -/
theorem run_at {k : Nat} {f : Addr} {sp : Sp} {Q : VK} {us : List Value} {vs : List V} (F : At X.prog X.w X.K X.mg X.base k f sp) (hr : Room k X.A) (I : Inv X pins σ H s) (r : Vals vs us) (h : sp vs H Q C8.E0) : wpAny (model X.prog X.w) X.A (call (.ref f) us) (EP X pins σ Q) X.xe s := by
  obtain ⟨fd, ps, F, kp, b⟩ := F.ex
  have e : vs ++ [] = vs := List.append_nil vs
  exact run_fn (dvs := []) (ds := []) F hr b .nil C8.pass0 I r (by rw [e]; exact h)
theorem run_in1 {k : Nat} {f : Addr} {sp : Sp} {Q : VK} {us : List Value} {vs : List V} {E : Value → Shared → Prop} (F : At X.prog X.w X.K X.mg X.base k f sp) (hr : Room (k + 1) X.A) (I : Inv X pins σ H s) (r : Vals vs us) (h : sp vs H Q C8.E0) : wpAny (model X.prog X.w) X.A.in1 (call (.ref f) us) (EP X pins σ Q) E s := by
  obtain ⟨fd, ps, F, kp, b⟩ := F.ex
  have hl : us.length = ps.length := by rw [← r.length]; exact F.len _ _ _ _ h
  have b' := b s us I.kIn (by rw [List.append_nil]; exact hl)
  rw [List.append_nil] at b'
  refine wpAny_call (codeAny_mono (F.run X.A.in1 X.stack s H ⟨us, []⟩ us vs Q C8.E0 hr.in1 I.env0.in1 b' r h) fun r s' hq => ?_)
  cases r with
  | error e => exact hq.elim
  | ok fl =>
    cases fl with
    | ret u => exact I.after hq
    | next => exact hq.elim
    | brk => exact hq.elim
    | cont => exact hq.elim
end
section
variable {X : Cx} {k i : Nat} {C f g p : Addr} {sp : Sp} {x m : Str} {pos apos p0 : Pos} {e o : Expr} {es : List Expr} {ta : TE} {t : TA}
/-- x op y, two instances of the class at C -/
def rOwn (C : Addr) (sp : Sp) : R2 := fun x y H Q => ∃ a b dx dy fs gs, x = .ref a ∧ y = .ref b ∧ H a = some (.ins C dx fs) ∧ H b = some (.ins C dy gs) ∧ sp [.ref a, .ref b] H Q C8.E0
theorem op_own {op : Operator} (F : At X.prog X.w X.K X.mg X.base k f sp) (hr : Room k X.A) (hc : PySem.W.selfFirst X.K C = true) (me : Meth X.K C (PySem.dunder op.info.2) f) : OpR X (binaryOp op) (rOwn C sp) := by
  intro pins s σ H x y v u Q I rx ry h
  obtain ⟨a, b, dx, dy, fs, gs, rfl, rfl, ha, hb, q⟩ := h
  cases rx
  cases ry
  obtain ⟨od, J⟩ := ins_inst I ha
  obtain ⟨od2, J2⟩ := ins_inst I hb
  obtain ⟨mf, F0⟩ := I.fr
  exact PySem.W.binop_K F0 I.ok.mod.kin J J2.type hc me.at_ me.fn (thn (run_at (us := [.ref a, .ref b]) (vs := [.ref a, .ref b]) F hr I (.cons rfl (.cons rfl .nil)) q) fun v s' h' => back_of h')
def rOwn1 (C : Addr) (sp : Sp) : V → Hp → VK → Prop := fun x H Q => ∃ a dx fs, x = .ref a ∧ H a = some (.ins C dx fs) ∧ sp [.ref a] H Q C8.E0
theorem un_own (F : At X.prog X.w X.K X.mg X.base k f sp) (hr : Room k X.A) (me : Meth X.K C "__invert__" f) : UnR X (unaryOp .Invert) (rOwn1 C sp) := by
  intro pins s σ H x v Q I rx h
  obtain ⟨a, dx, fs, rfl, ha, q⟩ := h
  cases rx
  obtain ⟨od, J⟩ := ins_inst I ha
  obtain ⟨mf, F0⟩ := I.fr
  exact PySem.W.ksp_inv F0 I.ok.mod.kin J me.at_ me.fn (run_at (us := [.ref a]) (vs := [.ref a]) F hr I (.cons rfl .nil) q)
/-- len(x): the def gives a number -/
def rLenOwn (C : Addr) (sp : Sp) : List V → Hp → VK → Prop := fun vs H Q => ∃ a dx fs, vs = [.ref a] ∧ H a = some (.ins C dx fs) ∧ sp [.ref a] H (fun v H' => ∃ n : Nat, v = .int n ∧ n ≤ 1000 ∧ Q (.int n) H') C8.E0
theorem call_lenOwn (F : At X.prog X.w X.K X.mg X.base k f sp) (hr : Room (k + 1) X.A) (me : Meth X.K C "__len__" f) : CallR X (.builtin "len") (rLenOwn C sp) := by
  intro pins s σ H xs us Q I r h
  obtain ⟨a, dx, fs, rfl, ha, q⟩ := h
  obtain ⟨u, rfl, ru⟩ := vals1 r
  cases ru
  obtain ⟨od, J⟩ := ins_inst I ha
  obtain ⟨mf, F0⟩ := I.fr
  refine PySem.W.len_K F0 I.ok.mod.kin J me.at_ me.fn (thn (run_in1 (us := [.ref a]) (vs := [.ref a]) F hr I (.cons rfl .nil) q) fun v s' h' => ?_)
  obtain ⟨z, H', I', rz, n, rfl, hn, q'⟩ := h'
  obtain ⟨tk, rfl⟩ := rz
  exact ⟨⟨by omega, by omega⟩, .int n, H', I'.tok _, ⟨_, rfl⟩, q'⟩
/-- a class in a slot, called -/
theorem pe_clsL (c : C8.Mak X.prog X.w X.K X.mg X.base k x C sp []) {y : Str} {j : Nat} (hr : Room j X.A) (hk : k + 1 ≤ j) (hN : X.N[i]? = some y) (hv : Vis X.env.scope y) (ha : PA X (e :: es) t)
    (hdb : (y == ("__debug__" : Str)) = false := by decide) (hcd : (y == ("__classdict__" : Str)) = false := by decide) (he : starEach (e :: es) X.env = (false, eval e X.env) :: starEach es X.env := by rfl) (hpl : (backTo pos (starEach es X.env)).any (·.1) = false := by rfl) :
    PE X (.Call (.Name y p0) (e :: es) [] pos) (fun σ H Q => σ[i]? = some (some (.ref C)) ∧ tMake C sp [] C8.E0 t σ H Q) := by
  obtain ⟨f, fd, ps, ds, M, F, hm, b, d⟩ := c.ex
  refine ⟨fun pins s σ H Q I h => ?_⟩
  obtain ⟨hs, ht⟩ := h
  refine wpAny_Call_Name_kw (thn ((pe_var (pos := p0) hN hv hdb hcd).run pins s σ H (fun v H1 => v = .ref C ∧ H1 = H) I ⟨.ref C, hs, rfl, rfl⟩) fun u s1 h1 => ?_)
  obtain ⟨v, H1, I1, r1, rfl, rfl⟩ := h1
  cases r1
  refine PySem.W.callWith_K (h₀ := X.base) I.ok.mod.kin M.kp (thn (ha.run pos pins s1 σ _ _ I1 ht) fun us s2 h2 => ?_) he hpl
  obtain ⟨vs, H2, I2, r, q⟩ := h2
  exact ⟨I2.kIn, run_make M F (hr.mono hk) b d C8.pass0 I2 r q⟩
/-- C.m is a staticmethod: its record at p, its def at g -/
structure SMet (K : PySem.W.Frag) (C : Addr) (mc : Value) (m : Str) (p g : Addr) : Prop where
  at_ : PySem.W.findCls K (.ref C) mc m = some (.get (.builtin "staticmethod.__get__") (.ref p) .none (.ref C))
  rc : ∃ rest, PySem.W.recIn K p "staticmethod" = some (.ref g :: rest)
  kp : PySem.W.keepIn K (.ref g) = true
/-- o.m(), o the class at C -/
theorem pe_sm0 {pl : Sem Bool} {mc : Value} {j : Nat} (F : At X.prog X.w X.K X.mg X.base k g sp) (hr : Room j X.A) (hk : k ≤ j) (he : PE X o ta) (r : CRead X.K C mc) (c : SMet X.K C mc m p g)
    (ht : eval (.Call (.Attribute o m apos) [] [] pos) X.env = (do
      let ov ← eval o X.env
      standAt apos.atName
      let (f, first) ← holding [ov] (getMethod ov m pl)
      callWith pos f first (backTo pos (starEach [] X.env)) (backToKw pos (keywordEach [] X.env))) := by rfl) :
    PE X (.Call (.Attribute o m apos) [] [] pos) (fun σ H Q => ta σ H fun x H1 => x = .ref C ∧ sp [] H1 Q C8.E0) := by
  refine ⟨fun pins s σ H Q I h => ?_⟩
  refine PySem.W.methodCall_KW (pl := pl) (thn (he.run pins s σ H _ I h) fun u s1 h1 => ?_) ht
  obtain ⟨x, H1, I1, rx, rfl, q⟩ := h1
  cases rx
  obtain ⟨rest, hrc⟩ := c.rc
  obtain ⟨mf, F0⟩ := I1.fr
  have hty : PySem.W.typeIn X.K (.ref C) = some mc := by
    have h := r.rd
    simp only [PySem.W.readsIn, Bool.and_eq_true, beq_iff_eq] at h
    exact h.1.1.1.2
  refine PySem.W.method_of_cls F0 I1.ok.mod.kin r.ga (PySem.W.cls_sm F0 I1.ok.mod.kin hty r.rd c.at_ hrc rfl ?_)
  exact PySem.W.callWith_K0 (first := []) (I1.tok _).kIn c.kp (run_at (us := []) (vs := []) F (hr.mono hk) (I1.tok _) .nil q)
end
end BX
end
section
set_option Elab.async false
set_option linter.all false
set_option maxRecDepth 100000
set_option maxHeartbeats 4000000
namespace BX
open PySem PySem.Spec PyProof.Rows L2 ClX StX
abbrev boxT (b : Bx) : List V := [.int b.1, .int b.2.1, .int b.2.2.1, .int b.2.2.2]
/-- Region.of(box), the class first -/
def spOf (K : PySem.W.Frag) (CR : Addr) : Sp := fun vs H Q _ => ∃ (t : Addr) (b : Bx), vs = [.ref CR, .ref t] ∧ SqT K H t (boxT b) ∧ OkB b ∧ ∀ z H', Same H H' → RegAt K CR H' z (slabsOf [b], false) → Q z H'
def spOfB (K : PySem.W.Frag) (CR : Addr) : Sp := fun vs H Q _ => ∃ (t p : Addr) (b : Bx), vs = [.ref CR, .ref p] ∧ H p = some (.tup [.ref t]) ∧ SqT K H t (boxT b) ∧ OkB b ∧ ∀ z H', Same H H' → RegAt K CR H' z (slabsOf [b], false) → Q z H'
theorem scOf : FnScope (["cls", "boxes", "box"] : List Str) (([("cls" : Str)] : List Str) ++ [("boxes" : Str)]) (defScope (mth sReg 1)) := C8.fnScope_by (by decide +kernel)
section
variable {P : Program} {w : World} {K : PySem.W.Frag} {mg : Str → Option Value} {base : Heap} {f CR : Addr} {fd : FuncData}
theorem ok_of (F : FnQ K "of" "Region.of" (mth sReg 1) f fd) (R : RegC K mg CR) (B : Bt mg) (CN : C8.Mak P w K mg base 1 "Region" CR (spRInit CR) []) (CB : C8.Cal P w K mg base 4 "check_box" (spChkB K) []) (CS : C8.Cal P w K mg base 2 "slabs_of" (spSlabs K) []) :
    FnR P w K mg base C8.CX0 5 f (spOf K CR) := by
  obtain ⟨oc, od, dV, kV, doc, pm, an, cdv, ct, osl, rfl, lk, hcd, dfl, _⟩ := F.ex
  have edV : dV = .none := by
    rcases dfl with h | h
    · exact h.2
    · exact absurd rfl h.1
  subst edV
  refine FnR.imp (fn_star (k := 4) (sp := spOfB K CR) (ps := ["cls"]) (pv := "boxes") lk hcd scOf cxUp_none (fun us rest hl => match us, rest, hl with | [_], [], _ => rfl | [_], _ :: _, _ => rfl) fun A outer s H vs Q E hr h => ?_) fun vs H Q E h => ?_
  · obtain ⟨t, p, b, rfl, hp, ht, ok, k⟩ := h
    refine ⟨_, PSs.nox (pss_cons (ps_for PassesOwn.never rfl (pi_tup (pv 1)) (pg_name (i := 2) scOf.nd rfl (Or.inl rfl)) (pss_one (ps_expr (C8.pe_c CB hr (by omega) (by rfl) (pa_cons (pv 2) pa_nil)))))
      (pss_one (ps_ret (pe_clsL (i := 0) CN hr (by omega) rfl (Or.inl rfl) (pa_cons (C8.pe_c CS hr (by omega) (by rfl) (pa_cons (pe_callTy call_list_of (by rfl) B.list (by decide +kernel) (pa_cons (pv 1) pa_nil)) pa_nil)) (pa_cons pe_bl pa_nil)))))), ?_⟩
    refine ⟨_, rfl, p, rfl, ⟨_, SqT.of hp⟩, walkF (walk_tup (xs := [V.ref t])) (fun i σ H' => ∃ x2 : Option V, σ = [some (.ref CR), some (.ref p), x2] ∧ Same H H') ⟨none, rfl, Same.refl _⟩ (fun i σ H' _ h => ?_) ?_ ?_⟩
    · obtain ⟨_, _, s1⟩ := h
      exact SqT.of (s1 _ _ hp)
    · rintro i y σ H1 H2 hi ⟨x2, rfl, s1⟩ ⟨rfl, hy⟩
      match i, hi, hy with
      | 0, _, e =>
        cases e
        exact ⟨_, rfl, t, b, rfl, sq_of_tk s1 ht, ok.ltx, ok.lty, fun H3 s3 => ⟨_, rfl, s1.trans s3⟩⟩
    · rintro σ H1 ⟨x2, rfl, s1⟩
      refine ⟨rfl, _, rfl, p, _, rfl, .inr (SqT.of (s1 _ _ hp)), fun l hl => ?_⟩
      have s2 : Same H (upd H1 l (.lst [V.ref t])) := s1.trans (Same.upd1 hl)
      refine ⟨l, [V.ref t], [b], rfl, SqL.of upd_same, .cons (.tup (sq_of_tk s2 ht) (.cons (.int _) (.cons (.int _) (.cons (.int _) (.cons (.int _) .nil))))) .nil, by show 1 ≤ 31; decide, fun r H3 s3 hr3 => ?_⟩
      exact mk_reg (r := (slabsOf [b], false)) hr3 (OkF.slabsOf ok) fun z H4 s4 hz => k z H4 (s2.trans (s3.trans s4)) hz
  · obtain ⟨t, b, rfl, ht, ok, k⟩ := h
    exact ⟨[.ref CR], [.ref t], rfl, rfl, by show 1 ≤ sizeLine; decide, fun p hp => ⟨t, p, b, rfl, upd_same, sq_of_tk (Same.upd1 hp) ht, ok, fun z H' s hz => k z H' ((Same.upd1 hp).trans s) hz⟩⟩
end
end BX
end
section
set_option Elab.async false
set_option linter.all false
set_option maxRecDepth 100000
set_option maxHeartbeats 4000000
namespace BX
open PySem PySem.Spec PyProof.Rows L2
/-! ### rooms as plain things -/
structure Ent where
  user : Str
  word : Str
  name : Str
  before : Option Rgn
structure Rm where
  kept : List (Str × Rgn)
  log : List Ent
def getM (l : List (Str × Rgn)) (n : Str) : Option Rgn := (l.find? fun e => decide (e.1 = n)).map (·.2)
def setM (l : List (Str × Rgn)) (n : Str) (o : Option Rgn) : List (Str × Rgn) := (l.filter fun e => !decide (e.1 = n)) ++ (match o with | some r => [(n, r)] | none => [])
def replaceM (st : Rm) (u w n : Str) (o : Option Rgn) : Rm := ⟨setM st.kept n o, st.log ++ [⟨u, w, n, getM st.kept n⟩]⟩
/-! ### heaps -/
/-- regions stay -/
structure Kr (CR : Addr) (H H' : Hp) : Prop where
  tk : TK H H'
  rg : ∀ x dx fs, H x = some (.ins CR dx fs) → H' x = some (.ins CR dx fs)
theorem Kr.of {CR : Addr} {H H' : Hp} (s : Same H H') : Kr CR H H' := ⟨TK.of s, fun _ _ _ h => s _ _ h⟩
theorem Kr.trans {CR : Addr} {H H1 H2 : Hp} (a : Kr CR H H1) (b : Kr CR H1 H2) : Kr CR H H2 := ⟨a.tk.trans b.tk, fun x dx fs h => b.rg _ _ _ (a.rg _ _ _ h)⟩
/-- all but p stays -/
def Kp (p : Addr) (H H' : Hp) : Prop := ∀ b o, b ≠ p → H b = some o → H' b = some o
theorem Kp.of {p : Addr} {H H' : Hp} (s : Same H H') : Kp p H H' := fun b o _ h => s b o h
theorem Kp.refl (p : Addr) (H : Hp) : Kp p H H := fun _ _ _ h => h
theorem Kp.trans {p : Addr} {H H1 H2 : Hp} (a : Kp p H H1) (b : Kp p H1 H2) : Kp p H H2 := fun c o n h => b c o n (a c o n h)
theorem Kp.upd {p : Addr} {H H1 : Hp} {o : HO} (a : Kp p H H1) : Kp p H (upd H1 p o) := fun b u n h => by rw [upd_ne n]; exact a b u n h
theorem Kp.kr {p C CR dx : Addr} {fs : List (Str × V)} {H H' : Hp} (k : Kp p H H') (hp : H p = some (.ins C dx fs)) (ne : C ≠ CR) : Kr CR H H' :=
  ⟨⟨fun b xs h => k b _ (ne_of h hp (by intro q; cases q)) h, fun b o xs h => k b _ (ne_of h hp (by intro q; cases q)) h⟩, fun x dx fs h => k x _ (ne_of h hp (by intro q; cases q; exact ne rfl)) h⟩
theorem Kr.lock {CR d : Addr} {H : Hp} {kvs : List (Key × V)} {o : HO} (h : H d = some (.dK kvs)) : Kr CR H (upd H d o) :=
  ⟨⟨fun b xs e => by rw [upd_ne (ne_of e h (by intro q; cases q))]; exact e, fun b u xs e => by rw [upd_ne (ne_of e h (by intro q; cases q))]; exact e⟩, fun x dx fs e => by rw [upd_ne (ne_of e h (by intro q; cases q))]; exact e⟩
theorem Kr.unlock {CR d : Addr} {H : Hp} {ob : Obj} {kvs : List (Key × V)} {o : HO} (h : H d = some (.frz ob (.dK kvs))) : Kr CR H (upd H d o) :=
  ⟨⟨fun b xs e => by rw [upd_ne (ne_of e h (by intro q; cases q))]; exact e, fun b u xs e => by rw [upd_ne (ne_of e h (by intro q; cases q))]; exact e⟩, fun x dx fs e => by rw [upd_ne (ne_of e h (by intro q; cases q))]; exact e⟩
/-- locked, run, unlocked -/
theorem lock_same {d : Addr} {H H' : Hp} {u o : HO} (h : H d = some u) (s : Same (upd H d o) H') : Same H (upd H' d u) := fun b v e => by
  by_cases hb : b = d
  · rw [hb, upd_same, ← h, ← hb]; exact e
  · rw [upd_ne hb]
    exact s b v (by rw [upd_ne hb]; exact e)
section
variable {K : PySem.W.Frag} {CR : Addr} {H H' : Hp}
theorem RegAt.kr {v : V} {r : Rgn} (s : Kr CR H H') (h : RegAt K CR H v r) : RegAt K CR H' v r := by
  obtain ⟨x, dx, fv, e, h1, h2, h3⟩ := h
  exact ⟨x, dx, fv, e, s.rg _ _ _ h1, form_tk s.tk h2, h3⟩
def OptAt (K : PySem.W.Frag) (CR : Addr) (H : Hp) (v : V) : Option Rgn → Prop
  | none => v = .non
  | some r => RegAt K CR H v r
theorem OptAt.kr {v : V} {o : Option Rgn} (s : Kr CR H H') (h : OptAt K CR H v o) : OptAt K CR H' v o := by
  cases o with
  | none => exact h
  | some r => exact RegAt.kr s h
def KeptAt (K : PySem.W.Frag) (CR : Addr) (H : Hp) (kvs : List (Key × V)) (kept : List (Str × Rgn)) : Prop := Paired (fun (kv : Key × V) (e : Str × Rgn) => kv.1 = .inr e.1 ∧ RegAt K CR H kv.2 e.2) kvs kept
theorem KeptAt.kr {kvs : List (Key × V)} {kept : List (Str × Rgn)} (s : Kr CR H H') (h : KeptAt K CR H kvs kept) : KeptAt K CR H' kvs kept := Paired.mapP h fun _ _ q => ⟨q.1, q.2.kr s⟩
def LogAt (K : PySem.W.Frag) (CR : Addr) (H : Hp) (xs : List V) (log : List Ent) : Prop := Paired (fun x (e : Ent) => ∃ t v, x = V.ref t ∧ H t = some (.tup [.str e.user, .str e.word, .str e.name, v]) ∧ OptAt K CR H v e.before) xs log
theorem LogAt.kr {xs : List V} {log : List Ent} (s : Kr CR H H') (h : LogAt K CR H xs log) : LogAt K CR H' xs log := Paired.mapP h fun _ _ ⟨t, v, e, h1, h2⟩ => ⟨t, v, e, s.tk.tup _ _ h1, h2.kr s⟩
end
def roomF (d l : Addr) (fx : List (Str × V)) : List (Str × V) := ("kept", .ref d) :: ("calls", .ref l) :: fx
/-- what a room has besides -/
def FxOk (fx : List (Str × V)) : Prop := fx = [] ∨ ∃ v, fx = [(("own_frame" : Str), v)]
theorem FxOk.look {fx : List (Str × V)} {d l : Addr} (h : FxOk fx) {m : Str} (h1 : (m == ("kept" : Str)) = false) (h2 : (m == ("calls" : Str)) = false) (h3 : (m == ("own_frame" : Str)) = false) : (roomF d l fx).lookup m = none := by
  unfold roomF
  rw [List.lookup_cons, h1, List.lookup_cons, h2]
  rcases h with rfl | ⟨v, rfl⟩
  · rfl
  · rw [List.lookup_cons, h3]; rfl
theorem FxOk.len {fx : List (Str × V)} {d l : Addr} (h : FxOk fx) : (roomF d l fx).length < 1000 := by
  rcases h with rfl | ⟨v, rfl⟩
  · show 2 < 1000; decide
  · show 3 < 1000; decide
/-- the room at p, of the class at C -/
structure RoomAt (K : PySem.W.Frag) (CR C : Addr) (fx : List (Str × V)) (H : Hp) (p dx d l : Addr) (st : Rm) : Prop where
  obj : H p = some (.ins C dx (roomF d l fx))
  fxo : FxOk fx
  ex : (∃ kvs, H d = some (.dK kvs) ∧ KeptAt K CR H kvs st.kept) ∧ ∃ xs, H l = some (.lst xs) ∧ LogAt K CR H xs st.log
theorem RoomAt.kp {K : PySem.W.Frag} {CR C C' q dq : Addr} {gs fx : List (Str × V)} {H H' : Hp} {p dx d l : Addr} {st : Rm} (r : RoomAt K CR C fx H p dx d l st) (k : Kp q H H') (hq : H q = some (.ins C' dq gs)) (ne : C' ≠ CR) (hpq : p ≠ q) : RoomAt K CR C fx H' p dx d l st := by
  obtain ⟨⟨kvs, hd, hk⟩, xs, hl, hlog⟩ := r.ex
  exact ⟨k p _ hpq r.obj, r.fxo, ⟨kvs, k d _ (ne_of hd hq (by intro z; cases z)) hd, hk.kr (k.kr hq ne)⟩, xs, k l _ (ne_of hl hq (by intro z; cases z)) hl, hlog.kr (k.kr hq ne)⟩
theorem RoomAt.same {K : PySem.W.Frag} {CR C : Addr} {fx : List (Str × V)} {H H' : Hp} {p dx d l : Addr} {st : Rm} (r : RoomAt K CR C fx H p dx d l st) (k : Same H H') : RoomAt K CR C fx H' p dx d l st := by
  obtain ⟨⟨kvs, hd, hk⟩, xs, hl, hlog⟩ := r.ex
  exact ⟨k _ _ r.obj, r.fxo, ⟨kvs, k _ _ hd, hk.kr (Kr.of k)⟩, xs, k _ _ hl, hlog.kr (Kr.of k)⟩
structure RmC (K : PySem.W.Frag) (C : Addr) : Prop where
  i : ClsI K C
  nk : NoAttr K C "kept"
  nc : NoAttr K C "calls"
/-- keys are looked up -/
theorem kept_get {K : PySem.W.Frag} {CR : Addr} {H : Hp} {n : Str} : ∀ {kvs : List (Key × V)} {kept : List (Str × Rgn)}, KeptAt K CR H kvs kept → (getM kept n = none ∧ valV kvs (.inr n) = none) ∨ ∃ r v, getM kept n = some r ∧ valV kvs (.inr n) = some v ∧ RegAt K CR H v r
  | _, _, .nil => .inl ⟨rfl, rfl⟩
  | (k, v) :: kvs, (m, r) :: kept, .cons ⟨e, h⟩ rest => by
    have e : k = .inr m := e
    subst e
    by_cases hm : m = n
    · subst hm
      refine .inr ⟨r, v, ?_, valV_pos rfl, h⟩
      unfold getM
      rw [List.find?_cons_of_pos (by simp)]
      rfl
    · have ih := kept_get (n := n) rest
      have e1 : getM ((m, r) :: kept) n = getM kept n := by
        unfold getM
        rw [List.find?_cons_of_neg (by simpa using hm)]
      have e2 : valV (((.inr m : Key), v) :: kvs) (.inr n) = valV kvs (.inr n) := valV_neg (fun z => hm (Sum.inr.inj z))
      rw [e1, e2]
      exact ih
theorem kept_len {K : PySem.W.Frag} {CR : Addr} {H : Hp} {kvs : List (Key × V)} {kept : List (Str × Rgn)} (h : KeptAt K CR H kvs kept) : kvs.length = kept.length := Paired.length h
/-! ### words -/
def lets : Str := "abcdefghijklmnopqrstuvwxyz"
def inL (c : Nat) : Bool := !(Builtin.Str.occurrences lets ⟨#[c]⟩ 0 lets.length 1).isEmpty
def okW (x : Str) : Bool := decide (1 ≤ x.length) && decide (x.length ≤ 8) && x.cps.toList.all inL
structure WdC (mg : Str → Option Value) : Prop where
  most : ∃ t, mg "MOST_LETTERS" = some (.int 8 t)
  lets : ∃ t, mg "LETTERS" = some (.str lets t)
def spWord : Sp := fun vs H Q _ => ∃ x : Str, vs = [.str x] ∧ okW x = true ∧ ∀ H', Same H H' → Q (.bl true) H'
def spChkW : Sp := fun vs H Q _ => ∃ x : Str, vs = [.str x] ∧ okW x = true ∧ ∀ H', Same H H' → Q .non H'
theorem scWord : FnScope ["thing", "sign"] ["thing"] (defScope (topS 45)) := C8.fnScope_by (by decide +kernel)
theorem scChkW : FnScope ["thing"] ["thing"] (defScope (topS 46)) := C8.fnScope_by (by decide +kernel)
section
variable {P : Program} {w : World} {K : PySem.W.Frag} {mg : Str → Option Value} {base : Heap} {f CR : Addr} {fd : FuncData}
theorem ok_word (F : FnQ K "is_word" "is_word" (topS 45) f fd) (B : Bt mg) (W : WdC mg) : At P w K mg base 1 f spWord := by
  refine atP F scWord (fun _ _ _ _ _ _ us hl => match us, hl with | [_], _ => rfl) (fun vs H Q E h => ?_) (fun cdv A outer s H vs Q E hr h => ?_)
  · obtain ⟨x, rfl, _⟩ := h
    rfl
  · obtain ⟨x, rfl, hx, k⟩ := h
    obtain ⟨t1, g1⟩ := W.most
    obtain ⟨t2, g2⟩ := W.lets
    unfold okW at hx
    simp only [Bool.and_eq_true, decide_eq_true_eq] at hx
    obtain ⟨⟨h1, h2⟩, h3⟩ := hx
    refine ⟨_, pss_cons (ps_if (PW.pt (pw_or (pt_not (pt_val (pe_callB call_isi (by rfl) B.isinstance (by decide +kernel) (pa_cons (pv 0) (pa_cons (pe_bltn (v := .ty "str") (by rfl) B.str (by decide +kernel) rfl) pa_nil)))))
        (pw_or1 (pt_not (pt_chain op_le op_le pe_int (pe_callB call_len (by rfl) B.len (by decide +kernel) (pa_cons (pv 0) pa_nil)) (pe_glob (v := .int 8) (by rfl) g1 ⟨t1, rfl⟩)))))) pss_never pss_nil)
      (pss_one (ps_ret (pe_callB (cr_all rfl) (by rfl) B.all (by decide +kernel) (pa_cons (pe_lc (own := [("sign", 1)]) rfl scWord.nd (pi_str (pv 0)) (blkOk_by (by kernel_rfl)) (fun _ _ _ _ _ => pg_name (i := 1) scWord.nd rfl (Or.inl rfl) (.inr rfl)) (fun _ _ _ _ _ => pts_nil)
          (fun _ _ _ _ _ => pe_cmpR op_in_str (pv 1) (pe_glob (v := .str lets) (by rfl) g2 ⟨t2, rfl⟩) (by with_unfolding_all rfl))) pa_nil)))), ?_⟩
    refine ⟨_, rfl, .str x, .ty "str", _, _, true, rfl, .ty _, .base (.str x), kit_ty (by decide +kernel), _, rfl, iteF ?_⟩
    refine ⟨_, rfl, .str x, x.length, rfl, ⟨Nat.le_trans h2 (by decide), rfl⟩, _, _, rfl, rfl, _, rfl, ?_⟩
    rw [decide_eq_true (show (1 : Int) ≤ (x.length : Nat) by omega)]
    refine iteT ⟨_, _, rfl, rfl, _, rfl, ?_⟩
    rw [decide_eq_true (show ((x.length : Nat) : Int) ≤ 8 by omega)]
    refine iteF ?_
    have lx : x.cps.size = x.length := rfl
    refine ⟨_, rfl, x, rfl, fun D hD => walkW (walk_str (z := x)) (fun i H' => Same H H' ∧ H' D = some (.lst (List.replicate i (V.bl true)))) ⟨Same.upd1 hD, upd_same⟩ (fun _ _ _ _ => trivial) ?_ ?_⟩
    · rintro i y H1 H2 hi ⟨s1, e1⟩ ⟨rfl, c, hc, rfl⟩
      have hcL : inL c = true := by
        refine List.all_eq_true.mp h3 c ?_
        have : x.cps.toList[i]? = some c := by rw [Array.getElem?_toList]; exact hc
        exact List.mem_of_getElem? this
      refine ⟨by kernel_rfl, _, rfl, _, _, rfl, rfl, _, e1, ?_, Same.updN s1 hD, ?_⟩
      · rw [List.length_replicate]
        exact Nat.lt_of_le_of_lt (by omega : i ≤ 1000) (by decide)
      · rw [upd_same, List.replicate_succ']
        have e : (!(Builtin.Str.occurrences lets ⟨#[c]⟩ 0 lets.length 1).isEmpty) = true := hcL
        rw [e]
    · rintro H1 ⟨s1, e1⟩
      refine ⟨D, List.replicate x.length true, rfl, SqL.of (by rw [e1, lx, List.map_replicate]), ?_⟩
      have e2 : (List.replicate x.length true).all id = true := by simp
      rw [e2]
      exact k H1 s1
theorem ok_chkW (F : FnQ K "check_word" "check_word" (topS 46) f fd) (CW : C8.Cal P w K mg base 1 "is_word" spWord []) : At P w K mg base 2 f spChkW := by
  refine atP F scChkW (fun _ _ _ _ _ _ us hl => match us, hl with | [_], _ => rfl) (fun vs H Q E h => ?_) (fun cdv A outer s H vs Q E hr h => ?_)
  · obtain ⟨t, rfl, _⟩ := h
    rfl
  · obtain ⟨x, rfl, hx, k⟩ := h
    refine ⟨_, pss_one (ps_if (pt_not (pt_val (C8.pe_c CW hr (by omega) (by rfl) (pa_cons (pv 0) pa_nil)))) pss_never pss_nil), ?_⟩
    exact ⟨_, rfl, x, rfl, hx, fun H' s' => ⟨_, rfl, iteF (k H' s')⟩⟩
end
end BX
end
section
set_option Elab.async false
set_option linter.all false
set_option maxRecDepth 100000
set_option maxHeartbeats 4000000
namespace BX
open PySem PySem.Spec PyProof.Rows L2
abbrev sRoom : Stmt := topS 48
/-! ### lookups in lists without twins -/
theorem getM_none {l : List (Str × Rgn)} {n : Str} (h : n ∉ l.map (·.1)) : getM l n = none := by
  unfold getM
  rw [List.find?_eq_none.mpr fun e he z => h (List.mem_map.mpr ⟨e, he, of_decide_eq_true z⟩)]
  rfl
theorem getM_at : ∀ {l : List (Str × Rgn)} {i : Nat} {n : Str} {r : Rgn}, (l.map (·.1)).Nodup → l[i]? = some (n, r) → getM l n = some r
  | [], i, n, r, _, e => by simp at e
  | (m, q) :: l, 0, n, r, _, e => by
    simp at e
    obtain ⟨rfl, rfl⟩ := e
    unfold getM
    rw [List.find?_cons_of_pos (by simp)]
    rfl
  | (m, q) :: l, i + 1, n, r, nd, e => by
    have e' : l[i]? = some (n, r) := by simpa using e
    rw [List.map_cons, List.nodup_cons] at nd
    have ne : m ≠ n := fun z => nd.1 (List.mem_map.mpr ⟨(n, r), List.mem_of_getElem? e', z.symm⟩)
    have := getM_at nd.2 e'
    unfold getM at this ⊢
    rw [List.find?_cons_of_neg (by simpa using ne)]
    exact this
theorem not_take {l : List (Str × Rgn)} {i : Nat} {n : Str} {r : Rgn} (nd : (l.map (·.1)).Nodup) (e : l[i]? = some (n, r)) (f : Str × Rgn → Bool) : n ∉ ((l.take i).filter f).map (·.1) := by
  intro h
  obtain ⟨q, hq, e1⟩ := List.mem_map.mp h
  have hq := (List.mem_filter.mp hq).1
  obtain ⟨j, hj, e2⟩ := List.mem_iff_getElem.mp hq
  rw [List.length_take] at hj
  rw [List.getElem_take] at e2
  have hi := (List.getElem?_eq_some_iff.mp e).1
  have a1 : (l.map (·.1))[j]? = some n := by rw [List.getElem?_map, List.getElem?_eq_getElem (by omega), e2, Option.map_some, e1]
  have a2 : (l.map (·.1))[i]? = some n := by rw [List.getElem?_map, e]; rfl
  have hj' : j < (l.map (·.1)).length := by rw [List.length_map]; omega
  have hi' : i < (l.map (·.1)).length := by rw [List.length_map]; omega
  have := (List.getElem?_inj hj' nd).mp (a1.trans a2.symm)
  omega
section
variable {X : Cx}
/-- name = {k: v for ..} on one line, the name a local -/
theorem ps_setDc {i : Nat} {y : Str} {py : Pos} {kx vx tg iter : Expr} {ifs : List Expr} {scope : Scope} {own : List (Str × Nat)} {pos spos : Pos} {wi : TI} {g : TG} {tt : TT} {tk tv : TE} (hc : X.calm = true) (hN : X.N.Nodup) (hy : X.N[i]? = some y) (hyl : X.env.scope.names.lookup y = some .local)
    (hsw : swapsWith (.DictComp kx vx [⟨tg, iter, ifs, 0⟩] scope pos) (some (.Name y py)) spos.line X.env = pure true) (hi : PI X tg iter wi) (ok : BlkOk X.N X.env.scope scope own)
    (hg : ∀ (s : Shared) (H : Hp) (C : Addr) (cl : List (Str × Addr)) (fp : List Addr), PG (X.blk s H scope (compEnvC scope cl C X.env) fp) tg g) (ht : ∀ (s : Shared) (H : Hp) (C : Addr) (cl : List (Str × Addr)) (fp : List Addr), PTs (X.blk s H scope (compEnvC scope cl C X.env) fp) ifs tt)
    (hk : ∀ (s : Shared) (H : Hp) (C : Addr) (cl : List (Str × Addr)) (fp : List Addr), PE (X.blk s H scope (compEnvC scope cl C X.env) fp) kx tk)
    (he : ∀ (s : Shared) (H : Hp) (C : Addr) (cl : List (Str × Addr)) (fp : List Addr), PE (X.blk s H scope (compEnvC scope cl C X.env) fp) vx tv) (hs : ∀ x, foldedSetIterable iter X.env x = pure x := by intro _; rfl) :
    PS X (.Assign [.Name y py] (.DictComp kx vx [⟨tg, iter, ifs, 0⟩] scope pos) spos) (tAsg (tDc wi g tt tk tv (own.map (·.2))) (gName i)) := by
  refine ⟨fun pins s σ H D I h => ?_⟩
  rw [exec_Assign_Name_used _ _ _ _ hsw]
  refine wpAny_bind (wpAny_standAt (wpAny_bind ?_))
  show wpAny _ X.A (do let _ ← comprehension (.DictComp kx vx [⟨tg, iter, ifs, 0⟩] scope pos) scope X.env (firstIterPos [⟨tg, iter, ifs, 0⟩] pos) newDict false (eval iter X.env) (some (assign (.Name y py) X.env))) _ _ s
  have h : tDc wi g tt tk tv (own.map (·.2)) σ H (fun x H1 => gName i x σ H1 D.nx) := h
  refine wpAny_bind (thn (dc_core (Qf := fun _ s' => SP X pins D .next s') hc hN I hi ok hg ht hk he hs h fun L C s' m H' I' q hn f => ?_) fun _ s' hq => wpAny_pure (wpAny_pure hq))
  show wpAny _ _ (assign (.Name y py) X.env (.ref L)) _ _ _
  refine wpAny_assign_Name (store_ok2 (v := V.ref L) I' hN hy (.inl hyl) rfl (fun s2 I2 ⟨a, sb, ha⟩ => ?_) (.inr hyl))
  obtain ⟨f0, f1, f2, f3, f4, f5⟩ := f
  have haC : C ≠ a := by
    rcases ha with z | z
    · rw [z]; exact f1
    · exact fun e => f4 y a z e.symm
  refine ⟨m, hn.sameBut sb haC, fun h3 sb3 => ?_⟩
  exact ⟨_, H', I2.turned (t' := s2.toks) (fun b o hb e => (sb3.2 b hb).trans e) f0 f1 f3 f4 f5, q⟩
theorem sw_dict {kx vx : Expr} {gs : List Comprehension} {scope : Scope} {pos py : Pos} {y : Str} {l : Nat} {env : Env} (hk : env.scope.kind = .function) (hy : env.scope.names.lookup y = some .local) (hl : (py.line == pos.line) = true)
    (ha : (scope.names.any fun (n, k) => n == y && (k == .local || k == .cell)) = false) : swapsWith (.DictComp kx vx gs scope pos) (some (.Name y py)) l env = pure true := by
  have ky : env.kindOf y = some .local := hy
  have hb : env.blockKind = .function := by unfold Env.blockKind; rw [hk]; rfl
  unfold swapsWith
  simp only [hb, ky, ha, Expr.pos, hl]
  rfl
end
/-! ### Room.__init__ -/
def spRmInit (K : PySem.W.Frag) (CR C : Addr) : Sp := fun vs H Q _ => ∃ p dx : Addr, vs = [.ref p] ∧ H p = some (.ins C dx []) ∧ ∀ d l H', Kp p H H' → RoomAt K CR C [] H' p dx d l ⟨[], []⟩ → Q .non H'
theorem scRmInit : FnScope ["self"] ["self"] (defScope (mth sRoom 1)) := C8.fnScope_by (by decide +kernel)
/-! ### replace -/
def spRep (K : PySem.W.Frag) (CR C : Addr) : Sp := fun vs H Q _ => ∃ (p dx d l : Addr) (fx : List (Str × V)) (st : Rm) (u wd n : Str) (v : V) (o : Option Rgn), vs = [.ref p, .str u, .str wd, .str n, v] ∧ RoomAt K CR C fx H p dx d l st ∧ OptAt K CR H v o ∧
  (st.kept.map (·.1)).Nodup ∧ st.kept.length ≤ 20 ∧ st.log.length ≤ 500 ∧ ∀ d' l' H', Kp p H H' → H l' = none → RoomAt K CR C fx H' p dx d' l' (replaceM st u wd n o) → Q .non H'
abbrev nRep : List Str := ["self", "user", "word", "name", "region", "later", "other"]
theorem scRep : FnScope nRep ["self", "user", "word", "name", "region"] (defScope (mth sRoom 5)) := C8.fnScope_by (by decide +kernel)
section
variable {P : Program} {w : World} {K : PySem.W.Frag} {mg : Str → Option Value} {base : Heap} {f CR C : Addr} {fd : FuncData}
theorem ok_rmInit (F : FnQ K "__init__" "Room.__init__" (mth sRoom 1) f fd) (R : RmC K C) : At P w K mg base 1 f (spRmInit K CR C) := by
  refine atP F scRmInit (fun _ _ _ _ _ _ us hl => match us, hl with | [_], _ => rfl) (fun vs H Q E h => ?_) (fun cdv A outer s H vs Q E hr h => ?_)
  · obtain ⟨p, dx, rfl, _⟩ := h
    rfl
  · obtain ⟨p, dx, rfl, hp, k⟩ := h
    refine ⟨_, pss_cons (ps_fld (pv 0) pe_dnewK rfl) (pss_one (ps_fld (pv 0) (pe_lst pa_nil) rfl)), ?_⟩
    intro d hd
    have hpd : p ≠ d := fun e => by subst e; rw [hp] at hd; cases hd
    refine ⟨_, rfl, p, C, dx, [], rfl, by rw [upd_ne hpd]; exact hp, R.i.cl, R.nk, by decide, ?_⟩
    refine ⟨Nat.zero_le _, fun l hl => ?_⟩
    have hpl : p ≠ l := fun e => by subst e; rw [upd_same] at hl; cases hl
    have hdl : d ≠ l := fun e => by subst e; rw [upd_ne hpd.symm, upd_same] at hl; cases hl
    refine ⟨_, rfl, p, C, dx, _, rfl, by rw [upd_ne hpl, upd_same], R.i.cl, R.nc, by show 1 < 1000; decide, ?_⟩
    refine k d l _ ?_ ⟨upd_same, .inl rfl, ⟨[], by rw [upd_ne hpd.symm, upd_ne hdl, upd_ne hpd.symm, upd_same], .nil⟩, [], by rw [upd_ne hpl.symm, upd_same], .nil⟩
    intro b o hb e
    have e1 : upd H d (.dK []) b = some o := by rw [upd_ne (ne_of_none e hd)]; exact e
    have e2 : upd (upd H d (.dK [])) p (.ins C dx (putF "kept" (.ref d) [])) b = some o := by rw [upd_ne hb]; exact e1
    rw [upd_ne hb, upd_ne (ne_of_none e2 hl)]
    exact e2
theorem ok_rep (F : FnQ K "replace" "Room.replace" (mth sRoom 5) f fd) (R : RmC K C) (ne : C ≠ CR) : At P w K mg base 1 f (spRep K CR C) := by
  refine atP F scRep (fun _ _ _ _ _ _ us hl => match us, hl with | [_, _, _, _, _], _ => rfl) (fun vs H Q E h => ?_) (fun cdv A outer s H vs Q E hr h => ?_)
  · obtain ⟨p, dx, d, l, fx, st, u, wd, n, v, o, rfl, _⟩ := h
    rfl
  · obtain ⟨p, dx, d, l, fx, st, u, wd, n, v, o, rfl, hR, hv, nd, lk, ll, k⟩ := h
    have hu : _ + 1 < cLine := Nat.lt_of_le_of_lt (Nat.add_le_add_left (by decide : 1 ≤ 64) _) hr.units
    refine ⟨_, pss_cons (ps_lock (ps_setDc (i := 5) (own := [("other", 6)]) rfl scRep.nd rfl rfl (sw_dict rfl rfl rfl rfl) (pi_keys (pe_fld (pv 0) rfl)) (blkOk_by (by kernel_rfl))
          (fun _ _ _ _ _ => pg_name (i := 6) scRep.nd rfl (Or.inl rfl) (.inr rfl)) (fun _ _ _ _ _ => pts_one (pt_cmpR op_ne (pv 6) (pv 3) (nomark _))) (fun _ _ _ _ _ => pv 6) (tv := tDGet (tFld K (tVar 0) "kept") (tVar 6)) (fun _ _ _ _ _ => pe_dget hu (pe_fld (pv 0) rfl) (pv 6) (fun _ _ => rfl))))
      (pss_cons (ps_if (pt_cmp (pc_notN (pv 4))) (pss_one (ps_dput hu (pv 5) (pv 3) (pv 4) rfl)) pss_nil)
      (pss_cons (ps_fld (pv 0) (pe_op op_cat (pe_fld (pv 0) rfl) (pe_lst (pa_cons (pe_tup (pa_cons (pv 1) (pa_cons (pv 2) (pa_cons (pv 3) (pa_cons (pe_dget1 hu (pe_fld (pv 0) rfl) (pv 3) ⟨rfl, rfl, rfl, rfl⟩) pa_nil))))) pa_nil))) rfl)
      (pss_one (ps_fld (pv 0) (pv 5) rfl)))), ?_⟩
    obtain ⟨⟨kvs, hd, hk⟩, xs, hl, hlog⟩ := hR.ex
    have hpd : p ≠ d := ne_of hR.obj hd (by intro z; cases z)
    have hpl : p ≠ l := ne_of hR.obj hl (by intro z; cases z)
    have hdl : d ≠ l := ne_of hd hl (by intro z; cases z)
    have lkv := kept_len hk
    refine ⟨d, .dK kvs, hd, trivial, fun od => ?_⟩
    generalize hHl : upd H d (.frz od (.dK kvs)) = Hl
    have pl : Hl p = some (.ins C dx (roomF d l fx)) := by rw [← hHl, upd_ne hpd]; exact hR.obj
    have dl : Hl d = some (.frz od (.dK kvs)) := by rw [← hHl, upd_same]
    have krl : Kr CR H Hl := by rw [← hHl]; exact Kr.lock hd
    refine ⟨_, rfl, p, C, dx, _, _, rfl, pl, R.i.cl, R.nk, rfl, d, od, rfl, .inl ⟨kvs, dl, fun D hD => ?_⟩⟩
    let fl : Str × Rgn → Bool := fun e => !decide (e.1 = n)
    refine walkW (walk_keys (d := d) (o := od) (kvs := kvs)) (fun i H' => Same Hl H' ∧ ∃ ls, H' D = some (.dK ls) ∧ KeptAt K CR H' ls ((st.kept.take i).filter fl)) ⟨Same.upd1 hD, [], upd_same, .nil⟩ (fun i H' _ q => q.1 _ _ dl) ?_ ?_
    · rintro i y H1 H2 hi ⟨s1, ls, e1, hls⟩ ⟨rfl, kk, vv, hkv, rfl⟩
      have hi' : i < st.kept.length := by omega
      obtain ⟨⟨m, r⟩, hm⟩ : ∃ e, st.kept[i]? = some e := ⟨_, List.getElem?_eq_getElem hi'⟩
      have hkm : kk = .inr m := by
        have : ∀ {kvs : List (Key × V)} {kept : List (Str × Rgn)} {i : Nat}, KeptAt K CR H kvs kept → kvs[i]? = some (kk, vv) → kept[i]? = some (m, r) → kk = .inr m := by
          intro kvs kept i h
          induction h generalizing i with
          | nil => intro e; simp at e
          | cons q rest ih =>
            intro e1 e2
            cases i with
            | zero =>
              simp at e1 e2
              subst e1 e2
              exact q.1
            | succ j => exact ih (by simpa using e1) (by simpa using e2)
        exact this hk hkv hm
      subst hkm
      refine ⟨by kernel_rfl, ?_⟩
      refine ⟨_, rfl, _, rfl, rfl, _, rfl, ?_⟩
      have edec : decide (kV (.inr m) = V.str n) = decide (m = n) := by
        rw [Bool.eq_iff_iff, decide_eq_true_iff, decide_eq_true_iff]
        exact ⟨fun z => by cases z; rfl, fun z => by subst z; rfl⟩
      rw [edec]
      by_cases hmn : m = n
      · rw [decide_eq_true hmn]
        refine iteF ⟨s1, ls, e1, ?_⟩
        rw [filter_take hm, show fl (m, r) = false from by show (!decide (m = n)) = false; rw [decide_eq_true hmn]; rfl, if_neg (by decide), List.append_nil]
        exact hls
      · rw [decide_eq_false hmn]
        refine iteT ?_
        rcases kept_get (n := m) hk with ⟨g0, _⟩ | ⟨r', v', g1, g2, g3⟩
        · rw [getM_at nd hm] at g0; cases g0
        · have er : r = r' := by rw [getM_at nd hm] at g1; exact Option.some.inj g1
          subst er
          refine ⟨_, rfl, _, rfl, p, C, dx, _, _, rfl, s1 _ _ pl, R.i.cl, R.nk, rfl, _, rfl, d, v', rfl, .inl ⟨kvs, .inr m, .inr ⟨od, s1 _ _ dl⟩, rfl, g2.symm⟩, ?_⟩
          have nw : valV ls (.inr m) = none := by
            rcases kept_get (n := m) hls with ⟨_, z⟩ | ⟨_, _, z, _⟩
            · exact z
            · rw [getM_none (not_take nd hm fl)] at z; cases z
          have lls : ls.length ≤ 20 := by
            rw [kept_len hls]
            exact Nat.le_trans (filter_len _ _ _) lk
          refine ⟨ls, .inr m, rfl, e1, Nat.lt_of_le_of_lt lls (by decide), Same.updN s1 hD, ls ++ [(.inr m, v')], by rw [upd_same, putK_new _ nw], ?_⟩
          rw [filter_take hm, show fl (m, r) = true from by show (!decide (m = n)) = true; rw [decide_eq_false hmn]; rfl, if_pos rfl]
          have krD : Kr CR H2 (upd H2 D (.dK (putK ls (.inr m) v'))) := Kr.lock e1
          exact Paired.snoc (hls.kr krD) ⟨rfl, g3.kr (krl.trans ((Kr.of s1).trans krD))⟩
    · rintro H1 ⟨s1, ls, e1, hls⟩
      rw [lkv, List.take_length] at hls
      refine ⟨s1 _ _ dl, ?_⟩
      generalize hH2 : upd H1 d (.dK kvs) = H2
      have sH : Same H H2 := by
        rw [← hH2]
        exact lock_same (o := .frz od (.dK kvs)) hd (by rw [hHl]; exact s1)
      have kr12 : Kr CR H1 H2 := by rw [← hH2]; exact Kr.unlock (s1 _ _ dl)
      have hDd : D ≠ d := fun z => by rw [z, s1 _ _ dl] at e1; cases e1
      have hDn : H D = none := by
        have z : Hl D = none := hD
        rw [← hHl, upd_ne hDd] at z
        exact z
      have eD : H2 D = some (.dK ls) := by rw [← hH2, upd_ne hDd]; exact e1
      have hls2 : KeptAt K CR H2 ls (st.kept.filter fl) := hls.kr kr12
      have hDp : D ≠ p := fun z => by subst z; rw [hR.obj] at hDn; cases hDn
      have lls : ls.length ≤ 20 := by
        rw [kept_len hls]
        exact Nat.le_trans (List.length_filter_le _ _) lk
      -- the rest, from the new dict
      have rest : ∀ (H3 : Hp) (ls3 : List (Key × V)), Same H H3 → H3 D = some (.dK ls3) → KeptAt K CR H3 ls3 (setM st.kept n o) → 
          tSeq (sFld K (tVar 0) (tOp rCat (tFld K (tVar 0) "calls") (tLst (tCons (tTup (tCons (tVar 1) (tCons (tVar 2) (tCons (tVar 3) (tCons (tDGet1 (tFld K (tVar 0) "kept") (tVar 3)) tNil))))) tNil))) "calls")
            (sFld K (tVar 0) (tVar 5) "kept") { nx := fun _ H' => Q .non H', rt := Q } [some (.ref p), some (.str u), some (.str wd), some (.str n), some v, some (.ref D), none] H3 := by
        intro H3 ls3 s3 e3 hk3
        have p3 := s3 _ _ hR.obj
        have d3 := s3 _ _ hd
        have l3 := s3 _ _ hl
        refine ⟨_, rfl, p, C, dx, _, _, rfl, p3, R.i.cl, R.nc, rfl, _, rfl, _, rfl, _, rfl, _, rfl, p, C, dx, _, _, rfl, p3, R.i.cl, R.nk, rfl, d, rfl, .inl ⟨kvs, .inl d3⟩, _, rfl, valV kvs (.inr n), .inl ⟨kvs, .inr n, .inl d3, rfl, rfl⟩, ?_⟩
        refine ⟨(by show 4 ≤ sizeLine; decide), fun t ht => ⟨(by show 1 ≤ sizeLine; decide), fun q hq => ?_⟩⟩
        generalize hov : (valV kvs (.inr n)).getD .non = ov at hq
        have s4 : Same H3 (upd H3 t (.tup [.str u, .str wd, .str n, ov])) := Same.upd1 ht
        have s5 := s4.trans (Same.upd1 (o := .lst [.ref t]) hq)
        refine ⟨l, q, xs, [.ref t], rfl, rfl, s5 _ _ l3, upd_same, ?_, fun z hz => ?_⟩
        · rw [hlog.length]
          exact Nat.le_trans (Nat.add_le_add_right ll 1) (by decide)
        have s6 := s5.trans (Same.upd1 (o := .lst (xs ++ [.ref t])) hz)
        refine ⟨_, rfl, p, C, dx, _, rfl, s6 _ _ p3, R.i.cl, R.nc, hR.fxo.len, ?_⟩
        refine ⟨_, rfl, _, rfl, p, C, dx, _, rfl, upd_same, R.i.cl, R.nk, (by exact hR.fxo.len (d := d) (l := z)), ?_⟩
        rw [upd_upd]
        generalize hH6 : upd (upd (upd H3 t (.tup [.str u, .str wd, .str n, ov])) q (.lst [.ref t])) z (.lst (xs ++ [.ref t])) = H6 at s6 ⊢
        have s06 : Same H H6 := s3.trans s6
        have z6 : H6 z = some (.lst (xs ++ [.ref t])) := by rw [← hH6, upd_same]
        have t6 : H6 t = some (.tup [.str u, .str wd, .str n, ov]) := by
          rw [← hH6]
          have h5 : upd (upd H3 t (.tup [.str u, .str wd, .str n, ov])) q (.lst [.ref t]) t = some (.tup [.str u, .str wd, .str n, ov]) := by
            rw [upd_ne (ne_of_none (a := t) upd_same hq), upd_same]
          rw [upd_ne (ne_of_none h5 hz)]
          exact h5
        have kp : Kp p H (upd H6 p (.ins C dx (roomF D z fx))) := (Kp.of s06).upd
        have kr6 : Kr CR H6 (upd H6 p (.ins C dx (roomF D z fx))) := Kp.kr ((Kp.refl p H6).upd) (s06 _ _ hR.obj) ne
        refine k D z _ kp ((s3.trans s5).free hz) ⟨upd_same, hR.fxo, ⟨ls3, ?_, (hk3.kr (Kr.of s6)).kr kr6⟩, xs ++ [.ref t], ?_, ?_⟩
        · rw [upd_ne hDp]; exact s6 _ _ e3
        · rw [upd_ne (ne_of z6 (s06 _ _ hR.obj) (by intro w; cases w))]; exact z6
        · refine Paired.snoc ((hlog.kr (Kr.of s06)).kr kr6) ⟨t, ov, rfl, kr6.tk.tup _ _ t6, ?_⟩
          show OptAt K CR _ ov (getM st.kept n)
          rcases kept_get (n := n) hk with ⟨g0, g1⟩ | ⟨r', v', g1, g2, g3⟩
          · rw [g1] at hov
            rw [g0]
            exact hov.symm
          · rw [g2] at hov
            rw [g1]
            have hov : v' = ov := hov
            subst hov
            exact g3.kr ((Kr.of s06).trans kr6)
      cases o with
      | none =>
        have hv : v = .non := hv
        subst hv
        refine ⟨_, rfl, _, rfl, iteF (rest H2 ls sH eD ?_)⟩
        show KeptAt K CR H2 ls ((st.kept.filter fl) ++ [])
        rw [List.append_nil]
        exact hls2
      | some r =>
        obtain ⟨x, dxx, fv, rfl, hx, hf⟩ := hv
        refine ⟨_, rfl, _, rfl, iteT ?_⟩
        have nw : valV ls (.inr n) = none := by
          rcases kept_get (n := n) hls2 with ⟨_, z⟩ | ⟨_, _, z, _⟩
          · exact z
          · rw [getM_none (fun h => by
              obtain ⟨q, hq, e⟩ := List.mem_map.mp h
              have h2 := (List.mem_filter.mp hq).2
              rw [show fl q = (!decide (q.1 = n)) from rfl, decide_eq_true e] at h2
              cases h2)] at z
            cases z
        refine ⟨_, rfl, _, rfl, _, rfl, D, _, rfl, DPut.k (k := .inr n) eD (Nat.lt_of_le_of_lt lls (by decide)), ?_⟩
        rw [putK_new _ nw]
        have krD : Kr CR H2 (upd H2 D (.dK (ls ++ [(.inr n, V.ref x)]))) := Kr.lock eD
        refine rest _ (ls ++ [(.inr n, .ref x)]) (Same.updN sH hDn) upd_same ?_
        exact Paired.snoc (hls2.kr krD) ⟨rfl, RegAt.kr ((Kr.of sH).trans krD) ⟨x, dxx, fv, rfl, hx, hf⟩⟩
end
end BX
end
section
set_option Elab.async false
set_option linter.all false
set_option maxRecDepth 100000
set_option maxHeartbeats 4000000
/-! Own exception classes over any built-in base. -/
namespace PySem.F
abbrev keB : List Value := [.type "KeyError", .type "LookupError", .type "Exception", .type "BaseException", .type "object"]
theorem bx_storeKE : StoreFacts "KeyError" keB "object.__setattr__" "object" := {
  mro := by kernel_rfl
  slot := .of (owner := "object") (n := "__setattr__") (by rw [typeLookup_type, builtinLookup_eq_fast]; kernel_rfl) (by decide +kernel) (by decide +kernel) (by decide +kernel)
    (by first | exact .inl (by decide +kernel) | exact .inr (by decide +kernel)) (by rw [isSubtype_type]; kernel_rfl)
  entry := entry_object_sa
  kind := by decide +kernel
  split := by decide +kernel
  hasOwner := by decide +kernel
  args := fun a b c => by unfold argsOk; kernel_rfl
  passes := fun self => by kernel_rfl }
end PySem.F
namespace PySem
namespace HBX
/-- what is asked of a built-in's __init__ -/
structure IniF (B initId : String) : Prop where
  init : Slot B "__init__" initId
  ent : entryFor table initId = some Builtin.«BaseException.__init__»
  split : splitId initId = some (B, "__init__")
  kind : builtinKind initId = some .slot
  row : Manifest.signature? initId = some ⟨.positional, "*", B, .self, [⟨"args", .varPos, false⟩]⟩
  star : (B != "*") = true
theorem IniF.of {B newId initId : String} {bm : List Value} (F : ExcBaseFacts B newId initId bm) : IniF B initId := ⟨F.init, F.initEntry, F.initSplit, F.initKind, F.initRow, F.noStar⟩
theorem iniKE : IniF "KeyError" "KeyError.__init__" where
  init := .of (owner := "KeyError") (n := "__init__") (by rw [typeLookup_type, builtinLookup_eq_fast]; kernel_rfl) (by decide +kernel) (by decide +kernel) (by decide +kernel)
    (by first | exact .inl (by decide +kernel) | exact .inr (by decide +kernel)) (by rw [isSubtype_type]; kernel_rfl)
  ent := entryFor_alias (id' := "BaseException.__init__") (by rw [fastTable_eq_tree]; kernel_rfl) (by first | rfl | decide +kernel) (by decide +kernel) (by rw [fastTable_eq_tree]; kernel_rfl)
  split := by kernel_rfl
  kind := by kernel_rfl
  row := by kernel_rfl
  star := by decide +kernel
section
open PySem.W PySem.Calls PyProof.Rows PySem.HandSPX
variable {prog : Program} {w : World} {M : Model} {A : Around} {E : Value → Shared → Prop} {R : Result → Shared → Prop} {h : Heap} {g : Array GenState} {d : Drawn} {t : Nat} {os : OsState}
variable {nm q : Str} {C N : Addr} {bs bm bmB : List Value} {hdct : Bool} {sn : List Str} {sub : List Value} {ab : Bool} {col : Option Bool} {dd : Option Addr} {k0 k1 k2 k3 k5 : Option Value} {B B2 newId initId i2 : String}
/-- the class's own makers are looked up: B's __new__ -/
theorem bx_new (F : ExcBaseFacts B newId initId bmB) (cB : bm.contains (.type B) = true) (cA : bm.contains (.type "AttributeError") = false) (cN : bm.contains (.type "NameError") = false) {rest : List Value}
    (hC : h.get? C = some (excClassObj nm q C N bs bm hdct sn sub ab col dd k0 k1 k2 k3 k5 newId)) (hrest : rest.length ≤ sizeLine)
    (hq : R (.ok (.ret (.ref (h.objs.size + 1)))) ⟨(h.push (kdv_tup rest)).push (excO C h.objs.size), g, d, t, os⟩) : codeAny (model prog w) A (.builtin newId ⟨.ref C :: rest, []⟩) R ⟨h, g, d, t, os⟩ := by
  have hends := F.ends
  have h1 : (Value.ref C :: bm).contains (.type B) = true := by rw [List.contains_cons, cB, Bool.or_true]
  have h2 : (Value.ref C :: bm).contains (.type "AttributeError") = false := by rw [List.contains_cons, cA]; rfl
  have h3 : (Value.ref C :: bm).contains (.type "NameError") = false := by rw [List.contains_cons, cN]; rfl
  refine codeAny_builtinAt F.entry ?_
  unfold Builtin.«BaseException.__new__»
  refine wpAt_bind ?_
  show wpAt _ _ _ (stack >>= _) _ _ _
  refine wpAt_bind (wpAt_stack fun p below => wpAt_of_wpAny ?_)
  wp_walk
  refine wpAt_of_wpAny ?_
  rw [F.owner]
  repeat (first | with_reducible refine wpAny_madeHere_exc F.canon hC ?_ | with_reducible refine wpAny_loadPart_at hC ?_ | (with_reducible refine wpAny_isSubtype_exc hC ?_; first | rw [h1] | rw [h2] | rw [h3]) | wp_step)
  show R _ _
  rw [Heap.size_push]
  exact hq
theorem bx_checkNew (F : ExcBaseFacts B newId initId bmB) (cB : bm.contains (.type B) = true) {rest : List Value} {Q : Unit → Shared → Prop}
    (hC : h.get? C = some (excClassObj nm q C N bs bm hdct sn sub ab col dd k0 k1 k2 k3 k5 newId)) (hq : Q () ⟨h, g, d, t, os⟩) : wpAny M A (checkBuiltinCall newId ⟨.ref C :: rest, []⟩) Q E ⟨h, g, d, t, os⟩ := by
  have h1 : (Value.ref C :: bm).contains (.type B) = true := by rw [List.contains_cons, cB, Bool.or_true]
  have hstar := F.noStar
  simp only [checkBuiltinCall, F.newKind, F.newSplit, F.newRow]
  repeat (first | refine wpAny_loadPart_at hC ?_ | (refine wpAny_isSubtype_exc hC ?_; rw [h1]) | refine wpAny_staticBase_exc hC ?_ | refine wpAny_madeBy_exc hC ?_ | simp only [bne_self_eq_false, Bool.false_eq_true, if_false] | wp_step)
  exact hq
theorem bx_checkIni (F : IniF B2 i2) (cB : bm.contains (.type B2) = true) {e : Addr} {oe : Obj} {rest : List Value} {Q : Unit → Shared → Prop}
    (hC : h.get? C = some (excClassObj nm q C N bs bm hdct sn sub ab col dd k0 k1 k2 k3 k5 newId)) (he : h.get? e = some oe) (hcls : oe.cls = .ref C) (hq : Q () ⟨h, g, d, t, os⟩) : wpAny M A (checkBuiltinCall i2 ⟨.ref e :: rest, []⟩) Q E ⟨h, g, d, t, os⟩ := by
  have h1 : (Value.ref C :: bm).contains (.type B2) = true := by rw [List.contains_cons, cB, Bool.or_true]
  have hshort := F.star
  simp only [checkBuiltinCall, F.kind, F.split, F.row]
  repeat (first | (with_reducible refine wpAny_loadPart_at he ?_; rw [hcls]) | with_reducible refine wpAny_loadPart_at hC ?_ | (with_reducible refine wpAny_isSubtype_exc hC ?_; rw [h1]) | wp_step)
  refine wpAny_onRaise ?_
  rw [show ∀ (a b : String) (n : Nat), Bind.check ⟨.positional, "*", B2, .self, [⟨"args", .varPos, false⟩]⟩ a b n (List.map (fun x => x.fst) ({ pos := Value.ref e :: rest } : Args).kw) = pure () from
    fun a b n => check_star_args _ _ _ _ _ _]
  exact wpAny_pure hq
theorem bx_init (F : IniF B2 i2) (cB : bm.contains (.type B2) = true) {e t0 : Addr} {rest : List Value}
    (hC : h.get? C = some (excClassObj nm q C N bs bm hdct sn sub ab col dd k0 k1 k2 k3 k5 newId)) (he : h.get? e = some (excO C t0)) (hrest : rest.length ≤ sizeLine)
    (hq : ∀ h' t1, (∀ b o, b ≠ e → h.get? b = some o → h'.get? b = some o) → h'.get? e = some (excO C t1) → R (.ok (.ret .none)) ⟨h', g, d, t, os⟩) : codeAny (model prog w) A (.call (.builtin i2) ⟨.ref e :: rest, []⟩) R ⟨h, g, d, t, os⟩ := by
  refine codeAny_call_builtin F.init.plain F.ent (bx_checkIni F cB hC he rfl ?_)
  wp_walk
  refine hq _ h.objs.size (fun b o hb ho => ?_) ?_
  · rw [Heap.get?_update_other _ _ (Ne.symm hb)]
    exact Heap.get?_push_of_some _ ho
  · rw [Heap.get?_update_self _ (Heap.get?_push_of_some _ he) rfl]
    rfl
theorem bx_typeCall (F : ExcBaseFacts B newId initId bmB) (cB : bm.contains (.type B) = true) (cA : bm.contains (.type "AttributeError") = false) (cN : bm.contains (.type "NameError") = false) {rest : List Value} {fI : Addr} {Q : Fin → Shared → Prop}
    (hC : h.get? C = some (excClassObj nm q C N bs bm hdct sn sub ab col dd k0 k1 k2 k3 k5 newId))
    (hi : W.Looks (model prog w) h (typeLookup (.ref C) "__init__") (some (.ref fI))) (hb : ∀ self, W.Looks (model prog w) h (bindSpecial (.ref fI) self) (.ref fI, [self])) (hrest : rest.length ≤ sizeLine)
    (hq : codeAny (model prog w) A (.call (.ref fI) ⟨.ref (h.objs.size + 1) :: rest, []⟩)
      (fun r s' => match r with | .ok (.ret v) => v = .none ∧ Q (.done (.ret (.ref (h.objs.size + 1)))) s' | .ok _ => False | .error e => E e s')
      ⟨(h.push (kdv_tup rest)).push (excO C h.objs.size), g, d, t, os⟩) :
    wpAny (model prog w) A (Builtin.«type.__call__» ⟨.ref C :: rest, []⟩) Q E ⟨h, g, d, t, os⟩ := by
  repeat (first | with_reducible refine wpAny_loadPart_at hC ?_ | with_reducible refine wpAny_madeBy_exc hC ?_ | wp_step)
  refine codeAny_call_builtin_code (Code.quiet_builtin _ F.quiet) (bx_checkNew F cB hC ?_)
  refine bx_new F cB cA cN hC hrest ?_
  show wpAny _ _ _ _ _ _
  have k : ∀ b o, h.get? b = some o → ((h.push (kdv_tup rest)).push (excO C h.objs.size)).get? b = some o := fun b o e => Heap.get?_push_of_some _ (Heap.get?_push_of_some _ e)
  have hC₁ := k _ _ hC
  have hget : ((h.push (kdv_tup rest)).push (excO C h.objs.size)).get? (h.objs.size + 1) = some (excO C h.objs.size) := by heap_get
  have hcC : (Value.ref C :: bm).contains (.ref C) = true := by simp
  have i1 := hi.keeps k
  have b1 := (hb (.ref (h.objs.size + 1))).keeps k
  unfold isInstance
  repeat (first | with_reducible refine wpAny_loadPart_at hget ?_ | (with_reducible refine wpAny_isSubtype_exc hC₁ ?_; rw [hcC]) | wp_step)
  show wpAny _ _ (typeLookup (.ref C) _) _ _ _
  refine i1.at ?_
  refine wpAny_holding (wpAny_bind (b1.at ?_))
  refine wpAny_bind (wpAny_call (codeAny_mono hq fun r s' z => ?_))
  rcases r with e | (v | _ | _ | _) <;> first | exact z | exact z.elim | skip
  obtain ⟨rfl, z⟩ := z
  first
    | exact wpAny_pure (wpAny_pure z)
    | (wp_walk; exact z)
theorem bx_call (F : ExcBaseFacts B newId initId bmB) (cB : bm.contains (.type B) = true) (cA : bm.contains (.type "AttributeError") = false) (cN : bm.contains (.type "NameError") = false) {rest : List Value} {fI : Addr}
    (hC : h.get? C = some (excClassObj nm q C N bs bm hdct sn sub ab col dd k0 k1 k2 k3 k5 newId))
    (hi : W.Looks (model prog w) h (typeLookup (.ref C) "__init__") (some (.ref fI))) (hb : ∀ self, W.Looks (model prog w) h (bindSpecial (.ref fI) self) (.ref fI, [self])) (hrest : rest.length ≤ sizeLine)
    (hq : codeAny (model prog w) (A.under (.builtin "type.__call__" ⟨.ref C :: rest, []⟩)) (.call (.ref fI) ⟨.ref (h.objs.size + 1) :: rest, []⟩) (InitBack (h.objs.size + 1) R)
      ⟨(h.push (kdv_tup rest)).push (excO C h.objs.size), g, d, t, os⟩) : codeAny (model prog w) A (.call (.ref C) ⟨rest, []⟩) R ⟨h, g, d, t, os⟩ := by
  have f1 := tc_lookup
  have f2 := tc_bind (.ref C)
  have hTy : (⟨h, g, d, t, os⟩ : Shared).TypeIs (.ref C) "type" := ⟨_, hC, rfl⟩
  refine codeAny_of_tree ?_
  show wpAny _ _ (callAny (.ref C) _) _ _ _
  repeat (any_goals (first | assumption | with_reducible refine wpAny_loadPart_at hC ?_ | wp_step))
  refine ⟨rfl, ?_⟩
  refine codeAny_call_builtin_at (Code.quiet_builtin _ (by decide +kernel)) entry_typeCall (wpAny_check_type_call_sub hC (bx_typeCall F cB cA cN hC hi hb hrest ?_))
  refine codeAny_mono hq fun r s' z => ?_
  rcases r with e | (v | _ | _ | _) <;> exact z
end
end HBX
end PySem
namespace BX
open PySem PySem.Spec PyProof.Rows L2 ClX PySem.HBX
/-- what the text says of an exception class: made by B's __new__, B2's __init__ above its own, bt the built-in end of its row of classes -/
structure Ox (K : PySem.W.Frag) (C : Addr) (newId B2 i2 : String) (bt : List Value) : Prop where
  nf : ∃ B i0 m0, ExcBaseFacts B newId i0 m0 ∧ bt.contains (.type B) = true
  inf : IniF B2 i2
  hb : PySem.W.handedIn (.builtin i2) = true
  cB : bt.contains (.type B2) = true
  cA : bt.contains (.type "AttributeError") = false
  cN : bt.contains (.type "NameError") = false
  SF : StoreFacts B2 bt "object.__setattr__" "object"
  ini : PySem.W.excInitIn K C bt newId = true
  ovr : PySem.W.excOver K C bt = true
  hd : PySem.W.hasDictIn K C = true
  sa : PySem.W.findIn K (.ref C) "__setattr__" = some (some (.builtin "object.__setattr__"))
  exC : PySem.W.subIn K (.ref C) (.type "BaseException") = some true
  tyC : PySem.W.typeIn K (.ref C) = some (.type "type")
  kC : PySem.W.keepIn K (.ref C) = true
section
variable {X : Cx} {pins : List (Addr × Obj)} {σ : L2.St} {H : Hp} {s : Shared} {a C dx : Addr} {f : Str} {y : V} {u : Value} {fs : List (Str × V)} {E : Value → Shared → Prop} {A : Around} {newId B2 i2 : String} {bt : List Value}
/-- self.f = y, the first field -/
theorem ox_new {Q : Unit → Shared → Prop} (T : Ox X.K C newId B2 i2 bt) (I : Inv X pins σ H s) (e : H a = some (exo a C none)) (hno : NoAttr X.K C f) (ry : RelV y u)
    (h : ∀ dx s', H dx = none → dx ≠ a → Inv X pins σ (upd (upd H dx (exd dx [(f, y)])) a (exo a C (some dx))) s' → Q () s') : wpAny (model X.prog X.w) A (setAttr (.ref a) f u) Q E s := by
  obtain ⟨t1, ho⟩ := exo_at I.hok e
  obtain ⟨hp, g, d, t, os⟩ := s
  have J0 : PySem.W.InstAt hp a { cls := .ref C, dict := none, data := .fields #[.ref t1, .none, .none, .none, .bool false, .none] } C none := ⟨ho, rfl, rfl, trivial⟩
  refine PySem.W.set_plain I.kIn J0 T.sa (PySem.W.osa_openX T.SF I.kIn J0 T.ovr hno.taker fun b => ?_)
  show wpAny _ _ (Builtin.ObjectAttr.storeInOwnDict (.ref a) (.ref C) (.str f t) f u b) _ _ _
  obtain ⟨cd, hcd, hh⟩ := PySem.W.any_some T.hd
  have hcls : PySem.W.Looks (model X.prog X.w) hp (classData C) cd := PySem.W.looks_clsIn I.kIn hcd
  have hxs : a ≠ hp.objs.size := Nat.ne_of_lt (Heap.lt_size ho)
  have rest : ∀ h' tk' dx, (∀ b o, b ≠ a → hp.get? b = some o → h'.get? b = some o) → hp.objs.size ≤ dx → dx ≠ a → h'.get? a = some { cls := .ref C, dict := some dx, data := .fields #[.ref t1, .none, .none, .none, .bool false, .none] } →
      h'.Ns1 dx (fun y => if y = f then some u else none) → Q () ⟨h', g, d, tk', os⟩ := fun h' tk' dx k dn dne hx hn => by
    have hnd : H dx = none := I.hok.fresh dn
    have nd : ∀ {b : Addr} {o : Obj}, hp.get? b = some o → b ≠ dx := fun q => Nat.ne_of_lt (Nat.lt_of_lt_of_le (Heap.lt_size q) dn)
    have na : ∀ {b : Addr}, H b = none → b ≠ a := fun n z => by
      rw [z, e] at n
      cases n
    have U1 : Un X.fs [] H (upd (upd H dx (exd dx [(f, y)])) a (exo a C (some dx))) hp h' := {
      keep := fun b o q n _ _ => k b o (na n) q
      slot := fun b o q n _ _ => ⟨o.slots, k b o (na n) q⟩
      free := fun b o q n _ => by rw [upd_ne (na n), upd_ne (nd q)]; exact n
      there := fun b o q _ => by
        by_cases hb : b = a
        · exact ⟨_, by rw [hb]; exact hx⟩
        · exact ⟨o, k b o hb q⟩
      tups := fun b xs q => by rw [upd_ne (at_ne e q exo_tup), upd_ne (ne_of_none q hnd)]; exact q
      frzs := fun b o v q => by rw [upd_ne (at_ne e q exo_frz), upd_ne (ne_of_none q hnd)]; exact q
      tbls := fun b ps q => ⟨#[], by rw [upd_ne (at_ne e q exo_tbl), upd_ne (ne_of_none q hnd), q]; simp⟩ }
    refine h dx _ hnd dne (I.un (t' := tk') U1 fun b o q => ?_)
    by_cases hb : b = a
    · subst hb
      rw [upd_same] at q
      cases q
      exact exo_ok hx
    · rw [upd_ne hb] at q
      by_cases hd : b = dx
      · subst hd
        rw [upd_same] at q
        cases q
        exact exd_ok hn (relO_put (fs := []) ry fun g => True.intro)
      · rw [upd_ne hd] at q
        exact (I.hok b o q).stay (fun c v hc z => k c v (by
            rcases hc with hc | hc
            · rw [hc]
              exact hb
            · exact at_ne e hc exo_own) z)
          (fun c hc => by rw [upd_ne (at_ne e hc exo_own), upd_ne (ne_of_none hc hnd)]; exact hc) (fun c xs hc => by rw [upd_ne (at_ne e hc exo_tup), upd_ne (ne_of_none hc hnd)]; exact hc)
  obtain ⟨nm, bs, mro, ns, qn, hd, sn, sb, ab, col, del⟩ := cd
  dsimp only at hh
  subst hh
  unfold Builtin.ObjectAttr.storeInOwnDict Builtin.ObjectAttr.ownDictForStores
  repeat (first | with_reducible refine PySem.HandSPX.store_in_new ?_ ?_ | with_reducible refine wpAny_loadPart_at ho ?_ | with_reducible refine hcls.at ?_ | wp_step)
  · exact ⟨_, #[], _, (Heap.get?_update_ne _ _ _ _ hxs.symm).trans (Heap.get?_push_at rfl rfl), rfl, fun e he => absurd he (by simp), fun _ => rfl⟩
  · intro h' tk' hn' hs
    have hx₁ : (hp.push { cls := .type "dict", data := .dict #[] }).get? a = some { cls := .ref C, data := .fields #[.ref t1, .none, .none, .none, .bool false, .none] } := Heap.get?_push_of_some _ ho
    refine rest h' tk' hp.objs.size (fun b o hb ho => ?_) (Nat.le_refl _) hxs.symm ?_ hn'
    · exact (hs.2 b (Nat.ne_of_lt (Heap.lt_size ho))).trans ((Heap.get?_update_ne _ _ _ _ hb).trans (Heap.get?_push_of_some _ ho))
    · exact (hs.2 a hxs).trans (Heap.get?_update_self _ hx₁ rfl)
/-- B.__init__(self, ..): nothing of it is told -/
theorem ox_init {us : List Value} {Q : Value → Shared → Prop} (T : Ox X.K C newId B2 i2 bt) (I : Inv X pins σ H s) (e : H a = some (exo a C none)) (hl : us.length ≤ sizeLine) (h : ∀ s', Inv X pins σ H s' → Q .none s') :
    wpAny (model X.prog X.w) A (call (.builtin i2) (.ref a :: us)) Q E s := by
  obtain ⟨nm, N, qn, bs, bm, hdct, sn, sub, ab, col, dd, k0, k1, k2, k3, k5, hC, hT⟩ := PySem.W.excInit_of I.kIn T.ini
  obtain ⟨t1, ho⟩ := exo_at I.hok e
  obtain ⟨hp, g, d, t, os⟩ := s
  refine wpAny_call (bx_init T.inf (by rw [hT]; exact T.cB) hC ho hl fun h' t2 k hx => ?_)
  have J := I.write (t' := t) (x := a) (e := a) (o := exo a C none) (by rw [e]; exact True.intro) (.inl rfl) k ⟨_, hx⟩ (exo_ok hx)
  have eu : upd H a (exo a C none) = H := by
    funext b
    by_cases hb : b = a
    · rw [hb, upd_same, e]
    · rw [upd_ne hb]
  rw [eu] at J
  exact h _ J
end
end BX
end
section
set_option Elab.async false
set_option linter.all false
set_option maxRecDepth 100000
set_option maxHeartbeats 4000000
namespace BX
open PySem PySem.Spec PyProof.Rows L2 ClX PySem.HBX
/-! ### readings -/
/-- B.__init__(self, ..), self an exception of C that is being made -/
def tIni (C : Addr) (ta : TA) : TE := fun σ H Q => ta σ H fun vs H1 => ∃ (a : Addr) (ws : List V), vs = .ref a :: ws ∧ ws.length ≤ 1000 ∧ H1 a = some (exo a C none) ∧ Q .non H1
/-- self.f = e, the first field -/
def tOx (K : PySem.W.Frag) (C : Addr) (f : Str) (to te : TE) : TS := fun D σ H => te σ H fun y H1 => to σ H1 fun x H2 => ∃ a : Addr, x = .ref a ∧ NoAttr K C f ∧ H2 a = some (exo a C none) ∧ ∀ dx, H2 dx = none → dx ≠ a → D.nx σ (upd (upd H2 dx (exd dx [(f, y)])) a (exo a C (some dx)))
/-- C(e, ..), C's own __init__ keeping sp -/
def tMkX (C : Addr) (sp : Sp) (ta : TA) : L2.St → Hp → XK → Prop := fun σ H Q => ta σ H fun vs H1 => vs.length ≤ 1000 ∧ ∀ a, H1 a = none → sp (.ref a :: vs) (upd H1 a (exo a C none))
  (fun v H2 => v = .non ∧ ((∃ (d : Addr) (fs : List (Str × V)), H2 a = some (exo a C (some d)) ∧ H2 d = some (exd d fs) ∧ H1 d = none ∧ Q (.ref C) (some d) (upd (del H2 a) d (.xd fs))) ∨ (H2 a = some (exo a C none) ∧ Q (.ref C) none (del H2 a)))) C8.E0
section
variable {X : Cx} {C fI : Addr} {newId B2 i2 : String} {bt : List Value} {x f : Str} {o e : Expr} {es : List Expr} {to te ta0 : TE} {ta : TA} {p p' p1 p2 pos : Pos} {k : Nat} {sp : Sp}
/-- B2.__init__(..), B2 a built-in exception's name -/
theorem pe_iniB {pl : Sem Bool} (T : Ox X.K C newId B2 i2 bt) (hg : Gl X x) (hm : X.mg x = none) (hv : bootBuiltins x = some (.type B2)) (hx : x ≠ "__name__") (hd : (x == ("__debug__" : Str)) = false) (ty : typeOf (.type B2) = pure (.type "type")) (st : Manifest.isStub B2 = false)
    (fc : PySem.W.findCls X.K (.type B2) (.type "type") "__init__" = some (.val (.builtin i2))) (ha : PA X (e :: es) ta)
    (hc : eval (.Call (.Attribute (.Name x p1) "__init__" p2) (e :: es) [] pos) X.env = (do
      let ov ← eval (.Name x p1) X.env
      standAt p2.atName
      let (f, first) ← holding [ov] (getMethod ov "__init__" pl)
      callWith pos f first (backTo pos (starEach (e :: es) X.env)) (backToKw pos (keywordEach [] X.env))) := by rfl)
    (he : starEach (e :: es) X.env = (false, eval e X.env) :: starEach es X.env := by rfl) (hpl : (backTo pos (starEach es X.env)).any (·.1) = false := by rfl) :
    PE X (.Call (.Attribute (.Name x p1) "__init__" p2) (e :: es) [] pos) (tIni C ta) := by
  refine ⟨fun pins s σ H Q I h => ?_⟩
  refine PySem.W.methodCall_KW (ld_blt I hg hm hv ?_ hx hd) hc
  obtain ⟨m, fr⟩ := I.fr
  refine PySem.W.method_type fr I.ok.mod.kin ty st fc T.hb ?_
  show wpAny _ _ (callWith pos (Value.builtin i2) [] (backTo pos (starEach (e :: es) X.env)) []) _ _ _
  refine PyProof.Rows.callWith_method1 (thn (ha.run pos pins _ σ H _ (I.tok _) h) fun us s1 h1 => ?_) he hpl
  obtain ⟨vs, H1, I1, r1, a, ws, rfl, hl, ea, q⟩ := h1
  cases r1 with
  | @cons _ u0 _ ur ra rw' =>
    cases ra
    have hlen : ur.length ≤ sizeLine := by
      rw [← Paired.length rw', sizeLine_eq]
      omega
    exact ox_init T I1 ea hlen fun s' J => ⟨.non, H1, J, rfl, q⟩
/-- D.__init__(..), D an own class that has the built-in's -/
theorem pe_iniO {pl : Sem Bool} {D : Addr} {mc : Value} (T : Ox X.K C newId B2 i2 bt) (ho : PE X o ta0) (r : CRead X.K D mc) (fc : PySem.W.findCls X.K (.ref D) mc "__init__" = some (.val (.builtin i2))) (ha : PA X (e :: es) ta)
    (hc : eval (.Call (.Attribute o "__init__" p2) (e :: es) [] pos) X.env = (do
      let ov ← eval o X.env
      standAt p2.atName
      let (f, first) ← holding [ov] (getMethod ov "__init__" pl)
      callWith pos f first (backTo pos (starEach (e :: es) X.env)) (backToKw pos (keywordEach [] X.env))) := by rfl)
    (he : starEach (e :: es) X.env = (false, eval e X.env) :: starEach es X.env := by rfl) (hpl : (backTo pos (starEach es X.env)).any (·.1) = false := by rfl) :
    PE X (.Call (.Attribute o "__init__" p2) (e :: es) [] pos) (fun σ H Q => ta0 σ H fun x H1 => x = .ref D ∧ tIni C ta σ H1 Q) := by
  refine ⟨fun pins s σ H Q I h => ?_⟩
  refine PySem.W.methodCall_KW (pl := pl) (thn (ho.run pins s σ H _ I h) fun u s1 h1 => ?_) hc
  obtain ⟨x, H1, I1, rx, rfl, q⟩ := h1
  cases rx
  obtain ⟨mf, F0⟩ := I1.fr
  have hty : PySem.W.typeIn X.K (.ref D) = some mc := by
    have h := r.rd
    simp only [PySem.W.readsIn, Bool.and_eq_true, beq_iff_eq] at h
    exact h.1.1.1.2
  refine PySem.W.method_of_cls F0 I1.ok.mod.kin r.ga (PySem.W.cls_val F0 I1.ok.mod.kin hty r.rd fc T.hb ?_)
  show wpAny _ _ (callWith pos (Value.builtin i2) [] (backTo pos (starEach (e :: es) X.env)) []) _ _ _
  refine PyProof.Rows.callWith_method1 (thn (ha.run pos pins _ σ H1 _ (I1.tok _) q) fun us s2 h2 => ?_) he hpl
  obtain ⟨vs, H2, I2, r2, a, ws, rfl, hl, ea, q2⟩ := h2
  cases r2 with
  | @cons _ u0 _ ur ra rw' =>
    cases ra
    have hlen : ur.length ≤ sizeLine := by
      rw [← Paired.length rw', sizeLine_eq]
      omega
    exact ox_init T I2 ea hlen fun s' J => ⟨.non, H2, J, rfl, q2⟩
theorem ps_ox (T : Ox X.K C newId B2 i2 bt) (ho : PE X o to) (he : PE X e te) (hs : swapsWith e (some (.Attribute o f p')) pos.line X.env = pure false := by rfl) : PS X (.Assign [.Attribute o f p'] e pos) (tOx X.K C f to te) := by
  refine ⟨fun pins s σ H D I h => ?_⟩
  refine plainObj_wpAny_Assign_Attribute (thn (he.run pins s σ H _ I h) fun v s1 h1 => ?_) hs
  obtain ⟨y, H1, I1, r1, q1⟩ := h1
  refine thn (ho.run pins s1 σ H1 _ I1 q1) fun u s2 h2 => ?_
  obtain ⟨x, H2, I2, r2, a, rfl, hno, ea, q⟩ := h2
  cases r2
  exact ox_new T I2 ea hno r1 fun dx s' n ne J => ⟨σ, _, J, q dx n ne⟩
/-- an exception without a dict is let go -/
theorem mk_endN {pins : List (Addr × Obj)} {σ : L2.St} {H1 H2 : Hp} {Q : XK} {hp hp2 h2 : Heap} {g1 g2 : Array GenState} {d1 d2 : Drawn} {t1 t2 : Nat} {os1 os2 : OsState} {a C : Addr} (T : Raises X (.ref C)) (I1 : Inv X pins σ H1 ⟨hp, g1, d1, t1, os1⟩)
    (ha : hp.objs.size ≤ a) (k : ∀ b o, hp.get? b = some o → hp2.get? b = some o) (un : Un (frs X.stack) [] (upd H1 a (exo a C none)) H2 hp2 h2) (hok : HOk X.prog X.w H2 h2) (ho : os2 = os1) (hb : AllBare g2)
    (ea : H2 a = some (exo a C none)) (q : Q (.ref C) none (del H2 a)) : MkP X pins σ Q (.ref a) ⟨h2, g2, d2, t2, os2⟩ := by
  obtain ⟨t0, hoe⟩ := exo_at hok ea
  have hn : H1 a = none := I1.hok.fresh ha
  obtain ⟨G, g1', g2'⟩ := restrict h2 fun b => decide (b ≠ a)
  have gk : ∀ b, b ≠ a → G.get? b = h2.get? b := fun b hb => g1' b (decide_eq_true hb)
  have ge : G.get? a = none := g2' a (by simp)
  have nha : ∀ {b : Addr} {o : Obj}, hp.get? b = some o → b ≠ a := fun z => Nat.ne_of_lt (Nat.lt_of_lt_of_le (Heap.lt_size z) ha)
  have up : ∀ {b : Addr}, b ≠ a → H1 b = none → upd H1 a (exo a C none) b = none := fun hb n => by rw [upd_ne hb]; exact n
  have U : Un (frs X.stack) [] H1 (del H2 a) hp G := {
    keep := fun b o z n hf hx => by
      rw [gk b (nha z)]
      exact un.keep b o (k b o z) (up (nha z) n) hf hx
    slot := fun b o z n hf hx => by
      rw [gk b (nha z)]
      exact un.slot b o (k b o z) (up (nha z) n) hf hx
    free := fun b o z n hx => by
      rw [del_ne (nha z)]
      exact un.free b o (k b o z) (up (nha z) n) hx
    there := fun b o z hx => by
      rw [gk b (nha z)]
      exact un.there b o (k b o z) hx
    tups := fun b xs z => by
      rw [del_ne (ne_of_none z hn)]
      exact un.tups b xs (by rw [upd_ne (ne_of_none z hn)]; exact z)
    frzs := fun b o v z => by
      rw [del_ne (ne_of_none z hn)]
      exact un.frzs b o v (by rw [upd_ne (ne_of_none z hn)]; exact z)
    tbls := fun b ps z => by
      rw [del_ne (ne_of_none z hn)]
      exact un.tbls b ps (by rw [upd_ne (ne_of_none z hn)]; exact z) }
  have hok3 : HOk X.prog X.w (del H2 a) G := fun b o z => by
    have hba : b ≠ a := fun e => by
      rw [e, del_same] at z
      cases z
    rw [del_ne hba] at z
    exact (hok b o z).stay (fun c v hc y => by
        have hca : c ≠ a := by
          rcases hc with hc | hc
          · rw [hc]
            exact hba
          · exact at_ne ea hc exo_own
        rw [gk c hca]
        exact y)
      (fun c hc => by rw [del_ne (at_ne ea hc exo_own)]; exact hc) (fun c xs hc => by rw [del_ne (at_ne ea hc exo_tup)]; exact hc)
  have J : Inv X pins σ (del H2 a) ⟨G, g2, d2, t2, os2⟩ := I1.call' (ch := []) ho U hok3 hb (fun b z => absurd z (by simp))
  refine ⟨a, _, _, ⟨G, g2, d2, t2, os2⟩, _, .ref C, none, rfl, J, fun b o z => ?_, ge, hoe, ⟨rfl, rfl⟩, rfl, rfl, del_same, rfl, hb, T, q⟩
  by_cases hba : b = a
  · rw [hba, ge] at z
    cases z
  · exact (gk b hba).symm.trans z
/-- the class is called -/
theorem run_ox {pins : List (Addr × Obj)} {σ : L2.St} {H1 : Hp} {s1 : Shared} {Q : XK} {us : List Value} {vs : List V} (T : Ox X.K C newId B2 i2 bt) (me : PySem.W.findIn X.K (.ref C) "__init__" = some (some (.ref fI))) (tI : PySem.W.typeIn X.K (.ref fI) = some (.type "function")) (F : At X.prog X.w X.K X.mg X.base k fI sp) (hr : Room (k + 1) X.A)
    (I1 : Inv X pins σ H1 s1) (r1 : Vals vs us) (hz : vs.length ≤ 1000)
    (q1 : ∀ a, H1 a = none → sp (.ref a :: vs) (upd H1 a (exo a C none)) (fun v H2 => v = .non ∧ ((∃ (d : Addr) (fs : List (Str × V)), H2 a = some (exo a C (some d)) ∧ H2 d = some (exd d fs) ∧ H1 d = none ∧ Q (.ref C) (some d) (upd (del H2 a) d (.xd fs))) ∨ (H2 a = some (exo a C none) ∧ Q (.ref C) none (del H2 a)))) C8.E0) :
    wpAny (model X.prog X.w) X.A (call (.ref C) us) (MkP X pins σ Q) X.xe s1 := by
  obtain ⟨fd, ps, F1, kp, hb⟩ := F.ex
  obtain ⟨B, i0, m0, FB, cB⟩ := T.nf
  obtain ⟨nm, N, qn, bs, bm, hdct, sn, sub, ab, col, dd, k0, k1, k2, k3, k5, hC, hT⟩ := PySem.W.excInit_of I1.kIn T.ini
  obtain ⟨hp, g, dr, tk, os⟩ := s1
  have hsz : hp.objs.size ≤ hp.objs.size + 1 := Nat.le_succ _
  have hn : H1 (hp.objs.size + 1) = none := I1.hok.fresh hsz
  have hq := q1 (hp.objs.size + 1) hn
  have kk : ∀ b o, hp.get? b = some o → ((hp.push (PySem.W.kdv_tup us)).push (PySem.HandSPX.excO C hp.objs.size)).get? b = some o := fun b o e => Heap.get?_push_of_some _ (Heap.get?_push_of_some _ e)
  have hget : ((hp.push (PySem.W.kdv_tup us)).push (PySem.HandSPX.excO C hp.objs.size)).get? (hp.objs.size + 1) = some (PySem.HandSPX.excO C hp.objs.size) := by heap_get
  have I2 : Inv X pins σ (upd H1 (hp.objs.size + 1) (exo (hp.objs.size + 1) C none)) ⟨(hp.push (PySem.W.kdv_tup us)).push (PySem.HandSPX.excO C hp.objs.size), g, dr, tk, os⟩ :=
    I1.laid (t' := tk) (a := hp.objs.size + 1) (o := exo (hp.objs.size + 1) C none) (h' := (hp.push (PySem.W.kdv_tup us)).push (PySem.HandSPX.excO C hp.objs.size)) kk hsz (exo_ok hget)
  have r2 : Vals (V.ref (hp.objs.size + 1) :: vs) (Value.ref (hp.objs.size + 1) :: us) := .cons rfl r1
  have hl : (Value.ref (hp.objs.size + 1) :: us).length = ps.length := by
    rw [← r2.length]
    exact F1.len _ _ _ _ hq
  have hus : us.length ≤ sizeLine := by
    rw [← Paired.length r1, sizeLine_eq]
    omega
  have b' := hb _ (Value.ref (hp.objs.size + 1) :: us) I2.kIn (by rw [List.append_nil]; exact hl)
  rw [List.append_nil] at b'
  refine wpAny_call (bx_call FB (by rw [hT]; exact cB) (by rw [hT]; exact T.cA) (by rw [hT]; exact T.cN) hC (PySem.W.looks_findIn I1.kIn me) (fun self => PySem.W.bind_fn I1.kIn self tI) hus
    (codeAny_mono (F1.run _ X.stack _ _ ⟨Value.ref (hp.objs.size + 1) :: us, []⟩ (Value.ref (hp.objs.size + 1) :: us) _ _ C8.E0 (hr.make C us []) (I2.env0.make C us []) b' r2 hq) fun r s' hq' => ?_))
  cases r with
  | error er => exact hq'.elim
  | ok fl =>
    cases fl with
    | ret u =>
      obtain ⟨v, H2, os2, bare2, un2, hok2, rv, ev, q2⟩ := hq'
      subst ev
      obtain ⟨h2, g2, d2, t2, os'⟩ := s'
      refine ⟨rv, ?_⟩
      rcases q2 with ⟨d, fs, ea, ed, hd1, q2⟩ | ⟨ea, q2⟩
      · exact mk_end (raises_own T.exC T.tyC) I1 hsz kk un2 hok2 os2 bare2 ea ed hd1 q2
      · exact mk_endN (raises_own T.exC T.tyC) I1 hsz kk un2 hok2 os2 bare2 ea q2
    | next => exact hq'.elim
    | brk => exact hq'.elim
    | cont => exact hq'.elim
theorem pmk_ox (T : Ox X.K C newId B2 i2 bt) (me : PySem.W.findIn X.K (.ref C) "__init__" = some (some (.ref fI))) (tI : PySem.W.typeIn X.K (.ref fI) = some (.type "function")) (F : At X.prog X.w X.K X.mg X.base k fI sp) {j : Nat} (hr : Room j X.A) (hk : k + 1 ≤ j) (hg : Gl X x) (hm : X.mg x = some (.ref C)) (ha : PA X (e :: es) ta)
    (hdb : (x == ("__debug__" : Str)) = false := by decide) (he : starEach (e :: es) X.env = (false, eval e X.env) :: starEach es X.env := by rfl) (hpl : (backTo pos (starEach es X.env)).any (·.1) = false := by rfl) : PMk X (.Call (.Name x p) (e :: es) [] pos) (tMkX C sp ta) := by
  intro pins s σ H Q I h
  refine wpAny_Call_Name_kw (ld_glob I hg hm ?_ hdb)
  refine PySem.W.callWith_K (h₀ := X.base) I.ok.mod.kin T.kC (thn (ha.run pos pins s σ H _ I h) fun us s1 h1 => ?_) he hpl
  obtain ⟨vs, H1, I1, r1, hz, q1⟩ := h1
  exact ⟨I1.kIn, run_ox T me tI F (hr.mono hk) I1 r1 hz q1⟩
theorem pmk_ox0 (T : Ox X.K C newId B2 i2 bt) (me : PySem.W.findIn X.K (.ref C) "__init__" = some (some (.ref fI))) (tI : PySem.W.typeIn X.K (.ref fI) = some (.type "function")) (F : At X.prog X.w X.K X.mg X.base k fI sp) {j : Nat} (hr : Room j X.A) (hk : k + 1 ≤ j) (hg : Gl X x) (hm : X.mg x = some (.ref C))
    (hdb : (x == ("__debug__" : Str)) = false := by decide) : PMk X (.Call (.Name x p) [] [] pos) (tMkX C sp tNil) := by
  intro pins s σ H Q I h
  refine wpAny_Call_Name_kw (ld_glob I hg hm ?_ hdb)
  obtain ⟨hz, q1⟩ := h
  exact PySem.W.callWith_K0 I.kIn T.kC (run_ox (us := []) (vs := []) T me tI F (hr.mono hk) I .nil hz q1)
end
end BX
end
section
set_option Elab.async false
set_option linter.all false
set_option maxRecDepth 100000
set_option maxHeartbeats 4000000
namespace BX
open PySem PySem.Spec PyProof.Rows L2 ClX
/-! ### defs that may raise -/
structure AtX (P : Program) (w : World) (K : PySem.W.Frag) (mg : Str → Option Value) (base : Heap) (k : Nat) (f : Addr) (sp : Sp) : Prop where
  ex : ∃ (fd : FuncData) (ps : List Str), FnOk P w K mg base (L2.CX P w) k f fd ps sp ∧ PySem.W.keepIn K (.ref f) = true ∧ Binds K fd ps []
abbrev cxX (P : Program) (w : World) (K : PySem.W.Frag) (mg : Str → Option Value) (base : Heap) (N : List Str) (qual : Str) (sc : Scope) (f : Addr) (cdv : Value) (A : Around) (outer : List Env) (s : Shared) (H : Hp) (E : XK) : Cx := cxOf (L2.CX P w) P w K mg base N qual sc f cdv A outer s H E
section
variable {P : Program} {w : World} {K : PySem.W.Frag} {mg : Str → Option Value} {base : Heap} {k : Nat} {f C : Addr} {sp : Sp} {x m : Str}
theorem atR {x qual : Str} {st : Stmt} {fd : FuncData} {N ps : List Str} (F : FnQ K x qual st f fd) (S : FnScope N ps (defScope st))
    (hb : ∀ (kV doc pm : Value) (an : Option Addr) (cdv ct : Value) (us : List Value), us.length = ps.length → bindArgs (PySem.W.fnOf x qual (defArgs st) (defBody st) (defScope st) .none kV doc pm an cdv ct) ⟨us, []⟩ = pure (ps.zip us))
    (len : ∀ vs H Q E, sp vs H Q E → vs.length = ps.length)
    (hbody : ∀ (cdv : Value) (A : Around) (outer : List Env) (s : Shared) (H : Hp) (vs : List V) (Q : VK) (E : XK), Room k (A.deeper (envOfC qual (defScope st) s.heap.objs.size f cdv)) → Takes (cxX P w K mg base N qual (defScope st) f cdv A outer s H E) (fun cls d _ H => E cls d H) → sp vs H Q E →
      ∃ t, PSs (cxX P w K mg base N qual (defScope st) f cdv A outer s H E) (defBody st) t ∧ t { nx := fun _ H' => Q .non H', rt := Q } (start N vs) H) : AtX P w K mg base (k + 1) f sp :=
  ⟨fd, ps, F.ok S len fun cdv A outer s H vs Q E hr h => hbody cdv A outer s H vs Q E hr (takes_of rfl rfl rfl rfl) h, F.kp, F.bindsN hb⟩
/-- a def that raises nothing is such a def -/
theorem At.toX (a : At P w K mg base k f sp) : AtX P w K mg base k f sp := by
  obtain ⟨fd, ps, F, kp, b⟩ := a.ex
  refine ⟨fd, ps, ⟨F.len, fun A outer s H args us vs Q E hr e0 hb r h => codeAny_mono (F.run A outer s H args us vs Q E hr e0 hb r h) fun res s' q => ?_⟩, kp, b⟩
  cases res with
  | error e => exact q.elim
  | ok fl => cases fl <;> exact q
end
section
variable {X : Cx} {k j : Nat} {C f : Addr} {x m : Str} {sp : Sp} {E : XK} {p pos apos : Pos} {e o : Expr} {es : List Expr} {ta : TE} {t : TA}
theorem passE0 {X : Cx} : Passes (L2.CX X.prog X.w) X C8.E0 := fun pins σ H s e s' I c => by
  obtain ⟨a, B, H', cls, d, _, _, _, _, _, _, _, z⟩ := c
  exact z.elim
/-- o.m(e, ..) -/
theorem pe_mtX {pl : Sem Bool} (F : AtX X.prog X.w X.K X.mg X.base k f sp) (c : Cls X.K C) (me : Meth X.K C m f) (hr : Room j X.A) (hk : k ≤ j) (hx : Passes (L2.CX X.prog X.w) X E) (he : PE X o ta) (ha : PA X (e :: es) t)
    (hst : starEach (e :: es) X.env = (false, eval e X.env) :: starEach es X.env := by rfl) (hpl : (backTo pos (starEach es X.env)).any (·.1) = false := by rfl)
    (ht : eval (.Call (.Attribute o m apos) (e :: es) [] pos) X.env = (do
      let ov ← eval o X.env
      standAt apos.atName
      let (f, first) ← holding [ov] (getMethod ov m pl)
      callWith pos f first (backTo pos (starEach (e :: es) X.env)) (backToKw pos (keywordEach [] X.env))) := by rfl) :
    PE X (.Call (.Attribute o m apos) (e :: es) [] pos) (tMeth C m sp [] E ta t) := by
  obtain ⟨fd, ps, F, kp, b⟩ := F.ex
  exact pe_meth (pl := pl) he c me F (hr.mono hk) b .nil hx ha hst hpl ht
theorem pe_mtX0 {pl : Sem Bool} (F : AtX X.prog X.w X.K X.mg X.base k f sp) (c : Cls X.K C) (me : Meth X.K C m f) (hr : Room j X.A) (hk : k ≤ j) (hx : Passes (L2.CX X.prog X.w) X E) (he : PE X o ta)
    (ht : eval (.Call (.Attribute o m apos) [] [] pos) X.env = (do
      let ov ← eval o X.env
      standAt apos.atName
      let (f, first) ← holding [ov] (getMethod ov m pl)
      callWith pos f first (backTo pos (starEach [] X.env)) (backToKw pos (keywordEach [] X.env))) := by rfl) :
    PE X (.Call (.Attribute o m apos) [] [] pos) (tMeth C m sp [] E ta tNil) := by
  obtain ⟨fd, ps, F, kp, b⟩ := F.ex
  exact pe_meth0 (pl := pl) he c me F (hr.mono hk) b .nil hx ht
theorem pe_cX (F : AtX X.prog X.w X.K X.mg X.base k f sp) (hm : X.mg x = some (.ref f)) (hr : Room j X.A) (hk : k ≤ j) (hg : Gl X x) (hx : Passes (L2.CX X.prog X.w) X E) (ha : PA X (e :: es) t)
    (hdb : (x == ("__debug__" : Str)) = false := by decide) (he : starEach (e :: es) X.env = (false, eval e X.env) :: starEach es X.env := by rfl) (hpl : (backTo pos (starEach es X.env)).any (·.1) = false := by rfl) :
    PE X (.Call (.Name x p) (e :: es) [] pos) (tCall sp [] E t) := by
  obtain ⟨fd, ps, F, kp, b⟩ := F.ex
  exact pe_call F (hr.mono hk) hg hm kp b .nil hx ha hdb he hpl
end
/-! ### the exceptions' own __init__ -/
def xvF (v : V) : List (Str × V) := [("value", v)]
def spXI (C : Addr) : Sp := fun vs H Q _ => ∃ (a : Addr) (v : V), vs = [.ref a, v] ∧ H a = some (exo a C none) ∧ ∀ dx, H dx = none → dx ≠ a → Q .non (upd (upd H dx (exd dx (xvF v))) a (exo a C (some dx)))
def spXN (C : Addr) : Sp := fun vs H Q _ => ∃ a : Addr, vs = [.ref a] ∧ H a = some (exo a C none) ∧ Q .non H
/-- what is told of an exception that carries v -/
def RaiseV (E : XK) (C : Addr) (v : V) (H : Hp) : Prop := ∀ dx H', Same H H' → H' dx = some (.xd (xvF v)) → E (.ref C) (some dx) H'
def RaiseN (E : XK) (C : Addr) (H : Hp) : Prop := ∀ H', Same H H' → E (.ref C) none H'
theorem RaiseV.same {E : XK} {C : Addr} {v : V} {H H' : Hp} (r : RaiseV E C v H) (s : Same H H') : RaiseV E C v H' := fun dx H2 s2 h => r dx H2 (s.trans s2) h
theorem mkx_val {C : Addr} {v : V} {H1 : Hp} {Q : XK} (q : RaiseV Q C v H1) : ∀ a, H1 a = none → spXI C (.ref a :: [v]) (upd H1 a (exo a C none))
    (fun v H2 => v = .non ∧ ((∃ (d : Addr) (fs : List (Str × V)), H2 a = some (exo a C (some d)) ∧ H2 d = some (exd d fs) ∧ H1 d = none ∧ Q (.ref C) (some d) (upd (del H2 a) d (.xd fs))) ∨ (H2 a = some (exo a C none) ∧ Q (.ref C) none (del H2 a)))) C8.E0 := by
  intro a ha
  refine ⟨a, v, rfl, upd_same, fun dx hdx hne => ⟨rfl, .inl ⟨dx, xvF v, upd_same, by rw [upd_ne hne, upd_same], by rw [upd_ne hne] at hdx; exact hdx, q dx _ ?_ upd_same⟩⟩⟩
  intro b o hb
  have h1 : b ≠ a := ne_of_none hb ha
  have h2 : b ≠ dx := ne_of_none (a := b) (H := upd H1 a (exo a C none)) (by rw [upd_ne h1]; exact hb) hdx
  rw [upd_ne h2, del_ne h1, upd_ne h1, upd_ne h2, upd_ne h1]
  exact hb
theorem mkx_non {C : Addr} {H1 : Hp} {Q : XK} (q : RaiseN Q C H1) : ∀ a, H1 a = none → spXN C [.ref a] (upd H1 a (exo a C none))
    (fun v H2 => v = .non ∧ ((∃ (d : Addr) (fs : List (Str × V)), H2 a = some (exo a C (some d)) ∧ H2 d = some (exd d fs) ∧ H1 d = none ∧ Q (.ref C) (some d) (upd (del H2 a) d (.xd fs))) ∨ (H2 a = some (exo a C none) ∧ Q (.ref C) none (del H2 a)))) C8.E0 := by
  intro a ha
  refine ⟨a, rfl, upd_same, rfl, .inr ⟨upd_same, q _ fun b o hb => ?_⟩⟩
  have h1 : b ≠ a := ne_of_none hb ha
  rw [del_ne h1, upd_ne h1]
  exact hb
/-- an exception class of the text, ready to be raised -/
structure XcC (K : PySem.W.Frag) (C f : Addr) (newId B2 i2 : String) (bt : List Value) : Prop where
  ox : Ox K C newId B2 i2 bt
  me : PySem.W.findIn K (.ref C) "__init__" = some (some (.ref f))
  ti : PySem.W.typeIn K (.ref f) = some (.type "function")
  nv : NoAttr K C "value"
theorem scXI (i : Nat) (h : C8.scC ["self", "value"] ["self", "value"] (defScope (mth (topS i) 0)) = true) : FnScope ["self", "value"] ["self", "value"] (defScope (mth (topS i) 0)) := C8.fnScope_by h
section
variable {P : Program} {w : World} {K : PySem.W.Frag} {mg : Str → Option Value} {base : Heap} {f C D : Addr} {fd : FuncData}
theorem ok_xNo (F : FnQ K "__init__" "NoName.__init__" (mth (topS 11) 0) f fd) (T : XcC K C f "LookupError.__new__" "KeyError" "KeyError.__init__" PySem.F.keB) (hm : mg "KeyError" = none) (fc : PySem.W.findCls K (.type "KeyError") (.type "type") "__init__" = some (.val (.builtin "KeyError.__init__"))) : At P w K mg base 1 f (spXI C) := by
  have sc := scXI 11 (by decide +kernel)
  refine atP F sc (fun _ _ _ _ _ _ us hl => match us, hl with | [_, _], _ => rfl) (fun vs H Q E h => ?_) (fun cdv A outer s H vs Q E hr h => ?_)
  · obtain ⟨a, v, rfl, _⟩ := h
    rfl
  · obtain ⟨a, v, rfl, ha, k⟩ := h
    refine ⟨_, pss_cons (ps_expr (pe_iniB (C := C) T.ox (by rfl) hm (by decide +kernel) (by decide) (by decide) (by kernel_rfl) (by decide +kernel) fc (pa_cons (pv 0) (pa_cons (pv 1) pa_nil)))) (pss_one (ps_ox T.ox (pv 0) (pv 1))), ?_⟩
    exact ⟨_, rfl, _, rfl, a, [v], rfl, by show 1 ≤ 1000; decide, ha, _, rfl, _, rfl, a, rfl, T.nv, ha, k⟩
theorem ok_xBl (F : FnQ K "__init__" "Blocked.__init__" (mth (topS 9) 0) f fd) (T : XcC K C f "RuntimeError.__new__" "RuntimeError" "RuntimeError.__init__" [.type "RuntimeError", .type "Exception", .type "BaseException", .type "object"]) (hm : mg "RuntimeError" = none)
    (fc : PySem.W.findCls K (.type "RuntimeError") (.type "type") "__init__" = some (.val (.builtin "RuntimeError.__init__"))) : At P w K mg base 1 f (spXI C) := by
  have sc := scXI 9 (by decide +kernel)
  refine atP F sc (fun _ _ _ _ _ _ us hl => match us, hl with | [_, _], _ => rfl) (fun vs H Q E h => ?_) (fun cdv A outer s H vs Q E hr h => ?_)
  · obtain ⟨a, v, rfl, _⟩ := h
    rfl
  · obtain ⟨a, v, rfl, ha, k⟩ := h
    refine ⟨_, pss_cons (ps_expr (pe_iniB (C := C) T.ox (by rfl) hm (by decide +kernel) (by decide) (by decide) (by kernel_rfl) (by decide +kernel) fc (pa_cons (pv 0) (pa_cons (pv 1) pa_nil)))) (pss_one (ps_ox T.ox (pv 0) (pv 1))), ?_⟩
    exact ⟨_, rfl, _, rfl, a, [v], rfl, by show 1 ≤ 1000; decide, ha, _, rfl, _, rfl, a, rfl, T.nv, ha, k⟩
theorem ok_xOu {mc : Value} (F : FnQ K "__init__" "Outside.__init__" (mth (topS 7) 0) f fd) (T : XcC K C f "ValueError.__new__" "ValueError" "ValueError.__init__" [.type "ValueError", .type "Exception", .type "BaseException", .type "object"]) (hm : mg "BoxError" = some (.ref D)) (r : CRead K D mc)
    (fc : PySem.W.findCls K (.ref D) mc "__init__" = some (.val (.builtin "ValueError.__init__"))) : At P w K mg base 1 f (spXI C) := by
  have sc := scXI 7 (by decide +kernel)
  refine atP F sc (fun _ _ _ _ _ _ us hl => match us, hl with | [_, _], _ => rfl) (fun vs H Q E h => ?_) (fun cdv A outer s H vs Q E hr h => ?_)
  · obtain ⟨a, v, rfl, _⟩ := h
    rfl
  · obtain ⟨a, v, rfl, ha, k⟩ := h
    refine ⟨_, pss_cons (ps_expr (pe_iniO (C := C) (D := D) T.ox (pe_glob (v := .ref D) (by rfl) hm rfl) r fc (pa_cons (pv 0) (pa_cons (pv 1) pa_nil)))) (pss_one (ps_ox T.ox (pv 0) (pv 1))), ?_⟩
    exact ⟨rfl, _, rfl, _, rfl, a, [v], rfl, by show 1 ≤ 1000; decide, ha, _, rfl, _, rfl, a, rfl, T.nv, ha, k⟩
theorem ok_xNl (F : FnQ K "__init__" "NothingLeft.__init__" (mth (topS 12) 0) f fd) (T : XcC K C f "IndexError.__new__" "IndexError" "IndexError.__init__" [.type "IndexError", .type "LookupError", .type "Exception", .type "BaseException", .type "object"]) (hm : mg "IndexError" = none)
    (fc : PySem.W.findCls K (.type "IndexError") (.type "type") "__init__" = some (.val (.builtin "IndexError.__init__"))) : At P w K mg base 1 f (spXN C) := by
  have sc : FnScope ["self"] ["self"] (defScope (mth (topS 12) 0)) := C8.fnScope_by (by decide +kernel)
  refine atP F sc (fun _ _ _ _ _ _ us hl => match us, hl with | [_], _ => rfl) (fun vs H Q E h => ?_) (fun cdv A outer s H vs Q E hr h => ?_)
  · obtain ⟨a, rfl, _⟩ := h
    rfl
  · obtain ⟨a, rfl, ha, k⟩ := h
    refine ⟨_, pss_one (ps_expr (pe_iniB (C := C) T.ox (by rfl) hm (by decide +kernel) (by decide) (by decide) (by kernel_rfl) (by decide +kernel) fc (pa_cons (pv 0) (pa_cons pe_str pa_nil)))), ?_⟩
    exact ⟨_, rfl, a, [_], rfl, by show 1 ≤ 1000; decide, ha, k⟩
end
end BX
end
section
set_option Elab.async false
set_option linter.all false
set_option maxRecDepth 100000
set_option maxHeartbeats 4000000
namespace BX
open PySem PySem.Spec PyProof.Rows L2 ClX
def logD (log : List Ent) : List PyData := log.map fun e => .tuple [.str e.user, .str e.word, .str e.name]
def wholeM (kept : List (Str × Rgn)) : Rgn := kept.foldl (fun a e => united a e.2) ([], false)
def spLog (K : PySem.W.Frag) (CR C : Addr) : Sp := fun vs H Q _ => ∃ (p dx d l : Addr) (fx : List (Str × V)) (st : Rm), vs = [.ref p] ∧ RoomAt K CR C fx H p dx d l st ∧ st.log.length ≤ 500 ∧
  ∀ r xs H', Same H H' → H r = none → H' r = some (.lst xs) → DpAll K H' xs (logD st.log) → Q (.ref r) H'
def spWhole (K : PySem.W.Frag) (CR C : Addr) : Sp := fun vs H Q _ => ∃ (p dx d l : Addr) (fx : List (Str × V)) (st : Rm), vs = [.ref p] ∧ RoomAt K CR C fx H p dx d l st ∧ (st.kept.map (·.1)).Nodup ∧
  ∀ z H', Same H H' → RegAt K CR H' z (wholeM st.kept) → Q z H'
def spRmLen (K : PySem.W.Frag) (CR C : Addr) : Sp := fun vs H Q _ => ∃ (p dx d l : Addr) (fx : List (Str × V)) (st : Rm), vs = [.ref p] ∧ RoomAt K CR C fx H p dx d l st ∧ Q (.int (st.kept.length : Nat)) H
def spChkN (K : PySem.W.Frag) (CR C CN : Addr) : Sp := fun vs H Q E => ∃ (p dx d l : Addr) (fx : List (Str × V)) (st : Rm) (n : Str), vs = [.ref p, .str n] ∧ RoomAt K CR C fx H p dx d l st ∧
  (getM st.kept n = none → RaiseV E CN (.str n) H) ∧ ((getM st.kept n).isSome = true → Q .non H)
def spRgn (K : PySem.W.Frag) (CR C CN : Addr) : Sp := fun vs H Q E => ∃ (p dx d l : Addr) (fx : List (Str × V)) (st : Rm) (n : Str), vs = [.ref p, .str n] ∧ RoomAt K CR C fx H p dx d l st ∧
  (getM st.kept n = none → RaiseV E CN (.str n) H) ∧ (∀ r v, getM st.kept n = some r → RegAt K CR H v r → Q v H)
abbrev nLog : List Str := ["self", "user", "word", "name", "before"]
theorem scLog : FnScope nLog ["self"] (defScope (mth sRoom 13)) := C8.fnScope_by (by decide +kernel)
theorem scWhole : FnScope ["self", "found", "name"] ["self"] (defScope (mth sRoom 14)) := C8.fnScope_by (by decide +kernel)
theorem scRmLen : FnScope ["self"] ["self"] (defScope (mth sRoom 19)) := C8.fnScope_by (by decide +kernel)
theorem scChkN : FnScope ["self", "name"] ["self", "name"] (defScope (mth sRoom 3)) := C8.fnScope_by (by decide +kernel)
theorem scRgn : FnScope ["self", "name"] ["self", "name"] (defScope (mth sRoom 11)) := C8.fnScope_by (by decide +kernel)
/-- the i-th key with its region -/
theorem kept_at {K : PySem.W.Frag} {CR : Addr} {H : Hp} {kk : Key} {vv : V} {m : Str} {r : Rgn} : ∀ {kvs : List (Key × V)} {kept : List (Str × Rgn)} {i : Nat}, KeptAt K CR H kvs kept → kvs[i]? = some (kk, vv) → kept[i]? = some (m, r) → kk = .inr m ∧ RegAt K CR H vv r
  | [], _, _, _, e, _ => by simp at e
  | _ :: _, _ :: _, 0, .cons q _, e1, e2 => by
    simp at e1 e2
    subst e1 e2
    exact q
  | _ :: _, _ :: _, i + 1, .cons _ rest, e1, e2 => kept_at (i := i) rest (by simpa using e1) (by simpa using e2)
section
variable {P : Program} {w : World} {K : PySem.W.Frag} {mg : Str → Option Value} {base : Heap} {f CR C CN fN fO fE pE : Addr} {fd : FuncData}
theorem ok_log (F : FnQ K "log" "Room.log" (mth sRoom 13) f fd) (R : RmC K C) : At P w K mg base 1 f (spLog K CR C) := by
  refine atP F scLog (fun _ _ _ _ _ _ us hl => match us, hl with | [_], _ => rfl) (fun vs H Q E h => ?_) (fun cdv A outer s H vs Q E hr h => ?_)
  · obtain ⟨p, dx, d, l, fx, st, rfl, _⟩ := h
    rfl
  · obtain ⟨p, dx, d, l, fx, st, rfl, hR, ll, k⟩ := h
    refine ⟨_, pss_one (ps_ret (pe_lc (own := [("user", 1), ("word", 2), ("name", 3), ("before", 4)]) (g := gTup K 4 (gCons (gName 1) (gCons (gName 2) (gCons (gName 3) (gCons (gName 4) gNil))))) rfl scLog.nd (pi_list (pe_fld (pv 0) rfl)) (blkOk_by (by kernel_rfl))
        (fun _ _ _ _ _ => pg_tup (n := 4) rfl (pgs_cons (pg_name (i := 1) scLog.nd rfl (Or.inl rfl) (.inr rfl)) (pgs_cons (pg_name (i := 2) scLog.nd rfl (Or.inl rfl) (.inr rfl)) (pgs_cons (pg_name (i := 3) scLog.nd rfl (Or.inl rfl) (.inr rfl)) (pgs_cons (pg_name (i := 4) scLog.nd rfl (Or.inl rfl) (.inr rfl)) pgs_nil)))))
        (fun _ _ _ _ _ => pts_nil) (fun _ _ _ _ _ => pe_tup (pa_cons (pv 1) (pa_cons (pv 2) (pa_cons (pv 3) pa_nil)))))), ?_⟩
    obtain ⟨_, xs, hl, hlog⟩ := hR.ex
    have lx : xs.length = st.log.length := hlog.length
    refine ⟨_, rfl, p, C, dx, _, _, rfl, hR.obj, R.i.cl, R.nc, rfl, l, rfl, ⟨xs, SqL.of hl⟩, fun D hD => walkW (walk_list (xs := xs)) (fun i H' => Same H H' ∧ ∃ ys, H' D = some (.lst ys) ∧ DpAll K H' ys (logD (st.log.take i)) ∧ ys.length = i) ⟨Same.upd1 hD, [], upd_same, .nil, rfl⟩ (fun i H' _ q => SqL.of (q.1 _ _ hl)) ?_ ?_⟩
    · rintro i y H1 H2 hi ⟨s1, ys, e1, hys, ly⟩ ⟨rfl, hy⟩
      have hi' : i < st.log.length := by omega
      have he : st.log[i]? = some st.log[i] := List.getElem?_eq_getElem hi'
      generalize hE : st.log[i] = en at he
      have : ∀ {xs : List V} {log : List Ent} {i : Nat}, LogAt K CR H xs log → xs[i]? = some y → log[i]? = some en → ∃ t v, y = V.ref t ∧ H t = some (.tup [.str en.user, .str en.word, .str en.name, v]) := by
        intro xs log i h
        induction h generalizing i with
        | nil => intro e; simp at e
        | cons q rest ih =>
          intro a b
          cases i with
          | zero =>
            simp at a b
            subst a b
            obtain ⟨t, v, e, ht, _⟩ := q
            exact ⟨t, v, e, ht⟩
          | succ j => exact ih (by simpa using a) (by simpa using b)
      obtain ⟨t, v, rfl, ht⟩ := this hlog hy he
      refine ⟨t, _, rfl, SqT.of (s1 _ _ ht), rfl, _, _, rfl, _, _, rfl, _, _, rfl, _, _, rfl, rfl, by kernel_rfl, ?_⟩
      refine ⟨_, rfl, _, rfl, _, rfl, (by show 3 ≤ sizeLine; decide), fun r hr' => ?_⟩
      have sr : Same H2 (upd H2 r (.tup [.str en.user, .str en.word, .str en.name])) := Same.upd1 hr'
      have hrD : r ≠ D := fun z => by rw [z, e1] at hr'; cases hr'
      refine ⟨ys, sr _ _ e1, Nat.lt_of_le_of_lt (by omega : ys.length ≤ 500) (by decide), Same.updN (s1.trans sr) hD, ys ++ [.ref r], upd_same, ?_, by rw [List.length_append, ly]; rfl⟩
      rw [take_succ' he]
      unfold logD
      rw [List.map_append]
      refine all_snoc (DpAll.tk (TK.upd sr e1) _ _ ?_ hys) (.tup (SqT.of (by rw [upd_ne hrD, upd_same])) (.cons (.str _) (.cons (.str _) (.cons (.str _) .nil))))
      have : ∀ l : List Ent, tupAll (logD l) = true := by
        intro l
        induction l with
        | nil => rfl
        | cons e l ih =>
          show (true && tupAll (logD l)) = true
          rw [ih]; rfl
      exact this _
    · rintro H1 ⟨s1, ys, e1, hys, _⟩
      rw [lx, List.take_length] at hys
      exact k D ys H1 s1 hD e1 hys
theorem ok_whole (F : FnQ K "whole" "Room.whole" (mth sRoom 14) f fd) (R : RmC K C) (G : RegC K mg CR) (hO : At P w K mg base 5 fO (spUni K CR)) (sf : PySem.W.selfFirst K CR = true) (mO : Meth K CR "__or__" fO) {mc : Value} (hE : At P w K mg base 3 fE (spREmp K CR)) (cr : CRead K CR mc) (sm : SMet K CR mc "empty" pE fE) :
    At P w K mg base 6 f (spWhole K CR C) := by
  refine atP F scWhole (fun _ _ _ _ _ _ us hl => match us, hl with | [_], _ => rfl) (fun vs H Q E h => ?_) (fun cdv A outer s H vs Q E hr h => ?_)
  · obtain ⟨p, dx, d, l, fx, st, rfl, _⟩ := h
    rfl
  · obtain ⟨p, dx, d, l, fx, st, rfl, hR, nd, k⟩ := h
    have hu : _ + 1 < cLine := Nat.lt_of_le_of_lt (Nat.add_le_add_left (by decide : 1 ≤ 64) _) hr.units
    refine ⟨_, pss_cons (ps_set (i := 1) scWhole.nd rfl (Or.inl rfl) (pe_sm0 hE hr (by omega) (pe_glob (v := .ref CR) (by rfl) G.g rfl) cr sm))
      (pss_cons (ps_lock (ps_for PassesOwn.never rfl (pi_keys (pe_fld (pv 0) rfl)) (pg_name (i := 2) scWhole.nd rfl (Or.inl rfl))
        (pss_one (ps_set (i := 1) scWhole.nd rfl (Or.inl rfl) (pe_op (op_own hO hr sf mO) (pv 1) (pe_dget hu (pe_fld (pv 0) rfl) (pv 2) (fun _ _ => rfl)))))))
      (pss_one (ps_ret (pv 1)))), ?_⟩
    obtain ⟨⟨kvs, hd, hk⟩, _⟩ := hR.ex
    have lkv := kept_len hk
    have hpd : p ≠ d := ne_of hR.obj hd (by intro z; cases z)
    refine ⟨rfl, rfl, fun z H1 s1 hz => ⟨d, .dK kvs, s1 _ _ hd, trivial, fun od => ?_⟩⟩
    have d1 := s1 _ _ hd
    generalize hHl : upd H1 d (.frz od (.dK kvs)) = Hl
    have pl : Hl p = some (.ins C dx (roomF d l fx)) := by rw [← hHl, upd_ne hpd]; exact s1 _ _ hR.obj
    have dl : Hl d = some (.frz od (.dK kvs)) := by rw [← hHl, upd_same]
    have krl : Kr CR H1 Hl := by rw [← hHl]; exact Kr.lock d1
    refine ⟨_, rfl, p, C, dx, _, _, rfl, pl, R.i.cl, R.nk, rfl, d, od, rfl, .inl ⟨kvs, dl, ?_⟩⟩
    refine walkF (walk_keys (d := d) (o := od) (kvs := kvs)) (fun i σ H' => ∃ (y : V) (x2 : Option V), σ = [some (.ref p), some y, x2] ∧ Same Hl H' ∧ RegAt K CR H' y ((st.kept.take i).foldl (fun a e => united a e.2) ([], false))) ⟨z, none, rfl, Same.refl _, hz.kr krl⟩ (fun i σ H' _ q => ?_) ?_ ?_
    · obtain ⟨_, _, _, q, _⟩ := q
      exact q _ _ dl
    · rintro i y σ H2 H3 hi ⟨a, x2, rfl, s2, ha⟩ ⟨rfl, kk, vv, hkv, rfl⟩
      have hi' : i < st.kept.length := by omega
      obtain ⟨⟨m, r⟩, hm⟩ : ∃ e, st.kept[i]? = some e := ⟨_, List.getElem?_eq_getElem hi'⟩
      obtain ⟨rfl, hvv⟩ := kept_at hk hkv hm
      have hv2 : RegAt K CR H3 vv r := hvv.kr ((Kr.of s1).trans (krl.trans (Kr.of s2)))
      have gv : valV kvs (.inr m) = some vv := by
        have : ∀ {kvs : List (Key × V)} {kept : List (Str × Rgn)} {i : Nat}, KeptAt K CR H kvs kept → (kept.map (·.1)).Nodup → kvs[i]? = some (.inr m, vv) → kept[i]? = some (m, r) → valV kvs (.inr m) = some vv := by
          intro kvs kept i h
          induction h generalizing i with
          | nil => intro _ e; simp at e
          | @cons q e qs es hq rest ih =>
            intro nd a b
            cases i with
            | zero =>
              simp at a b
              subst a b
              exact valV_pos rfl
            | succ j =>
              have b' : es[j]? = some (m, r) := by simpa using b
              have nd' := List.nodup_cons.mp (show (e.1 :: es.map (·.1)).Nodup from nd)
              have ne : ¬ q.1 = .inr m := fun z => by
                rw [hq.1] at z
                exact nd'.1 (List.mem_map.mpr ⟨(m, r), List.mem_of_getElem? b', (Sum.inr.inj z).symm⟩)
              rw [valV_neg ne]
              exact ih nd'.2 (by simpa using a) b'
        exact this hk nd hkv hm
      obtain ⟨xa, dxa, fva, rfl, hxa, hfa⟩ := ha
      obtain ⟨xb, dxb, fvb, rfl, hxb, hfb⟩ := hv2
      refine ⟨_, rfl, _, rfl, p, C, dx, _, _, rfl, s2 _ _ pl, R.i.cl, R.nk, rfl, _, rfl, d, _, rfl, .inl ⟨kvs, .inr m, .inr ⟨od, s2 _ _ dl⟩, rfl, gv.symm⟩, ?_⟩
      refine ⟨xa, xb, dxa, dxb, _, _, rfl, rfl, hxa, hxb, V.ref xa, V.ref xb, _, _, rfl, ⟨xa, dxa, fva, rfl, hxa, hfa⟩, ⟨xb, dxb, fvb, rfl, hxb, hfb⟩, fun y H4 s4 hy => ?_⟩
      refine ⟨y, _, rfl, s2.trans s4, ?_⟩
      rw [take_succ' hm, List.foldl_append]
      exact hy
    · rintro σ H2 ⟨a, x2, rfl, s2, ha⟩
      rw [lkv, List.take_length] at ha
      refine ⟨s2 _ _ dl, _, rfl, k a _ ?_ (ha.kr (Kr.unlock (s2 _ _ dl)))⟩
      exact s1.trans (lock_same (o := .frz od (.dK kvs)) d1 (by rw [hHl]; exact s2))
theorem ok_rmLen (F : FnQ K "__len__" "Room.__len__" (mth sRoom 19) f fd) (R : RmC K C) (B : Bt mg) : At P w K mg base 1 f (spRmLen K CR C) := by
  refine atP F scRmLen (fun _ _ _ _ _ _ us hl => match us, hl with | [_], _ => rfl) (fun vs H Q E h => ?_) (fun cdv A outer s H vs Q E hr h => ?_)
  · obtain ⟨p, dx, d, l, fx, st, rfl, _⟩ := h
    rfl
  · obtain ⟨p, dx, d, l, fx, st, rfl, hR, k⟩ := h
    obtain ⟨⟨kvs, hd, hk⟩, _⟩ := hR.ex
    refine ⟨_, pss_one (ps_ret (pe_callB call_lenD (by rfl) B.len (by decide +kernel) (pa_cons (pe_fld (pv 0) rfl) pa_nil))), ?_⟩
    refine ⟨_, rfl, p, C, dx, _, _, rfl, hR.obj, R.i.cl, R.nk, rfl, d, kvs, rfl, hd, ?_⟩
    rw [kept_len hk]
    exact k
theorem ok_chkN (F : FnQ K "check_name" "Room.check_name" (mth sRoom 3) f fd) (R : RmC K C) (B : Bt mg) (T : XcC K CN fN "LookupError.__new__" "KeyError" "KeyError.__init__" PySem.F.keB) (gN : mg "NoName" = some (.ref CN)) (iN : At P w K mg base 1 fN (spXI CN)) : AtX P w K mg base 3 f (spChkN K CR C CN) := by
  refine atR F scChkN (fun _ _ _ _ _ _ us hl => match us, hl with | [_, _], _ => rfl) (fun vs H Q E h => ?_) (fun cdv A outer s H vs Q E hr tk h => ?_)
  · obtain ⟨p, dx, d, l, fx, st, n, rfl, _⟩ := h
    rfl
  · obtain ⟨p, dx, d, l, fx, st, n, rfl, hR, kE, kQ⟩ := h
    have hu : _ + 1 < cLine := Nat.lt_of_le_of_lt (Nat.add_le_add_left (by decide : 1 ≤ 64) _) hr.units
    obtain ⟨⟨kvs, hd, hk⟩, _⟩ := hR.ex
    refine ⟨_, pss_one (ps_if (PW.pt (pw_or (pt_not (pt_val (pe_callB call_isi (by rfl) B.isinstance (by decide +kernel) (pa_cons (pv 1) (pa_cons (pe_bltn (v := .ty "str") (by rfl) B.str (by decide +kernel) rfl) pa_nil)))))
        (pw_or1 (pt_cmp (pc_dnotin hu (pv 1) (pe_fld (pv 0) rfl)) (by with_unfolding_all rfl))))) (pss_one (ps_raise rfl tk (pmk_ox T.ox T.me T.ti iN hr (by omega) (by rfl) gN (pa_cons (pv 1) pa_nil)))) pss_nil), ?_⟩
    refine ⟨_, rfl, .str n, .ty "str", _, _, true, rfl, .ty _, .base (.str n), kit_ty (by decide +kernel), _, rfl, iteF ?_⟩
    refine ⟨_, rfl, _, rfl, p, C, dx, _, _, rfl, hR.obj, R.i.cl, R.nk, rfl, d, valV kvs (.inr n), rfl, .inl ⟨kvs, .inr n, .inl hd, rfl, rfl⟩, _, rfl, ?_⟩
    rcases kept_get (n := n) hk with ⟨g0, g1⟩ | ⟨r, v, g0, g1, _⟩
    · rw [g1]
      refine iteT ⟨_, rfl, by show 1 ≤ 1000; decide, ?_⟩
      exact mkx_val (kE g0)
    · rw [g1]
      exact iteF (kQ (by rw [g0]; rfl))
theorem ok_rgn (F : FnQ K "region" "Room.region" (mth sRoom 11) f fd) (R : RmC K C) (hN : AtX P w K mg base 3 fN (spChkN K CR C CN)) (mN : Meth K C "check_name" fN) : AtX P w K mg base 4 f (spRgn K CR C CN) := by
  refine atR F scRgn (fun _ _ _ _ _ _ us hl => match us, hl with | [_, _], _ => rfl) (fun vs H Q E h => ?_) (fun cdv A outer s H vs Q E hr tk h => ?_)
  · obtain ⟨p, dx, d, l, fx, st, n, rfl, _⟩ := h
    rfl
  · obtain ⟨p, dx, d, l, fx, st, n, rfl, hR, kE, kQ⟩ := h
    have hu : _ + 1 < cLine := Nat.lt_of_le_of_lt (Nat.add_le_add_left (by decide : 1 ≤ 64) _) hr.units
    obtain ⟨⟨kvs, hd, hk⟩, _⟩ := hR.ex
    refine ⟨_, pss_cons (ps_expr (pe_mtX hN R.i.cl mN hr (by omega) (passes_call tk fun _ _ _ _ z => z) (pv 0) (pa_cons (pv 1) pa_nil)))
      (pss_one (ps_ret (pe_dget hu (pe_fld (pv 0) rfl) (pv 1) (fun _ _ => rfl)))), ?_⟩
    refine ⟨_, rfl, p, dx, _, rfl, hR.obj, hR.fxo.look (by decide) (by decide) (by decide), _, rfl, p, dx, d, l, fx, st, n, rfl, hR, kE, fun hs => ?_⟩
    rcases kept_get (n := n) hk with ⟨g0, g1⟩ | ⟨r, v, g0, g1, g2⟩
    · rw [g0] at hs; cases hs
    · exact ⟨_, rfl, p, C, dx, _, _, rfl, hR.obj, R.i.cl, R.nk, rfl, _, rfl, d, v, rfl, .inl ⟨kvs, .inr n, .inl hd, rfl, g1.symm⟩, kQ r v g0 g2⟩
end
end BX
end
section
set_option Elab.async false
set_option linter.all false
set_option maxRecDepth 100000
set_option maxHeartbeats 4000000
namespace BX
open PySem PySem.Spec PyProof.Rows L2 ClX
/-! ### what the calls give -/
inductive Out where
  | told (v : Option Str) (st : Rm)
  | name (n : Str)
  | blocked (n : Str)
  | nothing
  | outside (n : Str)
def b0 : Bx := (0, 0, 7, 6)
def boxR : Rgn := (slabsOf [b0], false)
def okIn (fix : Bool) (r : Rgn) : Bool := if fix = true then within r boxR else true
def putM (fix : Bool) (st : Rm) (u n : Str) (r : Rgn) : Out := if okIn fix r = true then .told none (replaceM st u "put" n (some r)) else .outside n
def joinM (fix : Bool) (st : Rm) (u n : Str) (r : Rgn) : Out := match getM st.kept n with
  | none => .name n
  | some k => if okIn fix (united k r) = true then .told none (replaceM st u "join" n (some (united k r))) else .outside n
def cutM (st : Rm) (u n : Str) (r : Rgn) : Out := match getM st.kept n with
  | none => .name n
  | some k => .told none (replaceM st u "cut" n (some (minus k r)))
def dropM (st : Rm) (u n : Str) : Out := match getM st.kept n with
  | none => .name n
  | some _ => .told none (replaceM st u "drop" n none)
/-- the classes' addresses -/
structure Ad where
  CR : Addr
  CN : Addr
  CO : Addr
  CB : Addr
  CL : Addr
def FxAt (K : PySem.W.Frag) (H : Hp) (fix : Bool) (fx : List (Str × V)) : Prop := if fix = true then ∃ t, fx = [(("own_frame" : Str), V.ref t)] ∧ SqT K H t (boxT b0) else fx = []
theorem FxAt.tk {K : PySem.W.Frag} {H H' : Hp} {fix : Bool} {fx : List (Str × V)} (s : TK H H') (h : FxAt K H fix fx) : FxAt K H' fix fx := by
  cases fix with
  | true =>
    obtain ⟨t, e, ht⟩ : ∃ t, fx = [(("own_frame" : Str), V.ref t)] ∧ SqT K H t (boxT b0) := h
    exact ⟨t, e, s.seq ht⟩
  | false => exact h
def oV : Option Str → V
  | none => .non
  | some n => .str n
def RmRes (K : PySem.W.Frag) (ad : Ad) (C : Addr) (fx : List (Str × V)) (H : Hp) (p dx : Addr) (Q : VK) (E : XK) : Out → Prop
  | .told v st => ∀ d' l' H', Kp p H H' → H l' = none → RoomAt K ad.CR C fx H' p dx d' l' st → Q (oV v) H'
  | .name n => RaiseV E ad.CN (.str n) H
  | .blocked n => RaiseV E ad.CB (.str n) H
  | .nothing => RaiseN E ad.CL H
  | .outside n => RaiseV E ad.CO (.str n) H
/-- a room with what the calls ask of it -/
structure RmIn (K : PySem.W.Frag) (ad : Ad) (C : Addr) (fix : Bool) (fx : List (Str × V)) (H : Hp) (p dx d l : Addr) (st : Rm) : Prop where
  at_ : RoomAt K ad.CR C fx H p dx d l st
  fxa : FxAt K H fix fx
  nd : (st.kept.map (·.1)).Nodup
  lk : st.kept.length < 20
  ll : st.log.length ≤ 500
theorem RmIn.same {K : PySem.W.Frag} {ad : Ad} {C : Addr} {fix : Bool} {fx : List (Str × V)} {H H' : Hp} {p dx d l : Addr} {st : Rm} (r : RmIn K ad C fix fx H p dx d l st) (s : Same H H') : RmIn K ad C fix fx H' p dx d l st := ⟨r.at_.same s, r.fxa.tk (TK.of s), r.nd, r.lk, r.ll⟩
def spIns (K : PySem.W.Frag) (ad : Ad) (C : Addr) (fix : Bool) : Sp := fun vs H Q E => ∃ (p dx d l : Addr) (fx : List (Str × V)) (st : Rm) (n : Str) (v : V) (r : Rgn), vs = [.ref p, .str n, v] ∧ RoomAt K ad.CR C fx H p dx d l st ∧ FxAt K H fix fx ∧ RegAt K ad.CR H v r ∧
  (okIn fix r = true → ∀ H', Same H H' → Q .non H') ∧ (okIn fix r = false → RaiseV E ad.CO (.str n) H)
def spPut (K : PySem.W.Frag) (ad : Ad) (C : Addr) (fix : Bool) : Sp := fun vs H Q E => ∃ (p dx d l : Addr) (fx : List (Str × V)) (st : Rm) (u n : Str) (v : V) (r : Rgn), vs = [.ref p, .str u, .str n, v] ∧ RmIn K ad C fix fx H p dx d l st ∧ okW u = true ∧ okW n = true ∧ RegAt K ad.CR H v r ∧
  RmRes K ad C fx H p dx Q E (putM fix st u n r)
def spJoin (K : PySem.W.Frag) (ad : Ad) (C : Addr) (fix : Bool) : Sp := fun vs H Q E => ∃ (p dx d l : Addr) (fx : List (Str × V)) (st : Rm) (u n : Str) (v : V) (r : Rgn), vs = [.ref p, .str u, .str n, v] ∧ RmIn K ad C fix fx H p dx d l st ∧ okW u = true ∧ okW n = true ∧ RegAt K ad.CR H v r ∧
  RmRes K ad C fx H p dx Q E (joinM fix st u n r)
def spCut (K : PySem.W.Frag) (ad : Ad) (C : Addr) (fix : Bool) : Sp := fun vs H Q E => ∃ (p dx d l : Addr) (fx : List (Str × V)) (st : Rm) (u n : Str) (v : V) (r : Rgn), vs = [.ref p, .str u, .str n, v] ∧ RmIn K ad C fix fx H p dx d l st ∧ okW u = true ∧ okW n = true ∧ RegAt K ad.CR H v r ∧
  RmRes K ad C fx H p dx Q E (cutM st u n r)
def spDrop (K : PySem.W.Frag) (ad : Ad) (C : Addr) (fix : Bool) : Sp := fun vs H Q E => ∃ (p dx d l : Addr) (fx : List (Str × V)) (st : Rm) (u n : Str), vs = [.ref p, .str u, .str n] ∧ RmIn K ad C fix fx H p dx d l st ∧ okW u = true ∧ okW n = true ∧
  RmRes K ad C fx H p dx Q E (dropM st u n)
theorem scIns0 : FnScope ["self", "name", "region"] ["self", "name", "region"] (defScope (mth sRoom 4)) := C8.fnScope_by (by decide +kernel)
abbrev four : List Str := ["self", "user", "name", "region"]
theorem scPut : FnScope four four (defScope (mth sRoom 6)) := C8.fnScope_by (by decide +kernel)
theorem scJoin : FnScope ["self", "user", "name", "region", "found"] four (defScope (mth sRoom 7)) := C8.fnScope_by (by decide +kernel)
theorem scCut : FnScope four four (defScope (mth sRoom 8)) := C8.fnScope_by (by decide +kernel)
theorem scDrop : FnScope ["self", "user", "name"] ["self", "user", "name"] (defScope (mth sRoom 9)) := C8.fnScope_by (by decide +kernel)
section
variable {P : Program} {w : World} {K : PySem.W.Frag} {mg : Str → Option Value} {base : Heap} {f C fN fO fI fRp : Addr} {fd : FuncData} {ad : Ad} {fix : Bool}
theorem ok_ins0 (F : FnQ K "check_inside" "Room.check_inside" (mth sRoom 4) f fd) (CK : C8.Cal P w K mg base 1 "check_region" (spChkR K ad.CR) []) : AtX P w K mg base 2 f (spIns K ad C false) := by
  refine At.toX (atP F scIns0 (fun _ _ _ _ _ _ us hl => match us, hl with | [_, _, _], _ => rfl) (fun vs H Q E h => ?_) (fun cdv A outer s H vs Q E hr h => ?_))
  · obtain ⟨p, dx, d, l, fx, st, n, v, r, rfl, _⟩ := h
    rfl
  · obtain ⟨p, dx, d, l, fx, st, n, v, r, rfl, hR, _, hv, kQ, _⟩ := h
    refine ⟨_, pss_one (ps_expr (C8.pe_c CK hr (by omega) (by rfl) (pa_cons (pv 2) pa_nil))), ?_⟩
    exact ⟨_, rfl, v, r, rfl, hv, kQ rfl H (Same.refl H)⟩
/-- what comes of the log's entry, told of the heap ahead -/
theorem rep_post {K : PySem.W.Frag} {fx : List (Str × V)} {H H1 : Hp} {p dx d l : Addr} {st : Rm} {Q : VK} (hR : RmIn K ad C fix fx H p dx d l st) (s1 : Same H H1) {u wd n : Str} {v : V} {o : Option Rgn} (hv : OptAt K ad.CR H1 v o)
    (k : ∀ d' l' H', Kp p H H' → H l' = none → RoomAt K ad.CR C fx H' p dx d' l' (replaceM st u wd n o) → Q .non H') : spRep K ad.CR C [.ref p, .str u, .str wd, .str n, v] H1 Q C8.E0 :=
  ⟨p, dx, d, l, fx, st, u, wd, n, v, o, rfl, hR.at_.same s1, hv, hR.nd, by have := hR.lk; omega, hR.ll, fun d' l' H' kp fr r => k d' l' H' ((Kp.of s1).trans kp) (s1.free fr) r⟩
theorem ok_put (F : FnQ K "put" "Room.put" (mth sRoom 6) f fd) (R : RmC K C) (B : Bt mg) {uv : Value} (hM : Con K C "MOST" (.int 20) uv) (CW : C8.Cal P w K mg base 2 "check_word" spChkW []) (CK : C8.Cal P w K mg base 1 "check_region" (spChkR K ad.CR) [])
    (hI : AtX P w K mg base 9 fI (spIns K ad C fix)) (mI : Meth K C "check_inside" fI) (hP : At P w K mg base 1 fRp (spRep K ad.CR C)) (mP : Meth K C "replace" fRp) : AtX P w K mg base 10 f (spPut K ad C fix) := by
  refine atR F scPut (fun _ _ _ _ _ _ us hl => match us, hl with | [_, _, _, _], _ => rfl) (fun vs H Q E h => ?_) (fun cdv A outer s H vs Q E hr tk h => ?_)
  · obtain ⟨p, dx, d, l, fx, st, u, n, v, r, rfl, _⟩ := h
    rfl
  · obtain ⟨p, dx, d, l, fx, st, u, n, v, r, rfl, hR, wu, wn, hv, k⟩ := h
    have hu : _ + 1 < cLine := Nat.lt_of_le_of_lt (Nat.add_le_add_left (by decide : 1 ≤ 64) _) hr.units
    refine ⟨_, pss_cons (ps_expr (C8.pe_c CW hr (by omega) (by rfl) (pa_cons (pv 1) pa_nil)))
      (pss_cons (ps_expr (C8.pe_c CW hr (by omega) (by rfl) (pa_cons (pv 2) pa_nil)))
      (pss_cons (ps_expr (C8.pe_c CK hr (by omega) (by rfl) (pa_cons (pv 3) pa_nil)))
      (pss_cons (ps_if (PW.pt (pw_and (pt_cmp (pc_dnotin hu (pv 2) (pe_fld (pv 0) rfl)) (by with_unfolding_all rfl)) (pw_and1 (pt_cmpR op_ge (pe_callB call_lenD (by rfl) B.len (by decide +kernel) (pa_cons (pe_fld (pv 0) rfl) pa_nil)) (pe_con (pv 0) rfl) (nomark _))))) pss_never pss_nil)
      (pss_cons (ps_expr (pe_mtX hI R.i.cl mI hr (by omega) (passes_call tk fun _ _ _ _ z => z) (pv 0) (pa_cons (pv 2) (pa_cons (pv 3) pa_nil))))
      (pss_one (ps_expr (C8.pe_mt (at_met hP R.i.cl mP) hr (by omega) (pv 0) (pa_cons (pv 1) (pa_cons pe_str (pa_cons (pv 2) (pa_cons (pv 3) pa_nil))))))))))), ?_⟩
    refine ⟨_, rfl, u, rfl, wu, fun H1 s1 => ⟨_, rfl, n, rfl, wn, fun H2 s2 => ⟨_, rfl, v, r, rfl, hv.same (s1.trans s2), ?_⟩⟩⟩
    have s12 := s1.trans s2
    have hR2 := hR.same s12
    obtain ⟨⟨kvs, hd, hk⟩, _⟩ := hR2.at_.ex
    have rest : tSeq (tDrop (tMeth C "check_inside" (spIns K ad C fix) [] E (tVar 0) (tCons (tVar 2) (tCons (tVar 3) tNil)))) (tDrop (tMeth C "replace" (spRep K ad.CR C) [] C8.E0 (tVar 0) (tCons (tVar 1) (tCons (tC (.str "put")) (tCons (tVar 2) (tCons (tVar 3) tNil))))))
        { nx := fun _ H' => Q .non H', rt := Q } [some (.ref p), some (.str u), some (.str n), some v] H2 := by
      refine ⟨_, rfl, p, dx, _, rfl, hR2.at_.obj, hR2.at_.fxo.look (by decide) (by decide) (by decide), _, rfl, _, rfl, p, dx, d, l, fx, st, n, v, r, rfl, hR2.at_, hR2.fxa, hv.same s12, fun ok H3 s3 => ?_, fun no => ?_⟩
      · have k' : RmRes K ad C fx H p dx Q E (.told none (replaceM st u "put" n (some r))) := by
          unfold putM at k
          rw [if_pos ok] at k
          exact k
        have s13 := s12.trans s3
        refine ⟨_, rfl, p, dx, _, rfl, (hR2.at_.same s3).obj, hR2.at_.fxo.look (by decide) (by decide) (by decide), _, rfl, _, rfl, _, rfl, ?_⟩
        exact rep_post (fix := fix) hR s13 (o := some r) (RegAt.same s13 hv) k'
      · have k' : RmRes K ad C fx H p dx Q E (.outside n) := by
          unfold putM at k
          rw [no, if_neg (by decide)] at k
          exact k
        exact RaiseV.same k' s12
    refine ⟨_, rfl, _, rfl, p, C, dx, _, _, rfl, hR2.at_.obj, R.i.cl, R.nk, rfl, d, valV kvs (.inr n), rfl, .inl ⟨kvs, .inr n, .inl hd, rfl, rfl⟩, _, rfl, ?_⟩
    cases (valV kvs (.inr n)).isSome with
    | true => exact iteF (iteF rest)
    | false =>
      refine iteT ⟨_, rfl, p, C, dx, _, _, rfl, hR2.at_.obj, R.i.cl, R.nk, rfl, d, kvs, rfl, hd, _, rfl, p, C, dx, _, _, uv, rfl, hR2.at_.obj, R.i.cl, hM, hR2.at_.fxo.look (by decide) (by decide) (by decide), _, _, rfl, rfl, _, rfl, ?_⟩
      have lt : ¬ ((20 : Int) ≤ (kvs.length : Nat)) := by
        have := hR.lk
        rw [kept_len hk]
        omega
      rw [decide_eq_false lt]
      exact iteF rest
theorem ok_join (F : FnQ K "join" "Room.join" (mth sRoom 7) f fd) (R : RmC K C) (CW : C8.Cal P w K mg base 2 "check_word" spChkW []) (CK : C8.Cal P w K mg base 1 "check_region" (spChkR K ad.CR) []) (hN : AtX P w K mg base 3 fN (spChkN K ad.CR C ad.CN)) (mN : Meth K C "check_name" fN)
    (hO : At P w K mg base 5 fO (spUni K ad.CR)) (sf : PySem.W.selfFirst K ad.CR = true) (mO : Meth K ad.CR "__or__" fO)
    (hI : AtX P w K mg base 9 fI (spIns K ad C fix)) (mI : Meth K C "check_inside" fI) (hP : At P w K mg base 1 fRp (spRep K ad.CR C)) (mP : Meth K C "replace" fRp) : AtX P w K mg base 10 f (spJoin K ad C fix) := by
  refine atR F scJoin (fun _ _ _ _ _ _ us hl => match us, hl with | [_, _, _, _], _ => rfl) (fun vs H Q E h => ?_) (fun cdv A outer s H vs Q E hr tk h => ?_)
  · obtain ⟨p, dx, d, l, fx, st, u, n, v, r, rfl, _⟩ := h
    rfl
  · obtain ⟨p, dx, d, l, fx, st, u, n, v, r, rfl, hR, wu, wn, hv, k⟩ := h
    have hu : _ + 1 < cLine := Nat.lt_of_le_of_lt (Nat.add_le_add_left (by decide : 1 ≤ 64) _) hr.units
    refine ⟨_, pss_cons (ps_expr (C8.pe_c CW hr (by omega) (by rfl) (pa_cons (pv 1) pa_nil)))
      (pss_cons (ps_expr (C8.pe_c CW hr (by omega) (by rfl) (pa_cons (pv 2) pa_nil)))
      (pss_cons (ps_expr (C8.pe_c CK hr (by omega) (by rfl) (pa_cons (pv 3) pa_nil)))
      (pss_cons (ps_expr (pe_mtX hN R.i.cl mN hr (by omega) (passes_call tk fun _ _ _ _ z => z) (pv 0) (pa_cons (pv 2) pa_nil)))
      (pss_cons (ps_set (i := 4) scJoin.nd rfl (Or.inl rfl) (pe_op (op_own hO (hr.mono (by omega)) sf mO) (pe_dget hu (pe_fld (pv 0) rfl) (pv 2) (fun _ _ => rfl)) (pv 3)))
      (pss_cons (ps_expr (pe_mtX hI R.i.cl mI hr (by omega) (passes_call tk fun _ _ _ _ z => z) (pv 0) (pa_cons (pv 2) (pa_cons (pv 4) pa_nil))))
      (pss_one (ps_expr (C8.pe_mt (at_met hP R.i.cl mP) hr (by omega) (pv 0) (pa_cons (pv 1) (pa_cons pe_str (pa_cons (pv 2) (pa_cons (pv 4) pa_nil)))))))))))), ?_⟩
    refine ⟨_, rfl, u, rfl, wu, fun H1 s1 => ⟨_, rfl, n, rfl, wn, fun H2 s2 => ⟨_, rfl, v, r, rfl, hv.same (s1.trans s2), ?_⟩⟩⟩
    have s12 := s1.trans s2
    have hR2 := hR.same s12
    obtain ⟨⟨kvs, hd, hk⟩, _⟩ := hR2.at_.ex
    refine ⟨_, rfl, p, dx, _, rfl, hR2.at_.obj, hR2.at_.fxo.look (by decide) (by decide) (by decide), _, rfl, p, dx, d, l, fx, st, n, rfl, hR2.at_, fun g0 => ?_, fun hs => ?_⟩
    · unfold joinM at k
      rw [g0] at k
      exact RaiseV.same k s12
    · rcases kept_get (n := n) hk with ⟨g0, g1⟩ | ⟨kr, vv, g0, g1, g2⟩
      · rw [g0] at hs; cases hs
      · unfold joinM at k
        rw [g0] at k
        have k : RmRes K ad C fx H p dx Q E (if okIn fix (united kr r) = true then .told none (replaceM st u "join" n (some (united kr r))) else .outside n) := k
        obtain ⟨xa, dxa, fva, rfl, hxa, hfa⟩ := g2
        obtain ⟨xb, dxb, fvb, rfl, hxb, hfb⟩ := hv.same s12
        refine ⟨_, rfl, p, C, dx, _, _, rfl, hR2.at_.obj, R.i.cl, R.nk, rfl, _, rfl, d, _, rfl, .inl ⟨kvs, .inr n, .inl hd, rfl, g1.symm⟩, _, rfl, ?_⟩
        refine ⟨xa, xb, dxa, dxb, _, _, rfl, rfl, hxa, hxb, V.ref xa, V.ref xb, _, _, rfl, ⟨xa, dxa, fva, rfl, hxa, hfa⟩, ⟨xb, dxb, fvb, rfl, hxb, hfb⟩, fun y H3 s3 hy => ?_⟩
        have s13 := s12.trans s3
        have hR3 := hR.same s13
        refine ⟨_, rfl, p, dx, _, rfl, hR3.at_.obj, hR3.at_.fxo.look (by decide) (by decide) (by decide), _, rfl, _, rfl, p, dx, d, l, fx, st, n, y, _, rfl, hR3.at_, hR3.fxa, hy, fun ok H4 s4 => ?_, fun no => ?_⟩
        · rw [if_pos ok] at k
          have s14 := s13.trans s4
          refine ⟨_, rfl, p, dx, _, rfl, (hR.same s14).at_.obj, hR3.at_.fxo.look (by decide) (by decide) (by decide), _, rfl, _, rfl, _, rfl, ?_⟩
          exact rep_post (fix := fix) hR s14 (o := some (united kr r)) (RegAt.same s4 hy) k
        · rw [no, if_neg (by decide)] at k
          exact RaiseV.same k s13
theorem ok_cut (F : FnQ K "cut" "Room.cut" (mth sRoom 8) f fd) (R : RmC K C) (CW : C8.Cal P w K mg base 2 "check_word" spChkW []) (CK : C8.Cal P w K mg base 1 "check_region" (spChkR K ad.CR) []) (hN : AtX P w K mg base 3 fN (spChkN K ad.CR C ad.CN)) (mN : Meth K C "check_name" fN)
    (hO : At P w K mg base 5 fO (spSub K ad.CR)) (sf : PySem.W.selfFirst K ad.CR = true) (mO : Meth K ad.CR "__sub__" fO) (hP : At P w K mg base 1 fRp (spRep K ad.CR C)) (mP : Meth K C "replace" fRp) : AtX P w K mg base 10 f (spCut K ad C fix) := by
  refine atR F scCut (fun _ _ _ _ _ _ us hl => match us, hl with | [_, _, _, _], _ => rfl) (fun vs H Q E h => ?_) (fun cdv A outer s H vs Q E hr tk h => ?_)
  · obtain ⟨p, dx, d, l, fx, st, u, n, v, r, rfl, _⟩ := h
    rfl
  · obtain ⟨p, dx, d, l, fx, st, u, n, v, r, rfl, hR, wu, wn, hv, k⟩ := h
    have hu : _ + 1 < cLine := Nat.lt_of_le_of_lt (Nat.add_le_add_left (by decide : 1 ≤ 64) _) hr.units
    refine ⟨_, pss_cons (ps_expr (C8.pe_c CW hr (by omega) (by rfl) (pa_cons (pv 1) pa_nil)))
      (pss_cons (ps_expr (C8.pe_c CW hr (by omega) (by rfl) (pa_cons (pv 2) pa_nil)))
      (pss_cons (ps_expr (C8.pe_c CK hr (by omega) (by rfl) (pa_cons (pv 3) pa_nil)))
      (pss_cons (ps_expr (pe_mtX hN R.i.cl mN hr (by omega) (passes_call tk fun _ _ _ _ z => z) (pv 0) (pa_cons (pv 2) pa_nil)))
      (pss_one (ps_expr (C8.pe_mt (at_met hP R.i.cl mP) hr (by omega) (pv 0) (pa_cons (pv 1) (pa_cons pe_str (pa_cons (pv 2) (pa_cons (pe_op (op_own hO (hr.mono (by omega)) sf mO) (pe_dget hu (pe_fld (pv 0) rfl) (pv 2) (fun _ _ => rfl)) (pv 3)) pa_nil)))))))))), ?_⟩
    refine ⟨_, rfl, u, rfl, wu, fun H1 s1 => ⟨_, rfl, n, rfl, wn, fun H2 s2 => ⟨_, rfl, v, r, rfl, hv.same (s1.trans s2), ?_⟩⟩⟩
    have s12 := s1.trans s2
    have hR2 := hR.same s12
    obtain ⟨⟨kvs, hd, hk⟩, _⟩ := hR2.at_.ex
    refine ⟨_, rfl, p, dx, _, rfl, hR2.at_.obj, hR2.at_.fxo.look (by decide) (by decide) (by decide), _, rfl, p, dx, d, l, fx, st, n, rfl, hR2.at_, fun g0 => ?_, fun hs => ?_⟩
    · unfold cutM at k
      rw [g0] at k
      exact RaiseV.same k s12
    · rcases kept_get (n := n) hk with ⟨g0, g1⟩ | ⟨kr, vv, g0, g1, g2⟩
      · rw [g0] at hs; cases hs
      · unfold cutM at k
        rw [g0] at k
        have k : RmRes K ad C fx H p dx Q E (.told none (replaceM st u "cut" n (some (minus kr r)))) := k
        obtain ⟨xa, dxa, fva, rfl, hxa, hfa⟩ := g2
        obtain ⟨xb, dxb, fvb, rfl, hxb, hfb⟩ := hv.same s12
        refine ⟨_, rfl, p, dx, _, rfl, hR2.at_.obj, hR2.at_.fxo.look (by decide) (by decide) (by decide), _, rfl, _, rfl, _, rfl, p, C, dx, _, _, rfl, hR2.at_.obj, R.i.cl, R.nk, rfl, _, rfl, d, _, rfl, .inl ⟨kvs, .inr n, .inl hd, rfl, g1.symm⟩, _, rfl, ?_⟩
        refine ⟨xa, xb, dxa, dxb, _, _, rfl, rfl, hxa, hxb, V.ref xa, V.ref xb, _, _, rfl, ⟨xa, dxa, fva, rfl, hxa, hfa⟩, ⟨xb, dxb, fvb, rfl, hxb, hfb⟩, fun y H3 s3 hy => ?_⟩
        exact rep_post (fix := fix) hR (s12.trans s3) (o := some (minus kr r)) hy k
theorem ok_drop (F : FnQ K "drop" "Room.drop" (mth sRoom 9) f fd) (R : RmC K C) (CW : C8.Cal P w K mg base 2 "check_word" spChkW []) (hN : AtX P w K mg base 3 fN (spChkN K ad.CR C ad.CN)) (mN : Meth K C "check_name" fN)
    (hP : At P w K mg base 1 fRp (spRep K ad.CR C)) (mP : Meth K C "replace" fRp) : AtX P w K mg base 10 f (spDrop K ad C fix) := by
  refine atR F scDrop (fun _ _ _ _ _ _ us hl => match us, hl with | [_, _, _], _ => rfl) (fun vs H Q E h => ?_) (fun cdv A outer s H vs Q E hr tk h => ?_)
  · obtain ⟨p, dx, d, l, fx, st, u, n, rfl, _⟩ := h
    rfl
  · obtain ⟨p, dx, d, l, fx, st, u, n, rfl, hR, wu, wn, k⟩ := h
    refine ⟨_, pss_cons (ps_expr (C8.pe_c CW hr (by omega) (by rfl) (pa_cons (pv 1) pa_nil)))
      (pss_cons (ps_expr (C8.pe_c CW hr (by omega) (by rfl) (pa_cons (pv 2) pa_nil)))
      (pss_cons (ps_expr (pe_mtX hN R.i.cl mN hr (by omega) (passes_call tk fun _ _ _ _ z => z) (pv 0) (pa_cons (pv 2) pa_nil)))
      (pss_one (ps_expr (C8.pe_mt (at_met hP R.i.cl mP) hr (by omega) (pv 0) (pa_cons (pv 1) (pa_cons pe_str (pa_cons (pv 2) (pa_cons pe_non pa_nil))))))))), ?_⟩
    refine ⟨_, rfl, u, rfl, wu, fun H1 s1 => ⟨_, rfl, n, rfl, wn, fun H2 s2 => ?_⟩⟩
    have s12 := s1.trans s2
    have hR2 := hR.same s12
    obtain ⟨⟨kvs, hd, hk⟩, _⟩ := hR2.at_.ex
    refine ⟨_, rfl, p, dx, _, rfl, hR2.at_.obj, hR2.at_.fxo.look (by decide) (by decide) (by decide), _, rfl, p, dx, d, l, fx, st, n, rfl, hR2.at_, fun g0 => ?_, fun hs => ?_⟩
    · unfold dropM at k
      rw [g0] at k
      exact RaiseV.same k s12
    · cases g0 : getM st.kept n with
      | none => rw [g0] at hs; cases hs
      | some kr =>
        unfold dropM at k
        rw [g0] at k
        have k : RmRes K ad C fx H p dx Q E (.told none (replaceM st u "drop" n none)) := k
        refine ⟨_, rfl, p, dx, _, rfl, hR2.at_.obj, hR2.at_.fxo.look (by decide) (by decide) (by decide), _, rfl, _, rfl, ?_⟩
        exact rep_post (fix := fix) hR s12 (o := none) rfl k
end
end BX
end
section
set_option Elab.async false
set_option linter.all false
set_option maxRecDepth 100000
set_option maxHeartbeats 4000000
namespace BX
open PySem PySem.Spec PyProof.Rows L2 ClX
section
variable {α β : Type} {F : α → β → Prop}
theorem p_take : ∀ {l : List α} {m : List β} (n : Nat), Paired F l m → Paired F (l.take n) (m.take n)
  | _, _, 0, _ => .nil
  | _, _, _ + 1, .nil => .nil
  | _, _, n + 1, .cons a r => .cons a (p_take n r)
theorem p_drop : ∀ {l : List α} {m : List β} (n : Nat), Paired F l m → Paired F (l.drop n) (m.drop n)
  | _, _, 0, h => h
  | _, _, _ + 1, .nil => .nil
  | _, _, n + 1, .cons _ r => p_drop n r
theorem p_app : ∀ {l l' : List α} {m m' : List β}, Paired F l m → Paired F l' m' → Paired F (l ++ l') (m ++ m')
  | _, _, _, _, .nil, h => h
  | _, _, _, _, .cons a r, h => .cons a (p_app r h)
theorem p_get : ∀ {l : List α} {m : List β} {i : Nat} {a : α}, Paired F l m → l[i]? = some a → ∃ b, m[i]? = some b ∧ F a b
  | _, _, _, _, .nil, e => by simp at e
  | _, _, 0, _, .cons h _, e => by simp at e; subst e; exact ⟨_, rfl, h⟩
  | _, _, i + 1, _, .cons _ r, e => by
    obtain ⟨b, h1, h2⟩ := p_get (i := i) r (by simpa using e)
    exact ⟨b, by simpa using h1, h2⟩
theorem p_get' : ∀ {l : List α} {m : List β} {i : Nat} {b : β}, Paired F l m → m[i]? = some b → ∃ a, l[i]? = some a ∧ F a b
  | _, _, _, _, .nil, e => by simp at e
  | _, _, 0, _, .cons h _, e => by simp at e; subst e; exact ⟨_, rfl, h⟩
  | _, _, i + 1, _, .cons _ r, e => by
    obtain ⟨b, h1, h2⟩ := p_get' (i := i) r (by simpa using e)
    exact ⟨b, by simpa using h1, h2⟩
end
def userAt (log : List Ent) (u : Str) (i : Nat) : Bool := match log[i]? with
  | some e => decide (e.user = u)
  | none => false
def placesM (log : List Ent) (u : Str) : List Nat := (List.range log.length).filter (userAt log u)
def undoM (st : Rm) (u : Str) : Out := match (placesM st.log u).getLast? with
  | none => .nothing
  | some i => match st.log[i]? with
    | none => .nothing
    | some e => if (st.log.drop (i + 1)).any (fun c => decide (c.name = e.name)) = true then .blocked e.name else .told (some e.name) ⟨setM st.kept e.name e.before, st.log.take i ++ st.log.drop (i + 1)⟩
def intsD (ns : List Nat) : PyData := .list (ns.map fun n : Nat => PyData.int (n : Int))
theorem ints_can : ∀ ns : List Nat, PyData.canLayAll0 (ns.map fun n : Nat => PyData.int (n : Int)) = true
  | [] => rfl
  | n :: ns => by
    show (true && PyData.canLayAll0 (ns.map fun n : Nat => PyData.int (n : Int))) = true
    rw [ints_can ns]; rfl
theorem ints_dep : ∀ ns : List Nat, PyData.depthAll (ns.map fun n : Nat => PyData.int (n : Int)) = 0
  | [] => rfl
  | n :: ns => by
    show max 0 (PyData.depthAll (ns.map fun n : Nat => PyData.int (n : Int))) = 0
    rw [ints_dep ns]; rfl
theorem ints_shaped (ns : List Nat) : SeqAt.shaped (intsD ns) = true := by
  unfold SeqAt.shaped
  have h1 : PyData.canLay0 (intsD ns) = true := ints_can ns
  have h2 : PyData.depth (intsD ns) ≤ 64 := by
    show PyData.depthAll (ns.map fun n : Nat => PyData.int (n : Int)) + 1 ≤ 64
    rw [ints_dep]; decide
  rw [h1, decide_eq_true h2]; rfl
theorem ints_nil : ∀ ns : List Nat, PyData.eqv (intsD ns) (.list []) = decide (ns = [])
  | [] => rfl
  | n :: ns => by
    rw [decide_eq_false (List.cons_ne_nil n ns)]; rfl
def spUndo (K : PySem.W.Frag) (ad : Ad) (C : Addr) (fix : Bool) : Sp := fun vs H Q E => ∃ (p dx d l : Addr) (fx : List (Str × V)) (st : Rm) (u : Str), vs = [.ref p, .str u] ∧ RmIn K ad C fix fx H p dx d l st ∧ okW u = true ∧
  RmRes K ad C fx H p dx Q E (undoM st u)
abbrev nUndo : List Str := ["self", "user", "place", "places", "who", "word", "name", "before", "later", "call", "other"]
theorem scUndo : FnScope nUndo ["self", "user"] (defScope (mth sRoom 10)) := C8.fnScope_by (by decide +kernel)
section
variable {P : Program} {w : World} {K : PySem.W.Frag} {mg : Str → Option Value} {base : Heap} {f C fB fL : Addr} {fd : FuncData} {ad : Ad} {fix : Bool} {CR : Addr}
/-- {other: self.kept[other] for other in self.kept if other != name} under a lock, whatever the slots: self in 0, name in jn, other in jo, the new dict to jl -/
theorem later_ok {D : Ends} {σ : L2.St} {H : Hp} {p dx d l : Addr} {fx : List (Str × V)} {st : Rm} {n : Str} {jn jo jl : Nat} (R : RmC K C) (hR : RoomAt K CR C fx H p dx d l st) (nd : (st.kept.map (·.1)).Nodup) (lk : st.kept.length ≤ 20)
    (h0 : σ[0]? = some (some (.ref p))) (hn : σ[jn]? = some (some (.str n))) (e0 : jo ≠ 0) (en : jo ≠ jn) (lj : jo < σ.length)
    (k : ∀ (Dd : Addr) (ls : List (Key × V)) (H2 : Hp), Same H H2 → H Dd = none → H2 Dd = some (.dK ls) → KeptAt K CR H2 ls (st.kept.filter fun e => !decide (e.1 = n)) → D.nx (σ.set jl (some (.ref Dd))) H2) :
    tLock (tAsg (tDc (iKeys (tFld K (tVar 0) "kept")) (gName jo) (tTest (tOp rNe (tVar jo) (tVar jn))) (tVar jo) (tDGet (tFld K (tVar 0) "kept") (tVar jo)) [jo]) (gName jl)) D σ H := by
  obtain ⟨⟨kvs, hd, hk⟩, xs, hl, hlog⟩ := hR.ex
  have hpd : p ≠ d := ne_of hR.obj hd (by intro z; cases z)
  have lkv := kept_len hk
  refine ⟨d, .dK kvs, hd, trivial, fun od => ?_⟩
  generalize hHl : upd H d (.frz od (.dK kvs)) = Hl
  have pl : Hl p = some (.ins C dx (roomF d l fx)) := by rw [← hHl, upd_ne hpd]; exact hR.obj
  have dl : Hl d = some (.frz od (.dK kvs)) := by rw [← hHl, upd_same]
  have krl : Kr CR H Hl := by rw [← hHl]; exact Kr.lock hd
  refine ⟨_, h0, p, C, dx, _, _, rfl, pl, R.i.cl, R.nk, rfl, d, od, rfl, .inl ⟨kvs, dl, fun Dd hD => ?_⟩⟩
  let fl : Str × Rgn → Bool := fun e => !decide (e.1 = n)
  refine walkW (walk_keys (d := d) (o := od) (kvs := kvs)) (fun i H' => Same Hl H' ∧ ∃ ls, H' Dd = some (.dK ls) ∧ KeptAt K CR H' ls ((st.kept.take i).filter fl)) ⟨Same.upd1 hD, [], upd_same, .nil⟩ (fun i H' _ q => q.1 _ _ dl) ?_ ?_
  · rintro i y H1 H2 hi ⟨s1, ls, e1, hls⟩ ⟨rfl, kk, vv, hkv, rfl⟩
    have hi' : i < st.kept.length := by omega
    obtain ⟨⟨m, r⟩, hm⟩ : ∃ e, st.kept[i]? = some e := ⟨_, List.getElem?_eq_getElem hi'⟩
    obtain ⟨rfl, hvv⟩ := kept_at hk hkv hm
    have w1 : wipe σ [jo] = σ.set jo none := rfl
    have lw : jo < (wipe σ [jo]).length := by rw [w1, List.length_set]; exact lj
    have a0 : ((wipe σ [jo]).set jo (some (kV (.inr m))))[0]? = some (some (.ref p)) := by rw [List.getElem?_set_ne e0, w1, List.getElem?_set_ne e0]; exact h0
    have an : ((wipe σ [jo]).set jo (some (kV (.inr m))))[jn]? = some (some (.str n)) := by rw [List.getElem?_set_ne en, w1, List.getElem?_set_ne en]; exact hn
    have ao : ((wipe σ [jo]).set jo (some (kV (.inr m))))[jo]? = some (some (kV (.inr m))) := by rw [List.getElem?_set_self lw]
    refine ⟨by show ((wipe σ [jo]).set jo _).set jo none = σ.set jo none; rw [w1, List.set_set, List.set_set], ?_⟩
    refine ⟨_, ao, _, an, rfl, _, rfl, ?_⟩
    have edec : decide (kV (.inr m) = V.str n) = decide (m = n) := by
      rw [Bool.eq_iff_iff, decide_eq_true_iff, decide_eq_true_iff]
      exact ⟨fun z => by cases z; rfl, fun z => by subst z; rfl⟩
    rw [edec]
    by_cases hmn : m = n
    · rw [decide_eq_true hmn]
      refine iteF ⟨s1, ls, e1, ?_⟩
      rw [filter_take hm, show fl (m, r) = false from by show (!decide (m = n)) = false; rw [decide_eq_true hmn]; rfl, if_neg (by decide), List.append_nil]
      exact hls
    · rw [decide_eq_false hmn]
      refine iteT ?_
      rcases kept_get (n := m) hk with ⟨g0, _⟩ | ⟨r', v', g1, g2, g3⟩
      · rw [getM_at nd hm] at g0; cases g0
      · have er : r = r' := by rw [getM_at nd hm] at g1; exact Option.some.inj g1
        subst er
        refine ⟨_, ao, _, a0, p, C, dx, _, _, rfl, s1 _ _ pl, R.i.cl, R.nk, rfl, _, ao, d, v', rfl, .inl ⟨kvs, .inr m, .inr ⟨od, s1 _ _ dl⟩, rfl, g2.symm⟩, ?_⟩
        have nw : valV ls (.inr m) = none := by
          rcases kept_get (n := m) hls with ⟨_, z⟩ | ⟨_, _, z, _⟩
          · exact z
          · rw [getM_none (not_take nd hm fl)] at z; cases z
        have lls : ls.length ≤ 20 := by
          rw [kept_len hls]
          exact Nat.le_trans (filter_len _ _ _) lk
        refine ⟨ls, .inr m, rfl, e1, Nat.lt_of_le_of_lt lls (by decide), Same.updN s1 hD, ls ++ [(.inr m, v')], by rw [upd_same, putK_new _ nw], ?_⟩
        rw [filter_take hm, show fl (m, r) = true from by show (!decide (m = n)) = true; rw [decide_eq_false hmn]; rfl, if_pos rfl]
        have krD : Kr CR H2 (upd H2 Dd (.dK (putK ls (.inr m) v'))) := Kr.lock e1
        exact Paired.snoc (hls.kr krD) ⟨rfl, g3.kr (krl.trans ((Kr.of s1).trans krD))⟩
  · rintro H1 ⟨s1, ls, e1, hls⟩
    rw [lkv, List.take_length] at hls
    refine ⟨s1 _ _ dl, ?_⟩
    have sH : Same H (upd H1 d (.dK kvs)) := lock_same (o := .frz od (.dK kvs)) hd (by rw [hHl]; exact s1)
    have hDd : Dd ≠ d := fun z => by rw [z, s1 _ _ dl] at e1; cases e1
    have hDn : H Dd = none := by
      have z : Hl Dd = none := hD
      rw [← hHl, upd_ne hDd] at z
      exact z
    exact k Dd ls _ sH hDn (by rw [upd_ne hDd]; exact e1) (hls.kr (Kr.unlock (s1 _ _ dl)))
/-- if v is not None: later[name] = v -/
theorem later_put {D : Ends} {σ : L2.St} {H : Hp} {Dd : Addr} {ls : List (Key × V)} {kept : List (Str × Rgn)} {n : Str} {jn jv jl : Nat} {v : V} {o : Option Rgn} (hv : OptAt K CR H v o) (hD : H Dd = some (.dK ls)) (hk : KeptAt K CR H ls (kept.filter fun e => !decide (e.1 = n))) (lk : kept.length ≤ 20)
    (hn : σ[jn]? = some (some (.str n))) (h1 : σ[jv]? = some (some v)) (hl : σ[jl]? = some (some (.ref Dd)))
    (k : ∀ (ls' : List (Key × V)) (H' : Hp), (∀ b o, b ≠ Dd → H b = some o → H' b = some o) → H' Dd = some (.dK ls') → KeptAt K CR H' ls' (setM kept n o) → Kr CR H H' → D.nx σ H') :
    tIfS (tB (tNotN (tVar jv))) (sDPut (tVar jl) (tVar jn) (tVar jv)) tNext D σ H := by
  cases o with
  | none =>
    have hv : v = .non := hv
    subst hv
    refine ⟨_, h1, _, rfl, iteF (k ls H (fun _ _ _ e => e) hD ?_ (Kr.of (Same.refl _)))⟩
    show KeptAt K CR H ls ((kept.filter fun e => !decide (e.1 = n)) ++ [])
    rw [List.append_nil]
    exact hk
  | some r =>
    obtain ⟨x, dxx, fv, rfl, hx, hf⟩ := hv
    refine ⟨_, h1, _, rfl, iteT ?_⟩
    have nw : valV ls (.inr n) = none := by
      rcases kept_get (n := n) hk with ⟨_, z⟩ | ⟨_, _, z, _⟩
      · exact z
      · rw [getM_none (fun h => by
          obtain ⟨q, hq, e⟩ := List.mem_map.mp h
          have h2 := (List.mem_filter.mp hq).2
          rw [decide_eq_true e] at h2
          cases h2)] at z
        cases z
    have lls : ls.length ≤ 20 := by
      rw [kept_len hk]
      exact Nat.le_trans (List.length_filter_le _ _) lk
    refine ⟨_, h1, _, hl, _, hn, Dd, _, rfl, DPut.k (k := .inr n) hD (Nat.lt_of_le_of_lt lls (by decide)), ?_⟩
    rw [putK_new _ nw]
    have krD : Kr CR H (upd H Dd (.dK (ls ++ [(.inr n, V.ref x)]))) := Kr.lock hD
    refine k (ls ++ [(.inr n, .ref x)]) _ (fun b o hb e => by rw [upd_ne hb]; exact e) upd_same ?_ krD
    exact Paired.snoc (hk.kr krD) ⟨rfl, RegAt.kr krD ⟨x, dxx, fv, rfl, hx, hf⟩⟩
theorem cut_to (xs : List V) (i : Nat) (h : i ≤ xs.length) : cutV xs none (some (i : Int)) = xs.take i := by
  unfold cutV
  have e1 : HT.sIx xs.length 0 none = 0 := rfl
  have e2 : HT.sIx xs.length xs.length (some (i : Int)) = i := by rw [HT.sIx_nat]; omega
  rw [e1, e2]
  rfl
theorem cut_from (xs : List V) (i : Nat) (h : i ≤ xs.length) : cutV xs (some (i : Int)) none = xs.drop i := by
  unfold cutV
  have e1 : HT.sIx xs.length xs.length none = xs.length := rfl
  have e2 : HT.sIx xs.length 0 (some (i : Int)) = i := by rw [HT.sIx_nat]; omega
  rw [e1, e2]
  exact List.take_of_length_le (by rw [List.length_drop]; exact Nat.le_refl _)
theorem ok_undo (F : FnQ K "undo" "Room.undo" (mth sRoom 10) f fd) (R : RmC K C) (ne : C ≠ ad.CR) (B : Bt mg) (CW : C8.Cal P w K mg base 2 "check_word" spChkW [])
    (TB : XcC K ad.CB fB "RuntimeError.__new__" "RuntimeError" "RuntimeError.__init__" [.type "RuntimeError", .type "Exception", .type "BaseException", .type "object"]) (gB : mg "Blocked" = some (.ref ad.CB)) (iB : At P w K mg base 1 fB (spXI ad.CB))
    (TL : XcC K ad.CL fL "IndexError.__new__" "IndexError" "IndexError.__init__" [.type "IndexError", .type "LookupError", .type "Exception", .type "BaseException", .type "object"]) (gL : mg "NothingLeft" = some (.ref ad.CL)) (iL : At P w K mg base 1 fL (spXN ad.CL)) : AtX P w K mg base 10 f (spUndo K ad C fix) := by
  refine atR F scUndo (fun _ _ _ _ _ _ us hl => match us, hl with | [_, _], _ => rfl) (fun vs H Q E h => ?_) (fun cdv A outer s H vs Q E hr tk h => ?_)
  · obtain ⟨p, dx, d, l, fx, st, u, rfl, _⟩ := h
    rfl
  · obtain ⟨p, dx, d, l, fx, st, u, rfl, hR, wu, k⟩ := h
    have hun : _ + 64 < cLine := hr.units
    have hu : _ + 1 < cLine := Nat.lt_of_le_of_lt (Nat.add_le_add_left (by decide : 1 ≤ 64) _) hr.units
    refine ⟨_, pss_cons (ps_expr (C8.pe_c CW hr (by omega) (by rfl) (pa_cons (pv 1) pa_nil)))
      (pss_cons (ps_setLc (i := 3) (own := [("place", 2), ("call", 9)]) (g := gTup K 2 (gCons (gName 2) (gCons (gName 9) gNil))) rfl scUndo.nd rfl rfl (sw_true rfl rfl rfl rfl) (pi_enum (by rfl) B.enumerate (pa_cons (pe_fld (pv 0) rfl) pa_nil)) (blkOk_by (by kernel_rfl))
          (fun _ _ _ _ _ => pg_tup (n := 2) rfl (pgs_cons (pg_name (i := 2) scUndo.nd rfl (Or.inl rfl) (.inr rfl)) (pgs_cons (pg_name (i := 9) scUndo.nd rfl (Or.inl rfl) (.inr rfl)) pgs_nil)))
          (tt := tTest (tOp rEq (tOp (rIxT K) (tVar 9) (tC (.int 0))) (tVar 1))) (fun _ _ _ _ _ => pts_one (pt_cmpR op_eq (pe_ix ix_tup (pv 9) pe_int (fun _ _ => rfl)) (pv 1) (nomark _))) (fun _ _ _ _ _ => pv 2))
      (pss_cons (ps_if (pt_cmpR (op_eqD hun) (pv 3) (pe_lst pa_nil) (nomark _)) (pss_one (ps_raise rfl tk (pmk_ox0 TL.ox TL.me TL.ti iL hr (by omega) (by rfl) gL))) pss_nil)
      (pss_cons (ps_set (i := 2) scUndo.nd rfl (Or.inl rfl) (pe_ix ix_list (pv 3) (pe_un un_neg pe_int) (fun _ _ => rfl)))
      (pss_cons (ps_asg (pe_ix ix_list (pe_fld (pv 0) rfl) (pv 2) (fun _ _ => rfl)) (pg_tup rfl (pgs_cons (pg_name (i := 4) scUndo.nd rfl (Or.inl rfl)) (pgs_cons (pg_name (i := 5) scUndo.nd rfl (Or.inl rfl)) (pgs_cons (pg_name (i := 6) scUndo.nd rfl (Or.inr rfl)) (pgs_cons (pg_name (i := 7) scUndo.nd rfl (Or.inl rfl)) pgs_nil))))))
      (pss_cons (ps_if (pt_val (pe_callB (cr_any rfl) (by rfl) B.any (by decide +kernel) (pa_cons (pe_lc (own := [("call", 9)]) rfl scUndo.nd (pi_list (pe_slice sl_list (pe_fld (pv 0) rfl) (po_some (pe_op op_add (pv 2) pe_int)) po_none)) (blkOk_by (by kernel_rfl))
          (fun _ _ _ _ _ => pg_name (i := 9) scUndo.nd rfl (Or.inl rfl) (.inr rfl)) (fun _ _ _ _ _ => pts_nil) (te := tOp rEq (tOp (rIxT K) (tVar 9) (tC (.int 2))) (tVar 6)) (fun _ _ _ _ _ => pe_cmpR op_eq (pe_ix ix_tup (pv 9) pe_int (fun _ _ => rfl)) (pv 6) (nomark _))) pa_nil)))
          (pss_one (ps_raise rfl tk (pmk_ox TB.ox TB.me TB.ti iB hr (by omega) (by rfl) gB (pa_cons (pv 6) pa_nil)))) pss_nil)
      (pss_cons (ps_lock (ps_setDc (i := 8) (own := [("other", 10)]) rfl scUndo.nd rfl rfl (sw_dict rfl rfl rfl rfl) (pi_keys (pe_fld (pv 0) rfl)) (blkOk_by (by kernel_rfl))
          (fun _ _ _ _ _ => pg_name (i := 10) scUndo.nd rfl (Or.inl rfl) (.inr rfl)) (fun _ _ _ _ _ => pts_one (pt_cmpR op_ne (pv 10) (pv 6) (nomark _))) (fun _ _ _ _ _ => pv 10) (tv := tDGet (tFld K (tVar 0) "kept") (tVar 10)) (fun _ _ _ _ _ => pe_dget hu (pe_fld (pv 0) rfl) (pv 10) (fun _ _ => rfl))))
      (pss_cons (ps_if (pt_cmp (pc_notN (pv 7))) (pss_one (ps_dput hu (pv 8) (pv 6) (pv 7) rfl)) pss_nil)
      (pss_cons (ps_fld (pv 0) (pv 8) rfl)
      (pss_cons (ps_fld (pv 0) (pe_op op_cat (pe_slice sl_list (pe_fld (pv 0) rfl) po_none (po_some (pv 2))) (pe_slice sl_list (pe_fld (pv 0) rfl) (po_some (pe_op op_add (pv 2) pe_int)) po_none)) rfl)
      (pss_one (ps_ret (pv 6)))))))))))), ?_⟩
    refine ⟨_, rfl, u, rfl, wu, fun H1 s1 => ?_⟩
    have hR1 := hR.same s1
    obtain ⟨⟨kvs, hd, hk⟩, xs, hl, hlog⟩ := hR1.at_.ex
    have lx : xs.length = st.log.length := hlog.length
    have ll := hR.ll
    refine ⟨_, rfl, p, C, dx, _, _, rfl, hR1.at_.obj, R.i.cl, R.nc, rfl, l, xs, rfl, SqL.of hl, fun D hD => walkW (walk_enum (a := l) (xs := xs)) (fun i H' => Same H1 H' ∧ H' D = some (.lst (((List.range i).filter (userAt st.log u)).map fun n : Nat => V.int n))) ⟨Same.upd1 hD, upd_same⟩ (fun i H' _ q => SqL.of (q.1 _ _ hl)) ?_ ?_⟩
    · rintro i y H2 H3 hi ⟨s2, e2⟩ ⟨T, x, y2, rfl, hT, rfl, ex, hy⟩
      cases ex
      obtain ⟨en, he, t, v, rfl, ht, _⟩ := p_get hlog hy
      have s3 : Same H2 (upd H2 T (.tup [.int (i : Nat), .ref t])) := Same.upd1 hT
      refine ⟨T, _, rfl, SqT.of upd_same, rfl, _, _, rfl, _, _, rfl, rfl, by kernel_rfl, ?_⟩
      refine ⟨_, rfl, t, _, _, _, rfl, rfl, SqT.of (s3 _ _ (s2 _ _ ht)), atI_nat (j := 0) rfl, _, rfl, rfl, _, rfl, ?_⟩
      have eu : userAt st.log u i = decide (en.user = u) := by unfold userAt; rw [he]
      have edec : decide (V.str en.user = V.str u) = decide (en.user = u) := by
        rw [Bool.eq_iff_iff, decide_eq_true_iff, decide_eq_true_iff]
        exact ⟨fun z => by cases z; rfl, fun z => by rw [z]⟩
      rw [edec]
      have li : ((List.range i).filter (userAt st.log u)).length ≤ 500 := Nat.le_trans (List.length_filter_le _ _) (by rw [List.length_range]; omega)
      cases hc : decide (en.user = u) with
      | true =>
        refine iteT ⟨_, rfl, _, s3 _ _ e2, ?_, Same.updN (s2.trans s3) hD, ?_⟩
        · rw [List.length_map]
          exact Nat.lt_of_le_of_lt li (by decide)
        · rw [upd_same, List.range_succ, List.filter_append, List.map_append]
          have : [i].filter (userAt st.log u) = [i] := by simp [eu, hc]
          rw [this]
          rfl
      | false =>
        refine iteF ⟨s2.trans s3, ?_⟩
        rw [List.range_succ, List.filter_append]
        have : [i].filter (userAt st.log u) = [] := by simp [eu, hc]
        rw [this, List.append_nil]
        exact s3 _ _ e2
    rintro H2 ⟨s2, e2⟩
    rw [lx] at e2
    have ens : (List.range st.log.length).filter (userAt st.log u) = placesM st.log u := rfl
    rw [ens] at e2
    refine ⟨_, rfl, Nat.zero_le _, fun z hz => ?_⟩
    have sz : Same H2 (upd H2 z (.lst [])) := Same.upd1 hz
    have dpi : ∀ (Hh : Hp) (ns : List Nat), DpAll K Hh (ns.map fun n : Nat => V.int n) (ns.map fun n : Nat => PyData.int (n : Int)) := by
      intro Hh ns
      induction ns with
      | nil => exact .nil
      | cons n ns ih => exact .cons (.int _) ih
    refine ⟨_, _, .lst (SqL.of (sz _ _ e2)) (dpi _ _), .lst (SqL.of upd_same) .nil, ints_shaped (placesM st.log u), ints_shaped [], _, rfl, ?_⟩
    have en0 : PyData.eqv (.list ((placesM st.log u).map fun n : Nat => PyData.int (n : Int))) (.list []) = decide (placesM st.log u = []) := ints_nil _
    rw [en0]
    have s12 := s1.trans (s2.trans sz)
    cases hlast : (placesM st.log u).getLast? with
    | none =>
      have e0 : placesM st.log u = [] := List.getLast?_eq_none_iff.mp hlast
      rw [decide_eq_true e0]
      unfold undoM at k
      rw [hlast] at k
      have k : RaiseN E ad.CL H := k
      refine iteT ⟨by show 0 ≤ 1000; decide, ?_⟩
      exact mkx_non fun H' s' => k H' (s12.trans s')
    | some i =>
      have ne0 : ¬ placesM st.log u = [] := fun z => by rw [z] at hlast; cases hlast
      rw [decide_eq_false ne0]
      refine iteF ?_
      have hmem : i ∈ placesM st.log u := List.mem_of_getLast? hlast
      have hi : i < st.log.length := List.mem_range.mp (List.mem_filter.mp hmem).1
      have he : st.log[i]? = some st.log[i] := List.getElem?_eq_getElem hi
      generalize st.log[i] = en at he
      unfold undoM at k
      rw [hlast] at k
      have k : RmRes K ad C fx H p dx Q E (match st.log[i]? with | none => .nothing | some e => if (st.log.drop (i + 1)).any (fun c => decide (c.name = e.name)) = true then .blocked e.name else .told (some e.name) ⟨setM st.kept e.name e.before, st.log.take i ++ st.log.drop (i + 1)⟩) := k
      rw [he] at k
      have k : RmRes K ad C fx H p dx Q E (if (st.log.drop (i + 1)).any (fun c => decide (c.name = en.name)) = true then .blocked en.name else .told (some en.name) ⟨setM st.kept en.name en.before, st.log.take i ++ st.log.drop (i + 1)⟩) := k
      obtain ⟨_, hxi, t, bv, rfl, ht, hbv⟩ := p_get' hlog he
      have nsl : (placesM st.log u).map (fun n : Nat => V.int n) = ((placesM st.log u).dropLast.map fun n : Nat => V.int n) ++ [V.int (i : Nat)] := by
        conv => lhs; rw [getLast?_dropLast hlast]
        rw [List.map_append]
        rfl
      have s3 : Same H1 (upd H2 z (.lst [])) := s2.trans sz
      refine ⟨_, rfl, _, rfl, D, _, _, _, rfl, rfl, SqL.of (sz _ _ e2), by rw [nsl]; exact atI_last _ _, ?_⟩
      have hR3 := hR1.same s3
      have l3 := s3 _ _ hl
      refine ⟨_, rfl, p, C, dx, _, _, rfl, hR3.at_.obj, R.i.cl, R.nc, rfl, _, rfl, l, xs, _, _, rfl, rfl, SqL.of l3, atI_nat hxi, ?_⟩
      refine ⟨t, _, rfl, SqT.of (s3 _ _ ht), rfl, _, _, rfl, _, _, rfl, _, _, rfl, _, _, rfl, rfl, ?_⟩
      have ic : ((i : Nat) : Int) + 1 = ((i + 1 : Nat) : Int) := rfl
      -- any
      refine ⟨_, rfl, p, C, dx, _, _, rfl, hR3.at_.obj, R.i.cl, R.nc, rfl, _, rfl, _, _, rfl, rfl, _, rfl, l, xs, rfl, SqL.of l3, fun q hq => ⟨q, rfl, ⟨_, SqL.of upd_same⟩, fun D2 hD2 => ?_⟩⟩
      rw [ic, cut_from xs (i + 1) (by omega)] at *
      have s4 : Same (upd H2 z (.lst [])) (upd (upd H2 z (.lst [])) q (.lst (xs.drop (i + 1)))) := Same.upd1 hq
      generalize hH4 : upd (upd H2 z (.lst [])) q (.lst (xs.drop (i + 1))) = H4 at s4 hD2 ⊢
      have q4 : H4 q = some (.lst (xs.drop (i + 1))) := by rw [← hH4, upd_same]
      have s14 : Same H1 H4 := s3.trans s4
      let pr : Ent → Bool := fun c => decide (c.name = en.name)
      have hdl : LogAt K ad.CR H1 (xs.drop (i + 1)) (st.log.drop (i + 1)) := p_drop _ hlog
      refine walkW (walk_list (a := q) (xs := xs.drop (i + 1))) (fun j H' => Same H4 H' ∧ H' D2 = some (.lst (((st.log.drop (i + 1)).take j).map fun c => V.bl (pr c)))) ⟨Same.upd1 hD2, upd_same⟩ (fun j H' _ w => SqL.of (w.1 _ _ q4)) ?_ ?_
      · rintro j y H5 H6 hj ⟨s5, e5⟩ ⟨rfl, hy⟩
        obtain ⟨c, hc, t2, v2, rfl, ht2, _⟩ := p_get hdl hy
        refine ⟨by kernel_rfl, ?_⟩
        refine ⟨_, rfl, t2, _, _, _, rfl, rfl, SqT.of (s5 _ _ (s14 _ _ ht2)), atI_nat (j := 2) rfl, _, rfl, rfl, ?_⟩
        have edec : decide (V.str c.name = V.str en.name) = pr c := by
          show _ = decide (c.name = en.name)
          rw [Bool.eq_iff_iff, decide_eq_true_iff, decide_eq_true_iff]
          exact ⟨fun z => V.str.inj z, fun z => by rw [z]⟩
        rw [edec]
        refine ⟨_, e5, ?_, Same.updN s5 hD2, ?_⟩
        · rw [List.length_map, List.length_take, List.length_drop]
          exact Nat.lt_of_le_of_lt (by omega : _ ≤ 1000) (by decide)
        · rw [upd_same, take_succ' hc, List.map_append]
          rfl
      rintro H5 ⟨s5, e5⟩
      have ldx : (xs.drop (i + 1)).length = (st.log.drop (i + 1)).length := by rw [List.length_drop, List.length_drop, lx]
      rw [ldx, List.take_length] at e5
      refine ⟨D2, (st.log.drop (i + 1)).map pr, rfl, SqL.of (by rw [e5, List.map_map]; rfl), _, rfl, ?_⟩
      have eany : ((st.log.drop (i + 1)).map pr).any id = (st.log.drop (i + 1)).any (fun c => decide (c.name = en.name)) := by rw [List.any_map]; rfl
      rw [eany]
      have s15 := s14.trans s5
      have s05 := s1.trans s15
      cases hb : (st.log.drop (i + 1)).any (fun c => decide (c.name = en.name)) with
      | true =>
        rw [hb, if_pos rfl] at k
        have k : RaiseV E ad.CB (.str en.name) H := k
        refine iteT ⟨_, rfl, by show 1 ≤ 1000; decide, ?_⟩
        exact mkx_val (RaiseV.same k s05)
      | false =>
        rw [hb, if_neg (by decide)] at k
        refine iteF ?_
        have hR5 := hR1.same s15
        refine later_ok (p := p) (dx := dx) (d := d) (l := l) (fx := fx) (st := st) (n := en.name) R hR5.at_ hR.nd (by have := hR.lk; omega) rfl rfl (by decide) (by decide) (by show 10 < 11; decide) fun Dd ls H6 s6 hDn eD hls => ?_
        have s06 := s05.trans s6
        refine later_put (K := K) (CR := ad.CR) (kept := st.kept) (n := en.name) (v := bv) (o := en.before) (OptAt.kr (Kr.of (s15.trans s6)) hbv) eD hls (by have := hR.lk; omega) rfl rfl rfl fun ls7 H7 k7 e7 hls7 kr7 => ?_
        have hDp : Dd ≠ p := fun w => by subst w; rw [hR5.at_.obj] at hDn; cases hDn
        have p7 : H7 p = some (.ins C dx (roomF d l fx)) := k7 _ _ hDp.symm ((hR5.same s6).at_.obj)
        have hDl : Dd ≠ l := fun w => by subst w; rw [s15 _ _ hl] at hDn; cases hDn
        have l7 : H7 l = some (.lst xs) := k7 _ _ hDl.symm (s6 _ _ (s15 _ _ hl))
        refine ⟨_, rfl, _, rfl, p, C, dx, _, rfl, p7, R.i.cl, R.nk, hR.at_.fxo.len, ?_⟩
        generalize hH8 : upd H7 p (.ins C dx (putF "kept" (.ref Dd) (roomF d l fx))) = H8
        have p8 : H8 p = some (.ins C dx (roomF Dd l fx)) := by rw [← hH8, upd_same]; rfl
        have kp8 : Kp p H7 H8 := by rw [← hH8]; exact (Kp.refl p H7).upd
        have l8 : H8 l = some (.lst xs) := kp8 _ _ (ne_of l7 p7 (by intro w; cases w)) l7
        refine ⟨_, rfl, p, C, dx, _, _, rfl, p8, R.i.cl, R.nc, rfl, _, rfl, _, rfl, l, xs, rfl, SqL.of l8, fun q1 hq1 => ?_⟩
        rw [cut_to xs i (by omega)] at *
        have s9 : Same H8 (upd H8 q1 (.lst (xs.take i))) := Same.upd1 hq1
        generalize hH9 : upd H8 q1 (.lst (xs.take i)) = H9 at s9 ⊢
        have q9 : H9 q1 = some (.lst (xs.take i)) := by rw [← hH9, upd_same]
        refine ⟨_, rfl, p, C, dx, _, _, rfl, s9 _ _ p8, R.i.cl, R.nc, rfl, _, rfl, _, _, rfl, rfl, _, rfl, l, xs, rfl, SqL.of (s9 _ _ l8), fun q2 hq2 => ?_⟩
        have ic2 : ((i : Nat) : Int) + 1 = ((i + 1 : Nat) : Int) := rfl
        rw [ic2, cut_from xs (i + 1) (by omega)] at *
        have s10 : Same H9 (upd H9 q2 (.lst (xs.drop (i + 1)))) := Same.upd1 hq2
        refine ⟨q1, q2, _, _, rfl, rfl, s10 _ _ q9, upd_same, ?_, fun q3 hq3 => ?_⟩
        · rw [List.length_take, List.length_drop]
          exact Nat.le_trans (by omega : _ ≤ 1000) (by decide)
        have s11 := s10.trans (Same.upd1 (o := .lst (xs.take i ++ xs.drop (i + 1))) hq3)
        generalize hH11 : upd (upd H9 q2 (.lst (xs.drop (i + 1)))) q3 (.lst (xs.take i ++ xs.drop (i + 1))) = H11 at s11 ⊢
        have q11 : H11 q3 = some (.lst (xs.take i ++ xs.drop (i + 1))) := by rw [← hH11, upd_same]
        have s811 := s9.trans s11
        have p11 := s811 _ _ p8
        refine ⟨_, rfl, p, C, dx, _, rfl, p11, R.i.cl, R.nc, (by exact hR.at_.fxo.len (d := Dd) (l := l)), ?_⟩
        refine ⟨_, rfl, ?_⟩
        have kp07 : Kp p H H7 := fun b o hb e => by
          by_cases hbD : b = Dd
          · rw [hbD, s05.free hDn] at e; cases e
          · exact k7 b o hbD (s06 b o e)
        have kp : Kp p H (upd H11 p (.ins C dx (putF "calls" (.ref q3) (roomF Dd l fx)))) := ((kp07.trans kp8).trans (Kp.of s811)).upd
        have kr78 : Kr ad.CR H7 H8 := kp8.kr p7 ne
        have krE : Kr ad.CR H11 (upd H11 p (.ins C dx (putF "calls" (.ref q3) (roomF Dd l fx)))) := ((Kp.refl p H11).upd).kr p11 ne
        have krL : Kr ad.CR H1 (upd H11 p (.ins C dx (putF "calls" (.ref q3) (roomF Dd l fx)))) := (Kr.of (s15.trans s6)).trans (kr7.trans (kr78.trans ((Kr.of s811).trans krE)))
        have q3n : H q3 = none := by
          have h8 : H8 q3 = none := (s9.trans s10).free hq3
          cases e : H q3 with
          | none => rfl
          | some o =>
            have ne3 : q3 ≠ p := fun w => by rw [w, p8] at h8; cases h8
            rw [(kp07.trans kp8) q3 o ne3 e] at h8
            cases h8
        refine k Dd q3 _ kp q3n ⟨upd_same, hR.at_.fxo, ⟨ls7, ?_, (hls7.kr kr78).kr ((Kr.of s811).trans krE)⟩, _, ?_, p_app (p_take i (hlog.kr krL)) (p_drop (i + 1) (hlog.kr krL))⟩
        · rw [upd_ne hDp]
          exact s811 _ _ (kp8 _ _ hDp e7)
        · rw [upd_ne (ne_of q11 p11 (by intro w; cases w))]
          exact q11
end
end BX
end
section
set_option Elab.async false
set_option linter.all false
set_option maxRecDepth 100000
set_option maxHeartbeats 4000000
/-! sleeping generators, hidden from a run -/
namespace BXG
open PySem
open Sem (wp)
/-- its looks, without its life -/
def deadOf : GenState → GenState
  | .suspended _ l c p fs cl => .suspended (fun _ => .unsupported "") l c p fs cl
  | x => x
def isSusp : GenState → Bool
  | .suspended .. => true
  | _ => false
theorem dead_seen (x : GenState) : (deadOf x).seen = x.seen := by cases x <;> rfl
theorem dead_bare (x : GenState) : (deadOf x).bare = x.bare := by cases x <;> rfl
def Cl : List Frame → Prop
  | [] => True
  | .ret .. :: r => Cl r
  | .gen .. :: _ => False
theorem Cl.app : ∀ {l r : List Frame}, Cl l → Cl r → Cl (l ++ r)
  | [], _, _, h => h
  | .ret .. :: l, _, h, h' => Cl.app (l := l) h h'
  | .gen .. :: _, _, h, _ => h.elim
theorem Cl.split : ∀ {l : List Frame}, Cl l → splitAtGen l = none
  | [], _ => rfl
  | .ret .. :: l, h => by
    show (splitAtGen l).map _ = none
    rw [Cl.split (l := l) h]
    rfl
  | .gen .. :: _, h => h.elim
structure Fz (D : Nat → Option GenState) (G G' : Array GenState) : Prop where
  size : G.size = G'.size
  dead : ∀ i X, D i = some X → isSusp X = true ∧ G[i]? = some (deadOf X) ∧ G'[i]? = some X
  live : ∀ i, D i = none → G[i]? = G'[i]? ∧ ∀ k l c p fs cl, G[i]? = some (.suspended k l c p fs cl) → Cl fs
def clG : GenState → Prop
  | .suspended _ _ _ _ fs _ => Cl fs
  | _ => True
def clE : End → Prop
  | .susp _ _ _ _ _ _ fs => Cl fs
  | _ => True
theorem clE.gen : ∀ {e : End}, clE e → clG e.genState
  | .ret _, _ => trivial
  | .susp .., h => h
section
variable {D : Nat → Option GenState} {G G' : Array GenState}
theorem Fz.lt (z : Fz D G G') {i : Nat} {X : GenState} (h : D i = some X) : i < G.size := (Array.getElem?_eq_some_iff.mp (z.dead i X h).2.1).1
theorem Fz.push (z : Fz D G G') {c : Code} : Fz D (G.push (.fresh c)) (G'.push (.fresh c)) := by
  refine ⟨by rw [Array.size_push, Array.size_push, z.size], fun i X h => ?_, fun i h => ?_⟩
  · obtain ⟨h1, h2, h3⟩ := z.dead i X h
    refine ⟨h1, ?_, ?_⟩
    · rw [Array.getElem?_push_lt (z.lt h)]
      rw [Array.getElem?_eq_getElem (z.lt h)] at h2
      exact h2
    · have := z.lt h
      rw [z.size] at this
      rw [Array.getElem?_push_lt this]
      rw [Array.getElem?_eq_getElem this] at h3
      exact h3
  · obtain ⟨h1, h2⟩ := z.live i h
    rw [Array.getElem?_push, Array.getElem?_push, z.size]
    by_cases e : i = G'.size
    · rw [if_pos e, if_pos e]
      exact ⟨rfl, fun k l c p fs cl q => by cases q⟩
    · rw [if_neg e, if_neg e]
      exact ⟨h1, h2⟩
theorem Fz.set (z : Fz D G G') {g : Nat} {x : GenState} (hg : D g = none) (hx : clG x) : Fz D (G.setIfInBounds g x) (G'.setIfInBounds g x) := by
  refine ⟨by simp [z.size], fun i X h => ?_, fun i h => ?_⟩
  · have ne : g ≠ i := fun e => by subst e; rw [hg] at h; cases h
    rw [Array.getElem?_setIfInBounds_ne ne, Array.getElem?_setIfInBounds_ne ne]
    exact z.dead i X h
  · by_cases e : g = i
    · subst e
      have e1 : (G.setIfInBounds g x)[g]? = (G'.setIfInBounds g x)[g]? := by simp [Array.getElem?_setIfInBounds, z.size]
      refine ⟨e1, fun k l c p fs cl q => ?_⟩
      rw [Array.getElem?_setIfInBounds] at q
      simp at q
      obtain ⟨_, rfl⟩ := q
      exact hx
    · rw [Array.getElem?_setIfInBounds_ne e, Array.getElem?_setIfInBounds_ne e]
      exact z.live i h
/-- who is not suspended is alive -/
theorem Fz.alive (z : Fz D G G') {g : Nat} {x : GenState} (h : G[g]? = some x) (hx : isSusp x = false) : D g = none ∧ G'[g]? = some x := by
  cases e : D g with
  | none => exact ⟨rfl, by rw [← (z.live g e).1]; exact h⟩
  | some X =>
    obtain ⟨h1, h2, _⟩ := z.dead g X e
    rw [h] at h2
    cases h2
    cases X <;> simp [isSusp, deadOf] at h1 hx
end
theorem runs_uns {M : Model} {Γ : Ctx} {p : Pos} {t : Sem PySem.Fin} {fs : List Frame} {s s' : Shared} {e : End} (h : Runs M Γ p t fs s e s') : ∀ w, t = .unsupported w → False := by
  induction h <;> intro w hw <;> first
    | (cases hw; done)
    | (rename_i ih _; exact ih w hw)
    | (rename_i ih; exact ih w hw)
    | (rename_i ih _ _; exact ih w hw)
    | (rename_i ih _ _ _; exact ih w hw)
theorem runs_frame {M : Model} {D : Nat → Option GenState} {Γ : Ctx} {p : Pos} {t : Sem PySem.Fin} {fs : List Frame} {s s' : Shared} {e : End} (h : Runs M Γ p t fs s e s') : Cl fs → ∀ G', Fz D s.gens G' →
    ∃ G'', Fz D s'.gens G'' ∧ Runs M Γ p t fs { s with gens := G' } e { s' with gens := G'' } ∧ clE e := by
  induction h with
  | done => intro hc G' z; exact ⟨G', z, .done, trivial⟩
  | raise => intro hc G' z; exact ⟨G', z, .raise, trivial⟩
  | again hq _ ih => intro hc G' z; obtain ⟨G'', z', r, c⟩ := ih hc G' z; exact ⟨G'', z', .again hq r, c⟩
  | rule _ ih => intro hc G' z; obtain ⟨G'', z', r, c⟩ := ih hc G' z; exact ⟨G'', z', .rule r, c⟩
  | «at» _ ih => intro hc G' z; obtain ⟨G'', z', r, c⟩ := ih hc G' z; exact ⟨G'', z', .at r, c⟩
  | load ho _ ih => intro hc G' z; obtain ⟨G'', z', r, c⟩ := ih hc G' z; exact ⟨G'', z', .load ho r, c⟩
  | update ha _ ih => intro hc G' z; obtain ⟨G'', z', r, c⟩ := ih hc G' z; exact ⟨G'', z', .update ha r, c⟩
  | loadIfAlive _ ih => intro hc G' z; obtain ⟨G'', z', r, c⟩ := ih hc G' z; exact ⟨G'', z', .loadIfAlive r, c⟩
  | point _ ih => intro hc G' z; obtain ⟨G'', z', r, c⟩ := ih hc G' z; exact ⟨G'', z', .point r, c⟩
  | alloc _ ih => intro hc G' z; obtain ⟨G'', z', r, c⟩ := ih hc G' z; exact ⟨G'', z', .alloc r, c⟩
  | fresh _ ih => intro hc G' z; obtain ⟨G'', z', r, c⟩ := ih hc G' z; exact ⟨G'', z', .fresh r, c⟩
  | ask _ ih => intro hc G' z; obtain ⟨G'', z', r, c⟩ := ih hc G' z; exact ⟨G'', z', .ask r, c⟩
  | choose hn _ ih => intro hc G' z; obtain ⟨G'', z', r, c⟩ := ih hc G' z; exact ⟨G'', z', .choose hn r, c⟩
  | os _ ih => intro hc G' z; obtain ⟨G'', z', r, c⟩ := ih hc G' z; exact ⟨G'', z', .os r, c⟩
  | handled _ ih => intro hc G' z; obtain ⟨G'', z', r, c⟩ := ih hc G' z; exact ⟨G'', z', .handled r, c⟩
  | @genState g st Γ p k s e s' hg _ ih =>
    intro hc G' z
    obtain ⟨G'', z', r, c⟩ := ih hc G' z
    cases hD : D g with
    | none => exact ⟨G'', z', .genState (s := { s with gens := G' }) (by rw [← (z.live g hD).1]; exact hg) r, c⟩
    | some X =>
      obtain ⟨_, h2, h3⟩ := z.dead g X hD
      rw [hg] at h2
      cases h2
      rw [dead_seen] at r
      exact ⟨G'', z', .genState (s := { s with gens := G' }) h3 r, c⟩
  | stack _ ih => intro hc G' z; obtain ⟨G'', z', r, c⟩ := ih hc G' z; exact ⟨G'', z', .stack r, c⟩
  | thread _ ih => intro hc G' z; obtain ⟨G'', z', r, c⟩ := ih hc G' z; exact ⟨G'', z', .thread r, c⟩
  | @newGen Γ p k s e s' c _ ih =>
    intro hc G' z
    obtain ⟨G'', z', r, c'⟩ := ih hc (G'.push (.fresh c)) z.push
    rw [z.size] at r
    exact ⟨G'', z', .newGen (s := { s with gens := G' }) r, c'⟩
  | call _ _ ih1 ih2 =>
    intro hc G' z
    obtain ⟨G1, z1, r1, _⟩ := ih1 trivial G' z
    obtain ⟨G2, z2, r2, c2⟩ := ih2 hc G1 z1
    exact ⟨G2, z2, .call r1 r2, c2⟩
  | callSusp _ ih1 =>
    intro hc G' z
    obtain ⟨G1, z1, r1, c1⟩ := ih1 trivial G' z
    exact ⟨G1, z1, .callSusp r1, Cl.app c1 trivial⟩
  | yield => intro hc G' z; exact ⟨G', z, .yield, trivial⟩
  | @resumeFresh Γ p g l k s c e₁ s₁ e s' hg _ hq _ ih1 ih2 =>
    intro hc G' z
    obtain ⟨hD, hg'⟩ := z.alive hg rfl
    obtain ⟨G1, z1, r1, c1⟩ := ih1 trivial _ (z.set (x := .running) hD trivial)
    obtain ⟨G2, z2, r2, c2⟩ := ih2 hc _ (z1.set hD (clE.gen c1))
    exact ⟨G2, z2, .resumeFresh (s := { s with gens := G' }) (s₁ := { s₁ with gens := G1 }) hg' r1 hq r2, c2⟩
  | @resumeSuspended Γ p g r l k s k₀ l₀ c₀ p₀ fs cl e₁ s₁ e s' hg hr hq _ ih1 ih2 =>
    intro hc G' z
    cases hD : D g with
    | some X =>
      obtain ⟨h1, h2, _⟩ := z.dead g X hD
      rw [hg] at h2
      cases X with
      | suspended k' l' c' p' fs' cl' =>
        simp only [deadOf, Option.some.injEq, GenState.suspended.injEq] at h2
        obtain ⟨rfl, _⟩ := h2
        exact (runs_uns hr _ rfl).elim
      | _ => simp [isSusp] at h1
    | none =>
      obtain ⟨e1, cl1⟩ := z.live g hD
      obtain ⟨G1, z1, r1, c1⟩ := ih1 (cl1 _ _ _ _ _ _ hg) _ (z.set (x := .running) hD trivial)
      obtain ⟨G2, z2, r2, c2⟩ := ih2 hc _ (z1.set hD (clE.gen c1))
      exact ⟨G2, z2, .resumeSuspended (s := { s with gens := G' }) (s₁ := { s₁ with gens := G1 }) (by rw [← e1]; exact hg) r1 hq r2, c2⟩
  | resumeJustStarted hg hv _ ih =>
    intro hc G' z
    obtain ⟨hD, hg'⟩ := z.alive hg rfl
    obtain ⟨G'', z', r, c'⟩ := ih hc G' z
    exact ⟨G'', z', .resumeJustStarted hg' hv r, c'⟩
  | resumeThrowFresh hg _ ih =>
    intro hc G' z
    obtain ⟨hD, hg'⟩ := z.alive hg rfl
    obtain ⟨G'', z', r, c'⟩ := ih hc _ (z.set (x := .finished) hD trivial)
    exact ⟨G'', z', .resumeThrowFresh hg' r, c'⟩
  | resumeRunning hg _ ih =>
    intro hc G' z
    obtain ⟨hD, hg'⟩ := z.alive hg rfl
    obtain ⟨G'', z', r, c'⟩ := ih hc G' z
    exact ⟨G'', z', .resumeRunning hg' r, c'⟩
  | resumeFinished hg _ ih =>
    intro hc G' z
    obtain ⟨hD, hg'⟩ := z.alive hg rfl
    obtain ⟨G'', z', r, c'⟩ := ih hc G' z
    exact ⟨G'', z', .resumeFinished hg' r, c'⟩
  | segRet _ _ ih1 ih2 =>
    intro hc G' z
    obtain ⟨G1, z1, r1, _⟩ := ih1 trivial G' z
    obtain ⟨G2, z2, r2, c2⟩ := ih2 hc G1 z1
    exact ⟨G2, z2, .segRet r1 r2, c2⟩
  | segGen _ _ ih1 ih2 => intro hc; exact hc.elim
  | segSuspOut hsp _ ih =>
    intro hc G' z
    obtain ⟨G1, z1, r1, c1⟩ := ih trivial G' z
    exact ⟨G1, z1, .segSuspOut hsp r1, Cl.app c1 hc⟩
  | segSuspGen hsp _ _ _ ih1 ih2 =>
    intro hc
    rw [hc.split] at hsp
    cases hsp
/-- the wake -/
theorem wakes_frame {M : Model} {D : Nat → Option GenState} {Γ : Ctx} {p : Pos} {g : Nat} {r : Resume} {s s' : Shared} {res : GenResult} (h : Wakes M Γ p g r s res s') {G' : Array GenState} (z : Fz D s.gens G') :
    ∃ G'', Fz D s'.gens G'' ∧ Wakes M Γ p g r { s with gens := G' } res { s' with gens := G'' } := by
  unfold Wakes at h
  cases hg : s.gens[g]? with
  | none => rw [hg] at h; exact h.elim
  | some x =>
    rw [hg] at h
    cases x with
    | fresh c =>
      obtain ⟨hD, hg'⟩ := z.alive hg rfl
      cases r with
      | send v =>
        have key : ∀ (v : Value), (match Resume.send v with
            | .send .none => ∃ e₁ s₁, Runs M (Γ.wake c p) p (M.den c) [] (s.setGen g .running) e₁ s₁ ∧ e₁.quiet = true ∧ res = e₁.result ∧ s' = s₁.setGen g e₁.genState
            | .send _ => res = .justStarted ∧ s' = s
            | .throw x => res = .raised x ∧ s' = s.setGen g .finished) → ∃ G'', Fz D s'.gens G'' ∧ Wakes M Γ p g (.send v) { s with gens := G' } res { s' with gens := G'' } := by
          intro v h
          unfold Wakes
          show ∃ G'', Fz D s'.gens G'' ∧ (match G'[g]? with | none => _ | some (.fresh c) => _ | some (.suspended k₀ _ c₀ p₀ fs _) => _ | some .running => _ | some .finished => _)
          rw [hg']
          cases v with
          | none =>
            obtain ⟨e₁, s₁, hr, hq, h1, h2⟩ := h
            obtain ⟨G1, z1, r1, c1⟩ := runs_frame hr trivial _ (z.set (x := .running) hD trivial)
            subst h2
            exact ⟨_, z1.set hD (clE.gen c1), e₁, { s₁ with gens := G1 }, r1, hq, h1, rfl⟩
          | _ =>
            obtain ⟨h1, h2⟩ := h
            subst h2
            exact ⟨G', z, h1, rfl⟩
        exact key v h
      | throw x =>
        obtain ⟨h1, h2⟩ := h
        subst h2
        refine ⟨_, z.set (x := .finished) hD trivial, ?_⟩
        unfold Wakes
        show (match G'[g]? with | none => _ | some (.fresh c) => _ | some (.suspended k₀ _ c₀ p₀ fs _) => _ | some .running => _ | some .finished => _)
        rw [hg']
        exact ⟨h1, rfl⟩
    | suspended k₀ l₀ c₀ p₀ fs cl =>
      obtain ⟨e₁, s₁, hr, hq, h1, h2⟩ := h
      cases hD : D g with
      | some X =>
        obtain ⟨h1, h2, _⟩ := z.dead g X hD
        rw [hg] at h2
        cases X with
        | suspended k' l' c' p' fs' cl' =>
          simp only [deadOf, Option.some.injEq, GenState.suspended.injEq] at h2
          obtain ⟨rfl, _⟩ := h2
          exact (runs_uns hr _ rfl).elim
        | _ => simp [isSusp] at h1
      | none =>
        obtain ⟨e1, cl1⟩ := z.live g hD
        obtain ⟨G1, z1, r1, c1⟩ := runs_frame hr (cl1 _ _ _ _ _ _ hg) _ (z.set (x := .running) hD trivial)
        subst h2
        refine ⟨_, z1.set hD (clE.gen c1), ?_⟩
        unfold Wakes
        show (match G'[g]? with | none => _ | some (.fresh c) => _ | some (.suspended k₀ _ c₀ p₀ fs _) => _ | some .running => _ | some .finished => _)
        rw [← e1, hg]
        exact ⟨e₁, { s₁ with gens := G1 }, r1, hq, h1, rfl⟩
    | running =>
      obtain ⟨hD, hg'⟩ := z.alive hg rfl
      obtain ⟨h1, h2⟩ := h
      subst h2
      refine ⟨_, z, ?_⟩
      unfold Wakes
      show (match G'[g]? with | none => _ | some (.fresh c) => _ | some (.suspended k₀ _ c₀ p₀ fs _) => _ | some .running => _ | some .finished => _)
      rw [hg']
      exact ⟨h1, rfl⟩
    | finished =>
      obtain ⟨hD, hg'⟩ := z.alive hg rfl
      obtain ⟨h1, h2⟩ := h
      subst h2
      refine ⟨_, z, ?_⟩
      unfold Wakes
      show (match G'[g]? with | none => _ | some (.fresh c) => _ | some (.suspended k₀ _ c₀ p₀ fs _) => _ | some .running => _ | some .finished => _)
      rw [hg']
      exact ⟨h1, rfl⟩
theorem wp_frame {α : Type} {D : Nat → Option GenState} (M : Model) (Γ : Ctx) (t : Sem α) : ∀ (Q : α → Pos → Shared → Prop) (E : Value → Pos → Shared → Prop) (p : Pos) (s : Shared) (G' : Array GenState), Fz D s.gens G' → wp M Γ t Q E p s →
    wp M Γ t (fun a p' s' => ∃ s1, Q a p' s1 ∧ Fz D s1.gens s'.gens ∧ s' = { s1 with gens := s'.gens }) (fun e p' s' => ∃ s1, E e p' s1 ∧ Fz D s1.gens s'.gens ∧ s' = { s1 with gens := s'.gens }) p { s with gens := G' } := by
  induction t with
  | pure a => intro Q E p s G' z h; exact ⟨s, h, z, rfl⟩
  | raise e => intro Q E p s G' z h; exact ⟨s, h, z, rfl⟩
  | unsupported _ => intro Q E p s _ _ h; exact h
  | finish _ => intro Q E p s _ _ h; exact h
  | rule _ k ih => intro Q E p s G' z h; exact ih () Q E p s G' z h
  | «at» p' k ih => intro Q E p s G' z h; exact ih () Q E p' s G' z h
  | load a _ k ih => intro Q E p s G' z h; obtain ⟨o, ho, h⟩ := h; exact ⟨o, ho, ih o Q E p s G' z h⟩
  | update a _ f k ih => intro Q E p s G' z h; exact ⟨h.1, ih () Q E p { s with heap := s.heap.update a f } G' z h.2⟩
  | loadIfAlive a k ih => intro Q E p s G' z h; exact ih _ Q E p s G' z h
  | point _ k ih => intro Q E p s G' z h; exact ih () Q E p s G' z h
  | register _ _ => intro Q E p s _ _ h; exact h
  | alloc o k ih => intro Q E p s G' z h; exact ih _ Q E p { s with heap := s.heap.push o } G' z h
  | fresh k ih => intro Q E p s G' z h; exact ih _ Q E p { s with toks := s.toks + 1 } G' z h
  | ask k ih => intro Q E p s G' z h; exact ih _ Q E p s G' z h
  | choose src m k ih => intro Q E p s G' z h; exact ⟨h.1, ih _ Q E p { s with drawn := s.drawn.bump src } G' z h.2⟩
  | os q _ k ih => intro Q E p s G' z h; exact ih _ Q E p { s with os := (Os.step s.os q).1 } G' z h
  | call c hd _ _ k ih =>
    intro Q E p s G' z h
    obtain ⟨r, s', hr, h⟩ := h
    obtain ⟨G1, z1, r1, _⟩ := runs_frame hr trivial G' z
    exact ⟨r, { s' with gens := G1 }, r1, ih r Q E p s' G1 z1 h⟩
  | handled own k ih => intro Q E p s G' z h; exact ih _ Q E p s G' z h
  | genState g k ih =>
    intro Q E p s G' z h
    obtain ⟨st, hg, h⟩ := h
    cases hD : D g with
    | none => exact ⟨st, by rw [← (z.live g hD).1]; exact hg, ih _ Q E p s G' z h⟩
    | some X =>
      obtain ⟨_, h2, h3⟩ := z.dead g X hD
      rw [hg] at h2
      cases h2
      rw [dead_seen] at h
      exact ⟨X, h3, ih _ Q E p s G' z h⟩
  | newGen c k ih =>
    intro Q E p s G' z h
    have h : wp M Γ (k s.gens.size) Q E p { s with gens := s.gens.push (.fresh c) } := h
    have q := ih s.gens.size Q E p { s with gens := s.gens.push (.fresh c) } (G'.push (.fresh c)) z.push h
    rw [z.size] at q
    exact q
  | resume g r _ k ih =>
    intro Q E p s G' z h
    obtain ⟨res, s', hw, h⟩ := h
    obtain ⟨G1, z1, w1⟩ := wakes_frame hw z
    exact ⟨res, { s' with gens := G1 }, w1, ih res Q E p s' G1 z1 h⟩
  | yield _ _ _ _ => intro Q E p s _ _ h; exact h
  | stack k ih => intro Q E p s G' z h; exact ih _ Q E p s G' z h
  | fork _ _ => intro Q E p s _ _ h; exact h
  | thread k ih => intro Q E p s G' z h; exact ih _ Q E p s G' z h
  | await _ _ _ _ _ => intro Q E p s _ _ h; exact h
/-- all sleepers hidden -/
def hidG (s : Shared) : Shared := { s with gens := s.gens.map deadOf }
structure Wk (s s1 s' : Shared) : Prop where
  heap : s'.heap = s1.heap
  os : s'.os = s1.os
  drawn : s'.drawn = s1.drawn
  toks : s'.toks = s1.toks
  bare : PyProof.Rows.AllBare s1.gens → PyProof.Rows.AllBare s'.gens
  size : s.gens.size ≤ s'.gens.size
  stay : ∀ (g : Nat) (X : GenState), s.gens[g]? = some X → isSusp X = true → s'.gens[g]? = some X
theorem wpAny_hid {α : Type} {M : Model} {A : Around} {t : Sem α} {Q : α → Shared → Prop} {E : Value → Shared → Prop} {s : Shared} (h : wpAny M A t (fun a s1 => ∀ s', Wk s s1 s' → Q a s') (fun e s1 => ∀ s', Wk s s1 s' → E e s') (hidG s)) : wpAny M A t Q E s := by
  let D : Nat → Option GenState := fun i => match s.gens[i]? with
    | some X => if isSusp X = true then some X else none
    | none => none
  have hDs : ∀ i X, D i = some X ↔ (s.gens[i]? = some X ∧ isSusp X = true) := fun i X => by
    show (match s.gens[i]? with | some X => if isSusp X = true then some X else none | none => none) = some X ↔ _
    cases e : s.gens[i]? with
    | none => simp
    | some Y =>
      show (if isSusp Y = true then some Y else none) = some X ↔ some Y = some X ∧ isSusp X = true
      by_cases hy : isSusp Y = true
      · rw [if_pos hy]
        exact ⟨fun z => ⟨z, by rw [← Option.some.inj z]; exact hy⟩, fun z => z.1⟩
      · rw [if_neg hy]
        exact ⟨fun z => (by cases z), fun z => absurd (by rw [Option.some.inj z.1]; exact z.2) hy⟩
  have z0 : Fz D (hidG s).gens s.gens := by
    refine ⟨by show (s.gens.map deadOf).size = _; rw [Array.size_map], fun i X hX => ?_, fun i hD => ?_⟩
    · obtain ⟨h1, h2⟩ := (hDs i X).mp hX
      refine ⟨h2, ?_, h1⟩
      show (s.gens.map deadOf)[i]? = _
      rw [Array.getElem?_map, h1]
      rfl
    · have e : (s.gens.map deadOf)[i]? = s.gens[i]? := by
        rw [Array.getElem?_map]
        cases e : s.gens[i]? with
        | none => rfl
        | some Y =>
          cases Y with
          | suspended k l c p fs cl =>
            have := (hDs i _).mpr ⟨e, rfl⟩
            rw [hD] at this
            cases this
          | _ => rfl
      refine ⟨e, fun k l c p fs cl q => ?_⟩
      have q : (s.gens.map deadOf)[i]? = _ := q
      rw [e] at q
      have := (hDs i _).mpr ⟨q, rfl⟩
      rw [hD] at this
      cases this
  intro Γ p hΓ
  have q := wp_frame M Γ t _ _ p (hidG s) s.gens z0 (h Γ p hΓ)
  have fin : ∀ (s1 s' : Shared), Fz D s1.gens s'.gens → s' = { s1 with gens := s'.gens } → s.gens.size ≤ s'.gens.size → Wk s s1 s' := fun s1 s' z es hsz => by
    refine ⟨by rw [es], by rw [es], by rw [es], by rw [es], fun hb => ?_, hsz, fun g X hX hs => ?_⟩
    · intro x hx
      obtain ⟨i, hi, rfl⟩ := Array.mem_iff_getElem.mp hx
      have ei : s'.gens[i]? = some s'.gens[i] := Array.getElem?_eq_getElem hi
      cases hD : D i with
      | none =>
        rw [← (z.live i hD).1] at ei
        exact hb _ (Array.mem_of_getElem? ei)
      | some X =>
        obtain ⟨_, h2, h3⟩ := z.dead i X hD
        rw [h3] at ei
        have ei := Option.some.inj ei
        rw [← ei, ← dead_bare]
        exact hb _ (Array.mem_of_getElem? h2)
    · exact (z.dead g X ((hDs g X).mpr ⟨hX, hs⟩)).2.2
  have es : ({ hidG s with gens := s.gens } : Shared) = s := rfl
  rw [es] at q
  exact Sem.wp_mono M Γ t (fun a p' s' ⟨hn, s1, hq, z, e⟩ => hq s' (fin s1 s' z e hn)) (fun x p' s' ⟨hn, s1, hq, z, e⟩ => hq s' (fin s1 s' z e hn)) p s (GenW.wp_gsz M Γ s.gens.size t _ _ p s (Nat.le_refl _) q)
end BXG
end
section
set_option Elab.async false
set_option linter.all false
set_option maxRecDepth 100000
set_option maxHeartbeats 4000000
/-! a generator over a list, by its turns -/
namespace BXG
open PySem PySem.Spec PyProof.Rows L2
open Sem (wp)
section
variable {prog : Program} {w : World} {A : Around} {E : Value → Shared → Prop} {s : Shared}
theorem special_list_item {it l : Addr} {i : Nat} {items : Array Value} {x : Value} {Q : Option Value → Shared → Prop} (hit : s.heap.IsListIter it l i) (hl : s.heap.IsList l items) (hx : items[i]? = some x)
    (hQ : ∀ h', h'.IsListIter it l (i + 1) → Heap.SameBut it s.heap h' → Q (some x) { s with heap := h' }) : wpAny (model prog w) A (callSpecial? (.ref it) "__next__") Q E s := by
  obtain ⟨o, ho, hc, hd⟩ := id hit
  obtain ⟨ol, hol, _, nl, hdl⟩ := hl
  refine wpAny_callSpecial?_slot (name := Str.ofString "__next__") hit.typeIs slot_listiter_next (wpAny_call_entry slot_listiter_next hit.typeIs entry_listiter_next ?_ (args_listiter_next _))
  show wpAny _ _ (field (.ref it) 0 >>= _) _ _ s
  refine wpAny_bind (wpAny_field ho hd (x := .ref l) rfl ?_)
  show wpAny _ _ (if (Value.ref l == Value.none) = true then _ else _) _ _ s
  rw [if_neg (show ¬ ((Value.ref l == Value.none) = true) from Bool.false_ne_true)]
  show wpAny _ _ (field (.ref it) 1 >>= _) _ _ s
  refine wpAny_bind (wpAny_field ho hd (x := .int i 0) rfl ?_)
  show wpAny _ _ (seqItems? (.ref l) >>= _) _ _ s
  refine wpAny_bind (wpAny_seqItems hol hdl ?_)
  simp only [Int.toNat_natCast, hx]
  refine wpAny_bind (wpAny_setField ho hd (by simp) (wpAny_pure ⟨x, rfl, hQ _ ?_ (Heap.SameBut.update ..)⟩))
  exact ⟨_, Heap.get?_update_self _ ho (Obj.isFreed_of_fields (Obj.data_mapFields hd _)), (Obj.cls_mapFields ..).trans hc, by
    rw [Obj.data_mapFields hd]; simp [rawInt]⟩
theorem special_list_end {it l : Addr} {i : Nat} {items : Array Value} {Q : Option Value → Shared → Prop} (hh : A.handled = none) (hit : s.heap.IsListIter it l i) (hl : s.heap.IsList l items) (hx : items[i]? = none)
    (hE : ∀ e h', StopX e h' → Heap.ExtBut it s.heap h' → E e { s with heap := h' }) : wpAny (model prog w) A (callSpecial? (.ref it) "__next__") Q E s := by
  obtain ⟨o, ho, hc, hd⟩ := id hit
  obtain ⟨ol, hol, _, nl, hdl⟩ := hl
  refine wpAny_callSpecial?_slot (name := Str.ofString "__next__") hit.typeIs slot_listiter_next (wpAny_call_entry slot_listiter_next hit.typeIs entry_listiter_next ?_ (args_listiter_next _))
  show wpAny _ _ (field (.ref it) 0 >>= _) _ _ s
  refine wpAny_bind (wpAny_field ho hd (x := .ref l) rfl ?_)
  show wpAny _ _ (if (Value.ref l == Value.none) = true then _ else _) _ _ s
  rw [if_neg (show ¬ ((Value.ref l == Value.none) = true) from Bool.false_ne_true)]
  show wpAny _ _ (field (.ref it) 1 >>= _) _ _ s
  refine wpAny_bind (wpAny_field ho hd (x := .int i 0) rfl ?_)
  show wpAny _ _ (seqItems? (.ref l) >>= _) _ _ s
  refine wpAny_bind (wpAny_seqItems hol hdl ?_)
  simp only [Int.toNat_natCast, hx]
  refine wpAny_bind (wpAny_rule (wpAny_bind (wpAny_setField ho hd (by simp) ?_)))
  show wpAny _ _ (newExc (.type "StopIteration") [] >>= _) _ _ _
  refine wpAny_bind ?_
  simp only [newExc, newTuple]
  refine wpAny_bind (wpAny_newObj_type ?_ (by size_fits))
  refine wpAny_bind (m := firstArgMember _ _) (wpAny_of_eq (a := Value.none) (by first | rfl | (simp only [firstArgMember]; rfl)) ?_)
  refine wpAny_newObj_type ?_ (by size_fits)
  simp only [raiseNew]
  refine wpAny_bind (wpAny_handled ?_)
  first | rw [show A.in1.handled = none from hh] | rw [hh]
  refine wpAny_bind (wpAny_pure (wpAny_throw ?_))
  refine hE _ _ ⟨_, _, _, rfl, Heap.get?_push_size _ rfl, rfl, rfl, ?_⟩ (((Heap.SameBut.update ..).extBut.push _).push _)
  first
    | rfl
    | (rw [Array.getElem?_append_left (by decide)]; rfl)
    | kernel_rfl
end
theorem close_list : typeLookup (.type "list_iterator") "close" = pure none := by rw [typeLookup_type, builtinLookup_eq_fast]; kernel_rfl
section
variable {X : Cx} {e : Expr} {te : TE}
def tYfList (te : TE) : TYf := fun σ H Q => te σ H fun x H1 => ∃ a xs, x = .ref a ∧ H1 a = some (.lst xs) ∧ Q xs H1
theorem yf_list (he : PE X e te) : YfE X e (tYfList te) := by
  refine ⟨fun pins s σ H Q I h => ?_⟩
  refine thn (he.run pins s σ H _ I h) fun v s1 ⟨x, H1, I1, r1, a, xs, ex, ha, hq⟩ => ?_
  subst ex
  obtain rfl : v = Value.ref a := r1
  obtain ⟨hlen, its, n, rits, hob⟩ := I1.hok a _ ha
  have ht : s1.heap.IsList a its.toArray := ⟨_, hob, rfl, n, rfl⟩
  refine ⟨"list", ⟨_, hob, rfl⟩, by decide, wpAny_pyIter_list ht ?_⟩
  have ksz : ∀ b o, s1.heap.get? b = some o → b ≠ s1.heap.objs.size := fun b o e => Nat.ne_of_lt (Heap.lt_size e)
  have kp : ∀ b o, s1.heap.get? b = some o → (s1.heap.push { cls := .type "list_iterator", data := .fields #[.ref a, .int 0 0] }).get? b = some o := fun b o e => Heap.get?_push_of_some _ e
  refine ⟨s1.heap.objs.size, H1, xs, fun j h => h.IsListIter s1.heap.objs.size a j ∧ h.IsList a its.toArray, rfl, I1.kept (t' := s1.toks) kp, .inr I1.sz, Nat.ne_of_gt I1.lt, fun y c hy => ?_, I1.hok.fresh (Nat.le_refl _), fun p hp => ?_,
    ⟨⟨_, Heap.get?_push_size _ rfl, rfl, rfl⟩, ⟨_, kp _ _ hob, rfl, n, rfl⟩⟩, ⟨⟨"list_iterator", fun j h q => ?_, close_list, by decide⟩, fun j h h' q hk => ?_, fun A' j x s2 Q' E' hA hx q hQ => ?_, fun A' s2 Q' E' hA q hE => ?_⟩, hq⟩
  · obtain ⟨v, o, ho, _⟩ := I1.cell y c hy
    exact ksz c o ho
  · exact ksz p.1 _ (I1.pin p hp).1
  · obtain ⟨⟨o, ho, hc, _⟩, _⟩ := q
    exact ⟨o, ho, hc⟩
  · obtain ⟨⟨o, ho, r⟩, o2, ho2, r2⟩ := q
    exact ⟨⟨o, hk _ o (.inl rfl) ho, r⟩, o2, hk _ o2 (.inr (by rw [ha]; exact fun z => by cases z)) ho2, r2⟩
  · obtain ⟨q1, q2⟩ := q
    obtain ⟨u, hu, ru⟩ := rits.get hx
    have hne : a ≠ s1.heap.objs.size := ksz a _ hob
    exact special_list_item q1 q2 (x := u) (by simpa using hu) fun h' q1' hs => hQ u h' s2.toks ru ⟨q1', (let ⟨o2, ho2, r2⟩ := q2; ⟨o2, (hs.2 a hne).trans ho2, r2⟩)⟩ fun b o hb eb => hs.extBut b o hb eb
  · obtain ⟨q1, q2⟩ := q
    have hnone : its.toArray[xs.length]? = none := by
      have e := rits.length
      have e2 : its[xs.length]? = none := List.getElem?_eq_none_iff.mpr (by omega)
      simpa using e2
    exact special_list_end hA q1 q2 hnone fun e h' hS hk => hE e h' s2.toks hS fun b o hb eb => hk b o hb eb
end
/-! ### segments, told of their end -/
def Sg (M : Model) (A : Around) (Φ : End → Shared → Prop) (c : Code) (t : Sem PySem.Fin) (fs : List Frame) (s : Shared) : Prop := ∀ Γ p, Γ.code = c → Γ.Woken A → ∃ e s', Runs M Γ p t fs s e s' ∧ Φ e s'
section
variable {M : Model} {A : Around} {Φ : End → Shared → Prop} {c : Code} {fs : List Frame} {s : Shared}
theorem Sg.mono {Φ' : End → Shared → Prop} {t : Sem PySem.Fin} (h : Sg M A Φ c t fs s) (f : ∀ e s', Φ e s' → Φ' e s') : Sg M A Φ' c t fs s := fun Γ p hc hΓ => by
  obtain ⟨e, s', r, q⟩ := h Γ p hc hΓ
  exact ⟨e, s', r, f e s' q⟩
theorem sg_wrap {α : Type} {m : Sem α} {K : α → Sem PySem.Fin} {J : Value → Sem PySem.Fin} {gd : Bool → Bool} {lv : List Value → List Value} (h : wpAny M (A.over c fs) m (fun a s' => Sg M A Φ c (K a) fs s') (fun x s' => Sg M A Φ c (J x) fs s') s) : Sg M A Φ c (m.wrap K J gd lv) fs s := by
  rintro Γ p rfl hΓ
  exact runs_wrap_of_wp K J gd lv m (h (Γ.over fs) p (hΓ.over fs)) (fun a p' s' h' => h' Γ p' rfl hΓ) (fun x p' s' h' => h' Γ p' rfl hΓ)
theorem sg_bind {α : Type} {m : Sem α} {K : α → Sem PySem.Fin} (h : wpAny M (A.over c fs) m (fun a s' => Sg M A Φ c (K a) fs s') (fun x s' => Sg M A Φ c (.raise x) fs s') s) : Sg M A Φ c (m >>= K) fs s := by
  rw [Sem.bind_eq_wrap']; exact sg_wrap h
theorem sg_bind_wrap {α β : Type} {m : Sem α} {K : α → Sem β} {K' : β → Sem PySem.Fin} {J : Value → Sem PySem.Fin} {gd : Bool → Bool} {lv : List Value → List Value}
    (h : wpAny M (A.over c fs) m (fun a s' => Sg M A Φ c ((K a).wrap K' J gd lv) fs s') (fun x s' => Sg M A Φ c (J x) fs s') s) : Sg M A Φ c ((m >>= K).wrap K' J gd lv) fs s := by
  rw [Sem.bind_eq_wrap', Sem.wrap_wrap]; exact sg_wrap h
theorem sg_bind2 {α β γ : Type} {m : Sem α} {f : α → Sem β} {f2 : β → Sem γ} {K : γ → Sem PySem.Fin} {J : Value → Sem PySem.Fin} {gd : Bool → Bool} {lv : List Value → List Value}
    (h : wpAny M (A.over c fs) m (fun a s' => Sg M A Φ c ((f a).wrap (fun b => (f2 b).wrap K J gd lv) J gd lv) fs s') (fun x s' => Sg M A Φ c (J x) fs s') s) : Sg M A Φ c (((m >>= f) >>= f2).wrap K J gd lv) fs s := by
  rw [Sem.bind_eq_wrap' (m >>= f) f2, Sem.wrap_wrap]
  exact sg_bind_wrap h
theorem sg_at {p' : Pos} {k : Unit → Sem PySem.Fin} (h : Sg M A Φ c (k ()) fs s) : Sg M A Φ c (.at p' k) fs s :=
  sg_wrap (m := standAt p') (K := k) (J := .raise) (gd := id) (lv := id) (wpAny_standAt h)
theorem sg_point {l : List Value} {k : Unit → Sem PySem.Fin} (h : Sg M A Φ c (k ()) fs s) : Sg M A Φ c (.point l k) fs s :=
  sg_wrap (m := point) (K := k) (J := .raise) (gd := id) (lv := fun _ => l) (wpAny_point h)
theorem sg_call {c' : Code} {h : Option Value} {g : Bool} {l : List Value} {k : Result → Sem PySem.Fin} (hc : ∀ p, Sg M A Φ c' (M.den c') (.ret k h g l c p [] :: fs) s) : Sg M A Φ c (.call c' h g l k) fs s := by
  rintro Γ p rfl hΓ
  obtain ⟨e, s', hr, he⟩ := hc p (Γ.goto c') p rfl (hΓ.goto c')
  exact ⟨e, s', runs_call_seg hr, he⟩
theorem sg_leaf {k : Result → Sem PySem.Fin} {h : Option Value} {g : Bool} {l : List Value} {c₁ : Code} {p₁ : Pos} {kp : List Value} (r : Result) (hk : Sg M A Φ c₁ (k r) fs s) : Sg M A Φ c (leafOf r) (.ret k h g l c₁ p₁ kp :: fs) s := by
  rintro Γ p rfl hΓ
  obtain ⟨e, s', hr, he⟩ := hk (Γ.goto c₁) p₁ rfl (hΓ.goto c₁)
  exact ⟨e, s', Runs.pop r hr, he⟩
theorem sg_again {c' : Code} (hq : c'.quiet = true) (hc : Sg M A Φ c' (M.den c') fs s) : Sg M A Φ c (.pure (.again c')) fs s := by
  rintro Γ p rfl hΓ
  obtain ⟨e, s', hr, he⟩ := hc (Γ.goto c') p rfl (hΓ.goto c')
  exact ⟨e, s', Runs.head (c₁ := c') (fun _ _ x => .again hq x) hr, he⟩
theorem sg_end (r : Result) (h : Φ (.ret r) s) : Sg M A Φ c (leafOf r) [] s := by
  rintro Γ p rfl _
  exact ⟨.ret r, s, Runs.leaf r, h⟩
theorem sg_yield {v : Value} {g : Bool} {l : List Value} {k : Resume → Sem PySem.Fin} (hfs : splitAtGen fs = none) (h : ∀ p, Φ (.susp v g l k c p fs) s) : Sg M A Φ c (.yield v g l k) fs s := by
  rintro Γ p rfl _
  exact ⟨_, s, Runs.yield' fs hfs, h p⟩
/-- a generator goes on -/
theorem wpAny_resume1 {E : Value → Shared → Prop} {g : Nat} {gs : GenState} {r : Resume} {l : List Value} {α : Type} {kk : GenResult → Sem α} {Q : α → Shared → Prop} (hg : s.gens[g]? = some gs)
    (hgo : match gs with
      | .fresh c => r = .send .none ∧ Sg M A Φ c (M.den c) [] (s.setGen g .running)
      | .suspended k _ c _ fs _ => Sg M A Φ c (k r) fs (s.setGen g .running)
      | _ => False)
    (hΦ : ∀ e s₁, Φ e s₁ → e.quiet = true ∧ wpAny M A (kk e.result) Q E (s₁.setGen g e.genState)) : wpAny M A (.resume g r l kk) Q E s := by
  intro Γ p hΓ
  rw [Sem.wp_resume]
  have hB : ∀ c, (Γ.wake c p).Woken A := fun c => hΓ.wake c p
  cases gs with
  | fresh c =>
    obtain ⟨rfl, hs⟩ := hgo
    obtain ⟨e₁, s₁, hr, he⟩ := hs (Γ.wake c p) p rfl (hB c)
    obtain ⟨hq, hw⟩ := hΦ e₁ s₁ he
    exact ⟨_, _, by unfold Wakes; rw [hg]; exact ⟨e₁, s₁, hr, hq, rfl, rfl⟩, hw Γ p hΓ⟩
  | suspended k₀ l₀ c₀ p₀ fs₀ cl =>
    obtain ⟨e₁, s₁, hr, he⟩ := hgo (Γ.wake c₀ p) p₀ rfl (hB c₀)
    obtain ⟨hq, hw⟩ := hΦ e₁ s₁ he
    exact ⟨_, _, by unfold Wakes; rw [hg]; exact ⟨e₁, s₁, hr, hq, rfl, rfl⟩, hw Γ p hΓ⟩
  | running => exact hgo.elim
  | finished => exact hgo.elim
end
/-- next(g): an item, or the end -/
theorem next_gen1 {P : Program} {w : World} {A : Around} {E : Value → Shared → Prop} {s : Shared} {a : Addr} {g : Nat} {gs : GenState} {Φ : End → Shared → Prop} {Q : Option Value → Shared → Prop} (hh : A.handled = none)
    (hl : s.heap.NoLimit) (hroom : A.depth < recursionLimit) (hg : s.heap.IsGen a g) (hgs : s.gens[g]? = some gs)
    (hgo : match gs with
      | .fresh c => Sg (model P w) A.in1 Φ c ((model P w).den c) [] (s.setGen g .running)
      | .suspended k _ c _ fs _ => Sg (model P w) A.in1 Φ c (k (.send .none)) fs (s.setGen g .running)
      | _ => False)
    (hΦ : ∀ e s₁, Φ e s₁ → (e = .ret (.ok (.ret .none)) ∧ ∀ h', (∀ b o, s₁.heap.get? b = some o → h'.get? b = some o) → Q none { s₁.setGen g .finished with heap := h' }) ∨
      (∃ v g0 l k c p fs, e = .susp v g0 l k c p fs ∧ e.quiet = true ∧ Q (some v) (s₁.setGen g e.genState))) :
    wpAny (model P w) A (pyNext (.ref a)) Q E s := by
  unfold pyNext
  refine wpAny_bind (wpAny_attempt (wpAny_callSpecial?_slot (name := Str.ofString "__next__") hg.typeIs slot_gen_next
    (wpAny_call_entry slot_gen_next hg.typeIs entry_gen_next ?_ (args_gen_next _))))
  show wpAny _ A.in1 (Builtin.Generator.genWake (.ref a) (.send .none)) _ _ s
  unfold Builtin.Generator.genWake
  refine wpAny_bind (wpAny_holding (wpAny_genNumber hg (wpAny_bind (wpAny_genState hgs ?_))))
  cases gs with
  | running => exact hgo.elim
  | finished => exact hgo.elim
  | fresh c =>
    refine wpAny_bind (wpAny_roomToWake hl hroom ?_)
    show wpAny _ A.in1 (.resume g (.send .none) [] _) _ _ s
    refine wpAny_resume1 (Φ := Φ) hgs ⟨rfl, hgo⟩ (fun e s₁ he => ?_)
    rcases hΦ e s₁ he with ⟨rfl, hq⟩ | ⟨v, g0, l, k, c', p, fs, rfl, hqt, hq⟩
    · refine ⟨rfl, ?_⟩
      show wpAny _ A.in1 (newExc (.type "StopIteration") [] >>= _) _ _ _
      refine wpAny_bind ?_
      simp only [newExc, newTuple]
      refine wpAny_bind (wpAny_newObj_type ?_ (by size_fits))
      refine wpAny_bind (m := firstArgMember _ _) (wpAny_of_eq (a := Value.none) (by first | rfl | (simp only [firstArgMember]; rfl)) ?_)
      refine wpAny_newObj_type ?_ (by size_fits)
      simp only [raiseNew]
      refine wpAny_bind (wpAny_bind (wpAny_handled ?_))
      first | rw [show A.in1.handled = none from hh] | rw [hh]
      refine wpAny_throw ?_
      refine wpAny_bind (wpAny_isInstance (T := "StopIteration") (b := true) ⟨_, Heap.get?_push_size _ rfl, rfl⟩ isSubtype_stop ?_)
      exact wpAny_pure (hq _ fun b o hb => Heap.get?_push_of_some _ (Heap.get?_push_of_some _ hb))
    · exact ⟨hqt, wpAny_pure ⟨v, rfl, wpAny_pure hq⟩⟩
  | suspended k0 l0 c0 p0 fs0 cl =>
    refine wpAny_bind (wpAny_roomToWake hl hroom ?_)
    show wpAny _ A.in1 (.resume g (.send .none) [] _) _ _ s
    refine wpAny_resume1 (Φ := Φ) hgs hgo (fun e s₁ he => ?_)
    rcases hΦ e s₁ he with ⟨rfl, hq⟩ | ⟨v, g0, l, k, c', p, fs, rfl, hqt, hq⟩
    · refine ⟨rfl, ?_⟩
      show wpAny _ A.in1 (newExc (.type "StopIteration") [] >>= _) _ _ _
      refine wpAny_bind ?_
      simp only [newExc, newTuple]
      refine wpAny_bind (wpAny_newObj_type ?_ (by size_fits))
      refine wpAny_bind (m := firstArgMember _ _) (wpAny_of_eq (a := Value.none) (by first | rfl | (simp only [firstArgMember]; rfl)) ?_)
      refine wpAny_newObj_type ?_ (by size_fits)
      simp only [raiseNew]
      refine wpAny_bind (wpAny_bind (wpAny_handled ?_))
      first | rw [show A.in1.handled = none from hh] | rw [hh]
      refine wpAny_throw ?_
      refine wpAny_bind (wpAny_isInstance (T := "StopIteration") (b := true) ⟨_, Heap.get?_push_size _ rfl, rfl⟩ isSubtype_stop ?_)
      exact wpAny_pure (hq _ fun b o hb => Heap.get?_push_of_some _ (Heap.get?_push_of_some _ hb))
    · exact ⟨hqt, wpAny_pure ⟨v, rfl, wpAny_pure hq⟩⟩
/-! ### the turns of «yield from» over a list -/
structure KpIt (it : Addr) (s s' : Shared) : Prop where
  os : s'.os = s.os
  gens : s'.gens = s.gens
  keep : ∀ b o, b ≠ it → s.heap.get? b = some o → s'.heap.get? b = some o
theorem KpIt.trans {it : Addr} {a b c : Shared} (x : KpIt it a b) (y : KpIt it b c) : KpIt it a c := ⟨y.os.trans x.os, y.gens.trans x.gens, fun d o h e => y.keep d o h (x.keep d o h e)⟩
/-- from item size - r on -/
def Gos (M : Model) (A : Around) (it l : Addr) (its : Array Value) : Nat → Code → Sem PySem.Fin → List Frame → Shared → Prop
  | 0 => fun c t fs s => Sg M A (fun e s' => e = .ret (.ok (.ret .none)) ∧ KpIt it s s') c t fs s
  | r + 1 => fun c t fs s => Sg M A (fun e s' => ∃ v g0 l0 k c' p fs', e = .susp v g0 l0 k c' p fs' ∧ e.quiet = true ∧ its[its.size - (r + 1)]? = some v ∧ KpIt it s s' ∧ s'.heap.IsListIter it l (its.size - r) ∧
      ∀ s2 : Shared, s2.heap.IsListIter it l (its.size - r) → s2.heap.IsList l its → Gos M A it l its r c' (k (.send .none)) fs' s2) c t fs s
section
variable {X : Cx} {A : Around}
abbrev cYf (it : Addr) : Code := .builtin "proto.yield_from" ⟨[.ref it, .bool false, .none], []⟩
theorem den_yf' {it : Addr} : (model X.prog X.w).den (cYf it) = Builtin.«proto.yield_from» ⟨[.ref it, .bool false, .none], []⟩ := den_yf
theorem gos_yf {it l : Addr} {its : Array Value} {fs : List Frame} (hne : it ≠ l) (ho : (A.over (cYf it) fs).handled = none) (hsp : splitAtGen fs = none) (hgd : fs.any Frame.guarded = false)
    (hend : ∀ s s' : Shared, KpIt it s s' → Sg (model X.prog X.w) A (fun e s' => e = .ret (.ok (.ret .none)) ∧ KpIt it s s') (cYf it) (.pure (.done (.ret .none))) fs s') :
    ∀ (r : Nat) (s0 s : Shared), r ≤ its.size → KpIt it s0 s → s.heap.IsListIter it l (its.size - r) → s.heap.IsList l its → 
      (r = 0 → Sg (model X.prog X.w) A (fun e s' => e = .ret (.ok (.ret .none)) ∧ KpIt it s0 s') (cYf it) ((model X.prog X.w).den (cYf it)) fs s) ∧
      (∀ q, r = q + 1 → Sg (model X.prog X.w) A (fun e s' => ∃ v g0 l0 k c' p fs', e = .susp v g0 l0 k c' p fs' ∧ e.quiet = true ∧ its[its.size - (q + 1)]? = some v ∧ KpIt it s0 s' ∧ s'.heap.IsListIter it l (its.size - q) ∧
        ∀ s2 : Shared, s2.heap.IsListIter it l (its.size - q) → s2.heap.IsList l its → Gos (model X.prog X.w) A it l its q c' (k (.send .none)) fs' s2) (cYf it) ((model X.prog X.w).den (cYf it)) fs s) := by
  intro r
  induction r with
  | zero =>
    intro s0 s hr hk hit hl
    refine ⟨fun _ => ?_, fun q e => by cases e⟩
    rw [den_yf']
    unfold Builtin.«proto.yield_from»
    try dsimp only
    refine sg_bind (wpAny_pure ?_)
    try dsimp only
    refine sg_bind (wpAny_attempt (wpAny_holding ?_))
    rw [if_neg Bool.false_ne_true, if_pos (show (Value.none == Value.none) = true from rfl)]
    refine wpAny_bind (wpAny_rule (wpAny_bind ?_))
    refine special_list_end ho hit hl (by simp) fun e h' hS hk' => ?_
    obtain ⟨a, o, vs, rfl, hoa, hcls, hdat, h5⟩ := hS
    try dsimp only
    refine sg_bind (wpAny_endsTurn hoa hcls ?_)
    try dsimp only
    rw [if_pos rfl]
    first
      | refine sg_bind (wpAny_rule ?_)
      | (rw [if_neg Bool.false_ne_true]; refine sg_bind (wpAny_rule ?_))
      | (rw [if_neg Bool.false_ne_true]; refine sg_bind (wpAny_pure ?_); refine sg_bind (wpAny_rule ?_))
    refine sg_bind (wpAny_field hoa hdat h5 ?_)
    exact hend s0 _ (hk.trans ⟨rfl, rfl, fun b o hb e => hk' b o hb e⟩)
  | succ r ih =>
    intro s0 s hr hk hit hl
    refine ⟨fun e => (by cases e), fun q e => ?_⟩
    obtain rfl : q = r := by omega
    have hjl : its.size - (q + 1) < its.size := by omega
    obtain ⟨x, hx⟩ : ∃ x, its[its.size - (q + 1)]? = some x := ⟨its[its.size - (q + 1)], Array.getElem?_eq_getElem hjl⟩
    rw [den_yf']
    unfold Builtin.«proto.yield_from»
    try dsimp only
    refine sg_bind (wpAny_pure ?_)
    try dsimp only
    refine sg_bind (wpAny_attempt (wpAny_holding ?_))
    rw [if_neg Bool.false_ne_true, if_pos (show (Value.none == Value.none) = true from rfl)]
    refine wpAny_bind (wpAny_rule (wpAny_bind ?_))
    refine special_list_item hit hl hx fun h' hit' hs => ?_
    have ej : its.size - (q + 1) + 1 = its.size - q := by omega
    rw [ej] at hit'
    obtain ⟨oi, hoi, hoc, hod⟩ := id hit'
    refine wpAny_pure ?_
    try dsimp only
    refine sg_bind (wpAny_typeOf (T := "list_iterator") ⟨oi, hoi, hoc⟩ ?_)
    try dsimp only
    first
      | (refine sg_bind (wpAny_of_eq close_list ?_); refine sg_bind (wpAny_pure ?_))
      | refine sg_bind (wpAny_bind (wpAny_of_eq close_list (wpAny_pure ?_)))
      | refine sg_bind (wpAny_of_eq close_list ?_)
    try dsimp only
    refine sg_bind (wpAny_sleptOver hoi hoc (by decide) ?_)
    have hk1 : KpIt it s0 { s with heap := h' } := hk.trans ⟨rfl, rfl, fun b o hb e => hs.extBut b o hb e⟩
    refine sg_yield hsp fun p => ⟨x, _, _, _, _, _, _, rfl, ?_, hx, hk1, hit', fun s2 hit2 hl2 => ?_⟩
    · show (!(false || fs.any Frame.guarded)) = true
      rw [hgd]; rfl
    obtain ⟨oj, hoj, hojc, _⟩ := id hit2
    obtain ⟨h0, h1⟩ := ih s2 s2 (by omega) ⟨rfl, rfl, fun _ _ _ e => e⟩ hit2 hl2
    cases q with
    | zero =>
      show Sg _ _ _ _ (Builtin.Generator.sleptOver (.ref it) false >>= fun _ => _) fs s2
      refine sg_bind (wpAny_sleptOver hoj hojc (by decide) ?_)
      try dsimp only
      refine sg_bind (wpAny_pure ?_)
      exact sg_again (plainId_quiet plain_yf _) (h0 rfl)
    | succ q =>
      show Sg _ _ _ _ (Builtin.Generator.sleptOver (.ref it) false >>= fun _ => _) fs s2
      refine sg_bind (wpAny_sleptOver hoj hojc (by decide) ?_)
      try dsimp only
      refine sg_bind (wpAny_pure ?_)
      exact sg_again (plainId_quiet plain_yf _) (h1 q rfl)
end
end BXG
end
section
set_option Elab.async false
set_option linter.all false
set_option maxRecDepth 100000
set_option maxHeartbeats 4000000
/-! a generator def whose body is «yield from» of a list, made and begun -/
namespace BXG
open PySem PySem.Spec PyProof.Rows L2 GenW
open Sem (wp)
theorem runs_hsz {M : Model} {Γ : PySem.Ctx} {p : Pos} {t : Sem PySem.Fin} {fs : List Frame} {s s' : Shared} {e : End} (h : Runs M Γ p t fs s e s') : s.heap.objs.size ≤ s'.heap.objs.size := by
  induction h <;> (try simp only [Shared.setGen, Heap.size_update, Heap.size_push] at *) <;> omega
theorem wakes_hsz {M : Model} {Γ : PySem.Ctx} {p : Pos} {g : Nat} {r : Resume} {s s' : Shared} {res : GenResult} (h : Wakes M Γ p g r s res s') : s.heap.objs.size ≤ s'.heap.objs.size := by
  unfold Wakes at h
  split at h
  · exact h.elim
  · split at h
    · obtain ⟨e₁, s₁, hr, _, _, rfl⟩ := h
      have := runs_hsz hr
      exact this
    · rw [h.2]; exact Nat.le_refl _
    · rw [h.2]; exact Nat.le_refl _
  · obtain ⟨e₁, s₁, hr, _, _, rfl⟩ := h
    have := runs_hsz hr
    exact this
  · rw [h.2]; exact Nat.le_refl _
  · rw [h.2]; exact Nat.le_refl _
theorem wp_hsz {α : Type} (M : Model) (Γ : PySem.Ctx) (n : Nat) (t : Sem α) : ∀ (Q : α → Pos → Shared → Prop) (E : Value → Pos → Shared → Prop) (p : Pos) (s : Shared), n ≤ s.heap.objs.size → wp M Γ t Q E p s →
    wp M Γ t (fun a p' s' => n ≤ s'.heap.objs.size ∧ Q a p' s') (fun e p' s' => n ≤ s'.heap.objs.size ∧ E e p' s') p s := by
  induction t with
  | pure a => intro Q E p s hn h; exact ⟨hn, h⟩
  | raise e => intro Q E p s hn h; exact ⟨hn, h⟩
  | unsupported _ => intro Q E p s _ h; exact h
  | finish _ => intro Q E p s _ h; exact h
  | rule _ k ih => intro Q E p s hn h; exact ih () Q E p s hn h
  | «at» p' k ih => intro Q E p s hn h; exact ih () Q E p' s hn h
  | load a _ k ih => intro Q E p s hn h; obtain ⟨o, ho, h⟩ := h; exact ⟨o, ho, ih o Q E p s hn h⟩
  | update a _ f k ih => intro Q E p s hn h; exact ⟨h.1, ih () Q E p { s with heap := s.heap.update a f } (by show n ≤ (s.heap.update a f).objs.size; rw [Heap.size_update]; exact hn) h.2⟩
  | loadIfAlive a k ih => intro Q E p s hn h; exact ih _ Q E p s hn h
  | point _ k ih => intro Q E p s hn h; exact ih () Q E p s hn h
  | register _ _ => intro Q E p s _ h; exact h
  | alloc o k ih => intro Q E p s hn h; exact ih _ Q E p { s with heap := s.heap.push o } (by show n ≤ (s.heap.push o).objs.size; rw [Heap.size_push]; omega) h
  | fresh k ih => intro Q E p s hn h; exact ih _ Q E p _ hn h
  | ask k ih => intro Q E p s hn h; exact ih _ Q E p s hn h
  | choose src m k ih => intro Q E p s hn h; exact ⟨h.1, ih _ Q E p { s with drawn := s.drawn.bump src } hn h.2⟩
  | os q _ k ih => intro Q E p s hn h; exact ih _ Q E p { s with os := (Os.step s.os q).1 } hn h
  | call c hd _ _ k ih => intro Q E p s hn h; obtain ⟨r, s', hr, h⟩ := h; exact ⟨r, s', hr, ih r Q E p s' (Nat.le_trans hn (runs_hsz hr)) h⟩
  | handled own k ih => intro Q E p s hn h; exact ih _ Q E p s hn h
  | genState g k ih => intro Q E p s hn h; obtain ⟨st, hs, h⟩ := h; exact ⟨st, hs, ih _ Q E p s hn h⟩
  | newGen c k ih => intro Q E p s hn h; exact ih _ Q E p { s with gens := s.gens.push (.fresh c) } hn h
  | resume g r _ k ih => intro Q E p s hn h; obtain ⟨res, s', hw, h⟩ := h; exact ⟨res, s', hw, ih res Q E p s' (Nat.le_trans hn (wakes_hsz hw)) h⟩
  | yield _ _ _ _ => intro Q E p s _ h; exact h
  | stack k ih => intro Q E p s hn h; exact ih _ Q E p s hn h
  | fork _ _ => intro Q E p s _ h; exact h
  | thread k ih => intro Q E p s hn h; exact ih _ Q E p s hn h
  | await _ _ _ _ _ => intro Q E p s _ h; exact h
theorem wpAny_hsz {α : Type} {M : Model} {A : Around} {s : Shared} {t : Sem α} {Q : α → Shared → Prop} {E : Value → Shared → Prop} {n : Nat} (hn : n ≤ s.heap.objs.size)
    (h : wpAny M A t (fun a s' => n ≤ s'.heap.objs.size → Q a s') (fun e s' => n ≤ s'.heap.objs.size → E e s') s) : wpAny M A t Q E s :=
  wpAny_mono (fun Γ p hΓ => wp_hsz M Γ n t _ _ p s hn (h Γ p hΓ) : wpAny M A t (fun a s' => n ≤ s'.heap.objs.size ∧ (n ≤ s'.heap.objs.size → Q a s')) (fun e s' => n ≤ s'.heap.objs.size ∧ (n ≤ s'.heap.objs.size → E e s')) s)
    (fun _ _ x => x.2 x.1) fun _ _ x => x.2 x.1
theorem cellsFrom_nil : ∀ {names : List (Str × NameKind)} {n : Nat} {acc : List (Str × Addr)}, (∀ y ∈ names, y.2 ≠ .cell) → cellsFrom n names acc = acc
  | [], _, _, _ => rfl
  | (m, k) :: r, n, acc, h => by
    unfold cellsFrom
    rw [if_neg (by
      have := h (m, k) List.mem_cons_self
      intro z
      exact this (by simpa using z))]
    exact cellsFrom_nil fun y hy => h y (List.mem_cons_of_mem _ hy)
theorem objOk_there {P : Program} {w : World} {H : Hp} {h : Heap} {a : Addr} {o : HO} (x : ObjOk P w H h a o) : ∃ ob, h.get? a = some ob := by
  cases o with
  | lst xs => obtain ⟨_, _, _, _, e⟩ := x; exact ⟨_, e⟩
  | tup xs => obtain ⟨_, _, _, o, e, _⟩ := x; exact ⟨_, e⟩
  | dK kvs => obtain ⟨_, _, _, _, o, _, _, e, _⟩ := x; exact ⟨_, e⟩
  | dT kvs => obtain ⟨_, _, _, _, o, _, _, e, _⟩ := x; exact ⟨_, e⟩
  | set S n => obtain ⟨o, _, _, _, e, _⟩ := x; exact ⟨_, e⟩
  | ins C dx fs => obtain ⟨_, _, _, e, _⟩ := x; exact ⟨_, e⟩
  | own y => obtain ⟨_, e⟩ := x; exact ⟨_, e⟩
  | xd fs => obtain ⟨_, ⟨_, _, _, e, _⟩, _⟩ := x; exact ⟨_, e⟩
  | rng lo hi => obtain ⟨_, _, _, e⟩ := x; exact ⟨_, e⟩
  | frz ob u => obtain ⟨e, _⟩ := x; exact ⟨_, e⟩
  | tbl ps => exact ⟨_, (show h.get? a = some _ from x)⟩
  | met f y => exact ⟨_, (show h.get? a = some _ from x)⟩
  | ext φ => obtain ⟨_, e, _⟩ := x; exact e
/-- the segment's end: it hands out the first, or it is done -/
def PhiG (P : Program) (w : World) (outer : List Env) (H : Hp) (s : Shared) (a : Addr) (g : Nat) (Lg : Addr) (xs : List V) (A : Around) (e : End) (s1 : Shared) : Prop :=
  s1.os = s.os ∧ AllBare s1.gens ∧ Un (frs outer) [Lg] H H s.heap s1.heap ∧ HOk P w H s1.heap ∧ s1.heap.IsGen a g ∧ ∃ (it l : Addr) (its : Array Value), Vals xs its.toList ∧ s.heap.objs.size ≤ it ∧ (∀ b o, s.heap.get? b = some o → H b = none → b ≠ Lg → b ≠ l) ∧ it ≠ l ∧ s1.heap.IsList l its ∧ H it = none ∧ H l = none ∧
    ((its.size = 0 ∧ e = .ret (.ok (.ret .none))) ∨ (∃ r v g0 l0 k c' p fs', its.size = r + 1 ∧ e = .susp v g0 l0 k c' p fs' ∧ e.quiet = true ∧ its[0]? = some v ∧ s1.heap.IsListIter it l 1 ∧
      ∀ s2 : Shared, s2.heap.IsListIter it l 1 → s2.heap.IsList l its → Gos (model P w) A it l its r c' (k (.send .none)) fs' s2))
/-- made, not begun -/
def G1Made (P : Program) (w : World) (K : PySem.W.Frag) (mg : Str → Option Value) (base : Heap) (k : Nat) (outer : List Env) (H : Hp) (s : Shared) (sp : Hp → List V → Prop) (u : Value) (s' : Shared) : Prop :=
  ∃ (a : Addr) (g : Nat) (Lg : Addr) (c : Code), u = .ref a ∧ s.heap.objs.size ≤ a ∧ a < s'.heap.objs.size ∧ s.heap.objs.size ≤ Lg ∧ Lg < s'.heap.objs.size ∧ Lg ≠ a ∧ s'.heap.IsGen a g ∧ s'.gens[g]? = some (.fresh c) ∧ s'.os = s.os ∧ AllBare s'.gens ∧ s'.heap.NoLimit ∧
    (∀ b o, s.heap.get? b = some o → s'.heap.get? b = some o) ∧ (∀ b, s.heap.objs.size ≤ b → H b = none) ∧ (∃ o, s'.heap.get? Lg = some o ∧ ∀ v, o.data ≠ .cell v) ∧
    ∀ (A : Around) (s2 : Shared) (H2 : Hp) (xs : List V), Room k A → A.frames = some outer → (∀ b o, s'.heap.get? b = some o → s2.heap.get? b = some o) → (∀ b, b < s'.heap.objs.size → H2 b = H b) → HOk P w H2 s2.heap →
      (∀ b o v, s2.heap.get? b = some o → s'.heap.get? b = none → o.data ≠ .cell v) → s2.os = s'.os → AllBare s2.gens → sp H2 xs → Sg (model P w) A (PhiG P w outer H2 s2 a g Lg xs A) c ((model P w).den c) [] s2
structure G1Fn (P : Program) (w : World) (K : PySem.W.Frag) (mg : Str → Option Value) (base : Heap) (k : Nat) (f : Addr) (fd : FuncData) (ps : List Str) (sp : List V → Hp → List V → Prop) : Prop where
  run : ∀ (A : Around) (outer : List Env) (s : Shared) (H : Hp) (args : Args) (us : List Value) (vs : List V), Room k A → Env0 P w K mg base A outer s H → BindsTo s fd args (ps.zip us) → Vals vs us → vs.length = ps.length →
    codeAny (model P w) A (.call (.ref f) args) (fun r s' => match r with | .ok (.ret u) => G1Made P w K mg base k outer H s (sp vs) u s' | _ => False) s
theorem sg_func {prog : Program} {w : World} {A : Around} {Φ : End → Shared → Prop} {fs : List Frame} {s : Shared} {env : Env} {body : List Stmt}
    (h : Sg (model prog w) A Φ (.func body env) ((execs body env).wrap (fun f => .pure (.done (.ret (match f with | .ret v => v | _ => .none))))
      (fun e => (leaving env e).wrap (fun _ => .raise e) .raise id id) id id) fs s) :
    Sg (model prog w) A Φ (.func body env) ((model prog w).den (.func body env)) fs s := by
  show Sg _ A Φ _ (.point [] fun _ => ((execs body env).onRaise (leaving env)) >>= _) fs s
  refine sg_point ?_
  rw [Sem.onRaise_eq_wrap, Sem.bind_eq_wrap', Sem.wrap_wrap]
  rw [Sem.wrap_congr (execs body env) _ _ (K' := fun f => .pure (.done (.ret (match f with | .ret v => v | _ => .none))))
    (H' := fun e => (leaving env e).wrap (fun _ => .raise e) .raise id id) (fun f => by cases f <;> rfl)
    (fun e => by rw [Sem.bind_eq_wrap, Sem.wrap_wrap]; rfl)]
  exact h
/-- what the yielded expression gives: a new list xs; nothing else -/
def GivesL (H : Hp) (xs : List V) (v : V) (H1 : Hp) : Prop := ∃ l, v = .ref l ∧ H1 l = some (.lst xs) ∧ (∀ b o, H b = some o → H1 b = some o) ∧ H l = none ∧ ∀ b u, H b = none → H1 b = some u → ∃ ys, u = .lst ys
theorem gos_done {X : Cx} {A : Around} {it l : Addr} {its : Array Value} {fs : List Frame} {Φ : End → Shared → Prop} {s4 : Shared} (hne : it ≠ l) (itr : s4.heap.IsListIter it l 0) (isl4 : s4.heap.IsList l its) (ho : (A.over (cYf it) fs).handled = none) (hsp : splitAtGen fs = none) (hgd : fs.any Frame.guarded = false)
    (hend : ∀ s s' : Shared, KpIt it s s' → Sg (model X.prog X.w) A (fun e s' => e = .ret (.ok (.ret .none)) ∧ KpIt it s s') (cYf it) (.pure (.done (.ret .none))) fs s')
    (h0 : its.size = 0 → ∀ e s5, e = .ret (.ok (.ret .none)) ∧ KpIt it s4 s5 → Φ e s5)
    (h1 : ∀ r, its.size = r + 1 → ∀ e s5, (∃ v g0 l0 k c' p fs', e = .susp v g0 l0 k c' p fs' ∧ e.quiet = true ∧ its[its.size - (r + 1)]? = some v ∧ KpIt it s4 s5 ∧ s5.heap.IsListIter it l (its.size - r) ∧
        ∀ s2 : Shared, s2.heap.IsListIter it l (its.size - r) → s2.heap.IsList l its → Gos (model X.prog X.w) A it l its r c' (k (.send .none)) fs' s2) → Φ e s5) :
    Sg (model X.prog X.w) A Φ (cYf it) ((model X.prog X.w).den (cYf it)) fs s4 := by
  have G := gos_yf (X := X) (A := A) (its := its) (fs := fs) hne ho hsp hgd hend its.size s4 s4 (Nat.le_refl _) ⟨rfl, rfl, fun _ _ _ e => e⟩ (by rw [Nat.sub_self]; exact itr) isl4
  cases hsz : its.size with
  | zero => exact (G.1 hsz).mono (h0 hsz)
  | succ r => exact (G.2 r hsz).mono (h1 r hsz)
theorem g1fn_of {P : Program} {w : World} {K : PySem.W.Frag} {mg : Str → Option Value} {base : Heap} {k : Nat} {f : Addr} {name qual : Str} {params : Arguments} {e : Expr} {yp pos : Pos} {scope : Scope} {dV kV doc pm cdv ct oc : Value} {an od : Option Addr}
    {osl : Array (Option Value)} {N ps : List Str} {sp : List V → Hp → List V → Prop} (lk : K.lookup f = some ⟨oc, od, .func (PySem.W.fnOf name qual params [.Expr (.YieldFrom e yp) pos] scope dV kV doc pm an cdv ct), osl⟩) (hcd : PySem.W.codeIn K cdv qual = true) (S : GScope N ps scope) (hi : ∀ L fr, interactive (envOfC qual scope L fr cdv) = false)
    (hnc : ∀ y ∈ scope.names, y.2 ≠ .cell)
    (hbody : ∀ (A : Around) (outer : List Env) (s : Shared) (H H2 : Hp) (vs : List V) (xs : List V), Room k (A.deeper (envOfC qual scope s.heap.objs.size f cdv)) → sp vs H2 xs →
      ∃ te, PE (gcxOf P w K mg base N qual scope f cdv A outer s H C8.E0 []).nox e te ∧ te (start N vs) H2 (GivesL H2 xs)) :
    G1Fn P w K mg base (k + 1) f (PySem.W.fnOf name qual params [.Expr (.YieldFrom e yp) pos] scope dV kV doc pm an cdv ct) ps sp := by
  refine ⟨fun A outer s H args us vs hr e0 hb r hl => ?_⟩
  have KX : K.In s.heap := e0.mod.kin.keeps fun b o e => (e0.bs b o e).1
  have lim : s.heap.NoLimit := e0.mod.nolimit.keeps fun b o e => (e0.bs b o e).1
  have hce : cellsFrom (s.heap.objs.size + 1) scope.names [] = [] := cellsFrom_nil hnc
  have hloc : ∀ y ∈ ps.zip us, scope.names.lookup y.1 = some .local := fun ⟨n, v⟩ hy => by
    rcases S.par n (List.of_mem_zip hy).1 with q | q
    · exact q
    · exact absurd rfl (hnc _ (PySem.mem_of_lookup q))
  refine codeAny_call_generator hr.depth (KX _ _ lk) rfl S.co S.gen rfl (PySem.W.codeRec_of KX hcd) (hb _ _ _ _ ?_)
  refine wpAny_newFunctionEnv hnc hloc (fun h₁ hns hsb => ?_) S.kind
  have henv : newEnv scope s.heap.objs.size mainGlobals [] (qual ++ Str.ofString ".<locals>.") (some f) cdv none builtinsNs = envOfC qual scope s.heap.objs.size f cdv := by
    show _ = newEnv scope s.heap.objs.size mainGlobals (cellsFrom (s.heap.objs.size + 1) scope.names []) (qual ++ Str.ofString ".<locals>.") (some f) cdv none builtinsNs
    rw [hce]
  show (_ : Shared).heap.NoLimit ∧ _
  generalize hs1 : ({ s with heap := h₁, toks := s.toks + (ps.zip us).length } : Shared) = s1
  have hh1 : s1.heap = h₁ := by rw [← hs1]
  have szF : (s.heap.push { cls := .type "frame", data := .dict #[] }).objs.size = s.heap.objs.size + 1 := Heap.size_push ..
  have s1sz : s1.heap.objs.size = s.heap.objs.size + 1 := by rw [hh1, hsb.1]; exact szF
  have x : InCallC s s.heap.objs.size (bindL (envOfC qual scope s.heap.objs.size f cdv).kindOf (ps.zip us) fun _ => none) (cellsFrom (s.heap.objs.size + 1) scope.names []) (bindC (envOfC qual scope s.heap.objs.size f cdv).kindOf (ps.zip us) fun _ => none) s1 := by
    refine ⟨⟨⟨h₁, s.toks + (ps.zip us).length, hs1.symm⟩, ?_, fun b o e => ?_, Nat.le_refl _⟩, fun n c e => ?_, ?_, fun n c e => ?_⟩
    · rw [hh1]
      have : (bindL (envOfC qual scope s.heap.objs.size f cdv).kindOf (ps.zip us) fun _ => none) = fun y => (ps.zip us).reverse.lookup y := by
        funext y
        rw [bindL_loc _ _ hloc y]
        cases (ps.zip us).reverse.lookup y <;> rfl
      rw [this]
      exact hns
    · rw [hh1]
      exact (hsb.2 b (Nat.ne_of_lt (Heap.lt_size e))).trans (Heap.get?_push_of_some _ e)
    · rw [hce] at e; cases e
    · rw [hce]; exact .nil
    · rw [hce] at e; cases e
  have lim1 : s1.heap.NoLimit := lim.keeps x.toInCall.keep
  refine ⟨lim1, ?_⟩
  obtain ⟨h1, tk, es1, hk1⟩ := x.done
  have os1 : s1.os = s.os := by rw [es1]
  have gen1 : s1.gens = s.gens := by rw [es1]
  have lt1 : s.heap.objs.size < s1.heap.objs.size := x.toInCall.ns.lt
  have sz1 : s.heap.objs.size ≤ s1.heap.objs.size := Nat.le_of_lt lt1
  have kp1 : ∀ b o, s.heap.get? b = some o → s1.heap.get? b = some o := x.toInCall.keep
  have main : ∀ (env : Env), env = envOfC qual scope s.heap.objs.size f cdv → ∀ (go : Obj) (nm qn : Value) (tk2 : Nat), go.cls = .type "generator" → go.data = .fields #[.int s1.gens.size 0, nm, qn] → go.slots = #[] → (∀ h : Heap, (h.push go).get? h.objs.size = some go) →
      G1Made P w K mg base (k + 1) outer H s (sp vs) (.ref s1.heap.objs.size) { s1 with gens := s1.gens.push (.fresh (.func [.Expr (.YieldFrom e yp) pos] env)), toks := tk2, heap := s1.heap.push go } := by
    intro env henv0
    subst henv0
    intro go nm qn tk2 hgc hgd0 hgs hgp
    have hgen : ∀ h : Heap, h.get? s1.heap.objs.size = some go → h.IsGen s1.heap.objs.size s1.gens.size := fun h e => ⟨go, nm, qn, e, hgc, hgd0, hgs⟩
    have hpushed : (s1.heap.push go).get? s1.heap.objs.size = some go := hgp _
    have szp : (s1.heap.push go).objs.size = s1.heap.objs.size + 1 := Heap.size_push ..
    refine ⟨s1.heap.objs.size, s1.gens.size, s.heap.objs.size, _, rfl, sz1, ?_, Nat.le_refl _, ?_, Nat.ne_of_lt lt1, hgen _ hpushed, Array.getElem?_push_size .., os1, ?_, lim1.keeps fun b o e => Heap.get?_push_of_some _ e, fun b o e => Heap.get?_push_of_some _ (kp1 b o e), fun b hb => e0.hok.fresh hb, ?_, ?_⟩
    · show _ < (s1.heap.push _).objs.size
      rw [szp]; exact Nat.lt_succ_self _
    · show _ < (s1.heap.push _).objs.size
      rw [szp]; exact Nat.lt_succ_of_lt lt1
    · exact AllBare.push (by rw [gen1]; exact e0.bare) rfl
    · obtain ⟨o, es, ep, ho, hd, _⟩ := x.toInCall.ns
      exact ⟨o, Heap.get?_push_of_some _ ho, fun v z => by rw [hd] at z; cases z⟩
    intro Aw s2 H2 xs hrw hfr hk2 hH2 hok2 hnew hos hba hsp
    have hH2 : ∀ b, b < (s1.heap.push go).objs.size → H2 b = H b := hH2
    have hnew : ∀ b o v, s2.heap.get? b = some o → (s1.heap.push go).get? b = none → o.data ≠ .cell v := hnew
    have e0w : Env0 P w K mg base Aw outer s H := ⟨hfr, e0.mod, e0.bs, e0.bsz, e0.funs, e0.frf, e0.hok, e0.bare⟩
    obtain ⟨te, ht, hq⟩ := hbody Aw outer s H H2 vs xs (hrw.deeper _) hsp
    have I1 : Inv (gcxOf P w K mg base N qual scope f cdv Aw outer s H C8.E0 []) [] (start N vs) H s1 := inv_startG S hrw.hd e0w hl r x
    have kp2 : ∀ b o, s1.heap.get? b = some o → s2.heap.get? b = some o := fun b o e => hk2 b o (Heap.get?_push_of_some _ e)
    have lt1' : ∀ {b : Addr} {o : Obj}, s1.heap.get? b = some o → b < (s1.heap.push go).objs.size := fun {b o} e => by rw [szp]; exact Nat.lt_succ_of_lt (Heap.lt_size e)
    have ltH : ∀ {b : Addr} {o : HO}, H b = some o → b < (s1.heap.push go).objs.size := fun {b o} e => by rw [szp]; exact Nat.lt_succ_of_lt (I1.hok.lt e)
    have un12 : Un (frs (gcxOf P w K mg base N qual scope f cdv Aw outer s H C8.E0 []).stack) [] H H2 s1.heap s2.heap :=
      ⟨fun b o e _ _ _ => kp2 b o e, fun b o e _ _ _ => ⟨o.slots, kp2 b o e⟩, fun b o e n _ => by rw [hH2 b (lt1' e)]; exact n, fun b o e _ => ⟨o, kp2 b o e⟩, fun b xs e => by rw [hH2 b (ltH e)]; exact e, fun b o u e => by rw [hH2 b (ltH e)]; exact e, fun b ps e => ⟨#[], by rw [hH2 b (ltH e), e]; simp⟩⟩
    have I2 : Inv (gcxOf P w K mg base N qual scope f cdv Aw outer s H C8.E0 []) [] (start N vs) H2 s2 :=
      I1.call' (ch := []) (hos.trans (os1.trans os1.symm)) un12 hok2 hba fun b z => by simp at z
    -- all that stands untracked is pinned
    let pins : List (Addr × Obj) := (List.range s2.heap.objs.size).filterMap fun b => match s2.heap.get? b with
      | some o => if s.heap.get? b = none ∧ H2 b = none ∧ b ≠ s.heap.objs.size ∧ b ∉ frs outer then some (b, o) else none
      | none => none
    have inPins : ∀ b o, s2.heap.get? b = some o → s.heap.get? b = none → H2 b = none → b ≠ s.heap.objs.size → b ∉ frs outer → (b, o) ∈ pins := fun b o h1 h2 h3 h4 h5 =>
      List.mem_filterMap.mpr ⟨b, List.mem_range.mpr (Heap.lt_size h1), by rw [h1]; show (if _ then _ else _) = _; rw [if_pos ⟨h2, h3, h4, h5⟩]⟩
    have ofPins : ∀ p ∈ pins, s2.heap.get? p.1 = some p.2 ∧ s.heap.get? p.1 = none ∧ H2 p.1 = none ∧ p.1 ≠ s.heap.objs.size ∧ p.1 ∉ frs outer := fun p hp => by
      obtain ⟨b, _, e⟩ := List.mem_filterMap.mp hp
      cases q : s2.heap.get? b with
      | none => rw [q] at e; cases e
      | some o =>
        rw [q] at e
        have e : (if s.heap.get? b = none ∧ H2 b = none ∧ b ≠ s.heap.objs.size ∧ b ∉ frs outer then some (b, o) else none) = some p := e
        by_cases hc : s.heap.get? b = none ∧ H2 b = none ∧ b ≠ s.heap.objs.size ∧ b ∉ frs outer
        · rw [if_pos hc] at e
          cases e
          exact ⟨q, hc⟩
        · rw [if_neg hc] at e; cases e
    have nocell1 : ∀ b o v, s1.heap.get? b = some o → s.heap.get? b = none → b ≠ s.heap.objs.size → o.data = .cell v → False := fun b o v e n ne hd => by
      rw [hh1, hsb.2 b ne] at e
      rcases Heap.get?_push_cases e with ⟨z, _⟩ | z
      · exact ne z
      · rw [n] at z; cases z
    have pinC : ∀ p ∈ pins, ∀ v, p.2.data ≠ .cell v := fun p hp v z => by
      obtain ⟨q1, q2, q3, q4, q5⟩ := ofPins p hp
      cases q : (s1.heap.push go).get? p.1 with
      | none => exact hnew p.1 p.2 v q1 q z
      | some o =>
        have e2 := hk2 _ _ q
        rw [q1] at e2
        cases e2
        rcases Heap.get?_push_cases q with ⟨_, z2⟩ | z2
        · rw [z2, hgd0] at z
          cases z
        · exact nocell1 _ _ v z2 q2 q4 z
    have I2p : Inv (gcxOf P w K mg base N qual scope f cdv Aw outer s H C8.E0 []) pins (start N vs) H2 s2 := I2.pins_of fun p hp => by
      obtain ⟨q1, q2, q3, q4, q5⟩ := ofPins p hp
      exact ⟨q1, q3, q4, q5, pinC p hp⟩
    refine sg_func ?_
    rw [execs_cons_wrap, exec_Expr _ _ pos (hi _ _) rfl]
    show Sg _ _ _ _ (.at pos fun _ => ((eval e (envOfC qual scope s.heap.objs.size f cdv) >>= fun v => (standAt yp >>= fun _ => yieldFrom (envOfC qual scope s.heap.objs.size f cdv) v)) >>= fun x => dropValue (.YieldFrom e yp) pos x).wrap _ _ _ _) [] s2
    refine sg_at ?_
    refine sg_bind2 ?_
    rw [over_func]
    refine wpAny_hsz (n := s2.heap.objs.size) (Nat.le_refl _) (wpAny_mono (ht.run pins s2 (start N vs) H2 _ (I2p.wish _) hq) (fun v s3 hv hsz3 => ?_) fun _ _ z => False.elim z)
    obtain ⟨vv, H3, I3, rv, l, ev, el, sm, nl, new⟩ := hv
    subst ev
    have I3 := I3.unwish
    obtain rfl : v = Value.ref l := rv
    obtain ⟨hlen, its, n, rits, hob⟩ := I3.hok l _ el
    have hT : s3.TypeIs (.ref l) "list" := ⟨_, hob, rfl⟩
    have isl : s3.heap.IsList l its.toArray := ⟨_, hob, rfl, n, rfl⟩
    refine sg_at ?_
    show Sg _ _ _ _ ((yieldFrom (envOfC qual scope s.heap.objs.size f cdv) (.ref l)).wrap _ _ _ _) [] s3
    unfold yieldFrom
    refine sg_bind_wrap (wpAny_typeOf hT ?_)
    rw [if_neg (show ¬ ((Value.type "list" == Value.type "coroutine") = true) from by decide)]
    refine sg_bind_wrap (wpAny_holding (wpAny_pyIter_list isl ?_))
    generalize hIt : s3.heap.objs.size = it
    generalize hs4 : ({ s3 with heap := s3.heap.push { cls := .type "list_iterator", data := .fields #[.ref l, .int 0 0] } } : Shared) = s4
    have k34 : ∀ b o, s3.heap.get? b = some o → s4.heap.get? b = some o := fun b o e => by rw [← hs4]; exact Heap.get?_push_of_some _ e
    have itr : s4.heap.IsListIter it l 0 := by
      rw [← hs4, ← hIt]
      exact ⟨_, Heap.get?_push_size _ rfl, rfl, rfl⟩
    have isl4 : s4.heap.IsList l its.toArray := by
      obtain ⟨o, ho, r2⟩ := isl
      exact ⟨o, k34 _ _ ho, r2⟩
    have nit : s3.heap.get? it = none := by rw [← hIt]; exact Heap.get?_none_of_le (Nat.le_refl _)
    have hne : it ≠ l := fun z => by rw [z] at nit; rw [hob] at nit; cases nit
    have os4 : s4.os = s2.os := by rw [← hs4]; exact I3.os.trans (os1.symm.trans hos.symm)
    have bare4 : AllBare s4.gens := by rw [← hs4]; exact I3.bare
    have hit2 : s2.heap.objs.size ≤ it := by rw [← hIt]; exact hsz3
    have s3ne : ∀ {b : Addr} {o : Obj}, s3.heap.get? b = some o → b ≠ it := fun {b o} q z => by rw [z, nit] at q; cases q
    have frIn : ∀ b ∈ frs outer, ∃ o, s.heap.get? b = some o := fun b hb => by
      obtain ⟨_, o, ho, _⟩ := e0.funs.mem hb
      exact ⟨o, ho⟩
    have Hs : ∀ {b : Addr} {o : Obj}, s.heap.get? b = some o → H2 b = H b := fun {b o} q => hH2 b (by rw [szp]; exact Nat.lt_succ_of_lt (Nat.lt_of_lt_of_le (Heap.lt_size q) sz1))
    have all3 : ∀ b o, s2.heap.get? b = some o → H2 b = none → b ∉ frs outer → b ≠ s.heap.objs.size → s3.heap.get? b = some o ∧ H3 b = none := fun b o e n hf hL => by
      cases q : s.heap.get? b with
      | some o' =>
        have q2 := kp2 _ _ (kp1 _ _ q)
        rw [e] at q2
        cases q2
        have nH : H b = none := by rw [← Hs q]; exact n
        exact ⟨I3.base.keep b o q nH hf (fun z => nomatch (show b ∈ ([] : List Addr) from z)), I3.base.free b o q nH (fun z => nomatch (show b ∈ ([] : List Addr) from z))⟩
      | none =>
        have z := I3.pin (b, o) (List.mem_append_right _ (inPins b o e q n hL hf))
        exact ⟨z.1, z.2.1⟩
    have slot3 : ∀ b o, s2.heap.get? b = some o → H2 b = none → b ∈ frs outer → ∃ sl, s3.heap.get? b = some { o with slots := sl } := fun b o e n hf => by
      obtain ⟨o', q⟩ := frIn b hf
      have q2 := kp2 _ _ (kp1 _ _ q)
      rw [e] at q2
      cases q2
      exact I3.base.slot b o q (show H b = none from by rw [← Hs q]; exact n) hf (fun z => nomatch (show b ∈ ([] : List Addr) from z))
    have aH : H2 s1.heap.objs.size = none := by rw [hH2 _ (by rw [szp]; exact Nat.lt_succ_self _)]; exact e0.hok.fresh sz1
    have aS : s.heap.get? s1.heap.objs.size = none := Heap.get?_none_of_le sz1
    have a3 := all3 s1.heap.objs.size go (hk2 _ _ hpushed) aH (fun z => by obtain ⟨o, q⟩ := frIn _ z; rw [aS] at q; cases q) (Nat.ne_of_gt lt1)
    -- the end of any run from here
    have fin : ∀ s5 : Shared, KpIt it s4 s5 → s5.os = s2.os ∧ AllBare s5.gens ∧ Un (frs outer) [s.heap.objs.size] H2 H2 s2.heap s5.heap ∧ HOk P w H2 s5.heap ∧ s5.heap.IsGen s1.heap.objs.size s1.gens.size := fun s5 z => by
      have k35 : ∀ b o, s3.heap.get? b = some o → s5.heap.get? b = some o := fun b o e => z.keep b o (s3ne e) (k34 b o e)
      refine ⟨z.os.trans os4, by rw [z.gens]; exact bare4, ⟨fun b o e n hf hx => k35 _ _ (all3 b o e n hf (by simpa using hx)).1, fun b o e n hf _ => ?_, fun _ _ _ n _ => n, fun b o e hx => ?_, fun _ _ q => q, fun _ _ _ q => q, fun _ ps q => ⟨#[], by rw [q]; simp⟩⟩, fun b u e => ?_, hgen _ (k35 _ _ a3.1)⟩
      · obtain ⟨sl, q⟩ := slot3 b o e n hf
        exact ⟨sl, k35 _ _ q⟩
      · cases n : H2 b with
        | some u =>
          obtain ⟨ob, q⟩ := objOk_there (I3.hok b u (sm b u n))
          exact ⟨ob, k35 _ _ q⟩
        | none =>
          by_cases hf : b ∈ frs outer
          · obtain ⟨sl, q⟩ := slot3 b o e n hf
            exact ⟨_, k35 _ _ q⟩
          · exact ⟨o, k35 _ _ (all3 b o e n hf (by simpa using hx)).1⟩
      · have back : ∀ c v, (∀ ys, v ≠ .lst ys) → H3 c = some v → H2 c = some v := fun c v hv q => by
          cases q2 : H2 c with
          | some v2 =>
            have := sm c v2 q2
            rw [q] at this
            cases this
            rfl
          | none =>
            obtain ⟨ys, q3⟩ := new c v q2 q
            exact absurd q3 (hv ys)
        exact (I3.hok b u (sm b u e)).stay (fun c v _ q => k35 c v q) (fun c q => back c _ (fun ys z => by cases z) q) fun c xs q => back c _ (fun ys z => by cases z) q
    have apart : ∀ b o, s2.heap.get? b = some o → H2 b = none → b ≠ s.heap.objs.size → b ≠ l := fun b o e n hL z => by
      by_cases hf : b ∈ frs outer
      · obtain ⟨o', q⟩ := frIn b hf
        have := I3.base.free b o' q (show H b = none from by rw [← Hs q]; exact n) (fun z => nomatch (show b ∈ ([] : List Addr) from z))
        rw [z] at this
        rw [el] at this
        cases this
      · have := (all3 b o e n hf hL).2
        rw [z] at this
        rw [el] at this
        cases this
    refine sg_call fun p => ?_
    refine gos_done (X := gcxOf P w K mg base N qual scope f cdv Aw outer s H C8.E0 []) (A := Aw) (its := its.toArray) hne itr isl4 ?_ ?_ ?_ ?_ (fun hsz e' s5 ⟨he, hk⟩ => ?_) (fun r hsz e' s5 ⟨v, g0, l0, kk, c', p', fs', he, hqt, hv, hk, hit5, hgo⟩ => ?_)
    · exact hrw.hd
    · rfl
    · rfl
    · intro sa sb hk
      exact sg_leaf (.ok (.ret .none)) (sg_end (.ok (.ret .none)) ⟨rfl, hk⟩)
    · obtain ⟨f1, f2, f3, f4, f5⟩ := fin s5 hk
      have isl5 : s5.heap.IsList l its.toArray := by
        obtain ⟨o, ho, r2⟩ := isl4
        exact ⟨o, hk.keep _ _ hne.symm ho, r2⟩
      exact ⟨f1, f2, f3, f4, f5, it, l, its.toArray, rits, hit2, apart, hne, isl5, hok2.fresh hit2, nl, .inl ⟨hsz, he⟩⟩
    · obtain ⟨f1, f2, f3, f4, f5⟩ := fin s5 hk
      have isl5 : s5.heap.IsList l its.toArray := by
        obtain ⟨o, ho, r2⟩ := isl4
        exact ⟨o, hk.keep _ _ hne.symm ho, r2⟩
      have e1 : its.toArray.size - (r + 1) = 0 := by omega
      have e2 : its.toArray.size - r = 1 := by omega
      rw [e1] at hv
      rw [e2] at hit5 hgo
      exact ⟨f1, f2, f3, f4, f5, it, l, its.toArray, rits, hit2, apart, hne, isl5, hok2.fresh hit2, nl, .inr ⟨r, v, g0, l0, kk, c', p', fs', hsz, he, hqt, hv, hit5, hgo⟩⟩
  exact main _ henv _ _ _ _ rfl rfl rfl fun h => Heap.get?_push_size _ rfl
end BXG
end
section
set_option Elab.async false
set_option linter.all false
set_option maxRecDepth 100000
set_option maxHeartbeats 4000000
/-! for, list comprehensions over a generator -/
namespace BXG
open PySem PySem.Spec PyProof.Rows L2 GenW
section
variable {X : Cx} {pins : List (Addr × Obj)} {σ : L2.St} {H : Hp} {s s' : Shared}
theorem inv_regens (I : L2.Inv X pins σ H s) (hh : s'.heap = s.heap) (ho : s'.os = s.os) (hb : AllBare s'.gens) : L2.Inv X pins σ H s' := by
  obtain ⟨h', g', d', t', o'⟩ := s'
  have hh : h' = s.heap := hh
  subst hh
  exact ⟨I.ok, ho.trans I.os, hb, I.base, I.loc, I.cell, I.free, I.freeC, I.pin, I.hok, I.len⟩
theorem bare_map {s : Shared} (h : AllBare s.gens) : AllBare (hidG s).gens := fun y hy => by
  obtain ⟨x, hx, rfl⟩ := Array.mem_map.mp hy
  rw [dead_bare]
  exact h x hx
theorem inv_hid (I : L2.Inv X pins σ H s) : L2.Inv X pins σ H (hidG s) := inv_regens I rfl rfl (bare_map I.bare)
theorem inv_wk {s1 : Shared} (I : L2.Inv X pins σ H s1) (w : Wk s s1 s') : L2.Inv X pins σ H s' := inv_regens I w.heap w.os (w.bare I.bare)
theorem sp_wk {D : Ends} {f : Flow} {s1 : Shared} (h : SP X pins D f s1) (w : Wk s s1 s') : SP X pins D f s' := by
  cases f with
  | next => obtain ⟨σ', H', I, q⟩ := h; exact ⟨σ', H', inv_wk I w, q⟩
  | brk => obtain ⟨σ', H', I, q⟩ := h; exact ⟨σ', H', inv_wk I w, q⟩
  | cont => obtain ⟨σ', H', I, q⟩ := h; exact ⟨σ', H', inv_wk I w, q⟩
  | ret u => obtain ⟨v, σ', H', I, r, q⟩ := h; exact ⟨v, σ', H', inv_wk I w, r, q⟩
/-- x walked while the sleepers sleep -/
theorem hid_run {α : Type} {t : Sem α} {Q : α → Shared → Prop} {E : Value → Shared → Prop} (h : wpAny (model X.prog X.w) X.A t (fun a s1 => ∀ s', Wk s s1 s' → Q a s') (fun _ _ => False) (hidG s)) : wpAny (model X.prog X.w) X.A t Q E s :=
  wpAny_hid (wpAny_mono h (fun _ _ z => z) fun _ _ z => z.elim)
end
/-- turn j: it sleeps ahead of the item j -/
structure GAt (P : Program) (w : World) (A : Around) (a : Addr) (g : Nat) (it l : Addr) (its : Array Value) (j : Nat) (s : Shared) : Prop where
  gen : s.heap.IsGen a g
  itr : s.heap.IsListIter it l j
  lst : s.heap.IsList l its
  gs : ∃ k lv c p fs cl, s.gens[g]? = some (.suspended k lv c p fs cl) ∧ ∀ s2 : Shared, s2.heap.IsListIter it l j → s2.heap.IsList l its → Gos (model P w) A it l its (its.size - j) c (k (.send .none)) fs s2
/-- not begun -/
structure GFr (P : Program) (w : World) (A : Around) (outer : List Env) (a : Addr) (g : Nat) (Lg : Addr) (H : Hp) (xs : List V) (s : Shared) : Prop where
  gen : s.heap.IsGen a g
  gs : ∃ c, s.gens[g]? = some (.fresh c) ∧ ∀ s2 : Shared, s2.heap = s.heap → s2.os = s.os → AllBare s2.gens → Sg (model P w) A (PhiG P w outer H s2 a g Lg xs A) c ((model P w).den c) [] s2
/-- may be pinned -/
def PinB (X : Cx) (b : Addr) : Prop := b ≠ X.env.locals ∧ b ∉ X.fs
section
variable {X : Cx} {pins : List (Addr × Obj)} {σ : L2.St} {H : Hp} {s : Shared}
theorem first_turn {a Lg : Addr} {g : Nat} {xs : List V} {E : Value → Shared → Prop} (hc : X.calm = true) (hd : X.A.depth < recursionLimit) (I : L2.Inv X pins σ H s) (hL : FpOk X pins H Lg) (F : GFr X.prog X.w X.A.in1 X.stack a g Lg H xs s) (hLs : Lg < s.heap.objs.size) :
    wpAny (model X.prog X.w) X.A (pyNext (.ref a)) (fun r s1 => (xs = [] ∧ r = none ∧ L2.Inv X pins σ H s1) ∨
      (∃ (u : Value) (it l : Addr) (its : Array Value), r = some u ∧ 0 < its.size ∧ its[0]? = some u ∧ Vals xs its.toList ∧ L2.Inv X pins σ H s1 ∧ FpOk X pins H it ∧ H l = none ∧ PinB X l ∧ it ≠ l ∧ GAt X.prog X.w X.A.in1 a g it l its 1 s1)) E s := by
  obtain ⟨gen, c, hg, seg⟩ := F
  have gl : g < s.gens.size := (Array.getElem?_eq_some_iff.mp hg).1
  have b0 : AllBare (s.setGen g .running).gens := allBare_setGen I.bare rfl
  refine wpAny_gsz (n := g + 1) gl (next_gen1 (Φ := PhiG X.prog X.w X.stack H (s.setGen g .running) a g Lg xs X.A.in1) (I.ok.hd hc) I.nolimit hd gen hg (seg (s.setGen g .running) rfl rfl b0) fun e s₁ hΦ => ?_)
  obtain ⟨q1, q2, q3, q4, q5, it, l, its, hv, hit, apart, hne, isl, nit, nl, hend⟩ := hΦ
  have q1 : s₁.os = s.os := q1
  have q3 : Un (frs X.stack) [Lg] H H s.heap s₁.heap := q3
  have hit : s.heap.objs.size ≤ it := hit
  have apart : ∀ b o, s.heap.get? b = some o → H b = none → b ≠ Lg → b ≠ l := apart
  have hch : ∀ b ∈ [Lg], (b ∈ X.ex ∨ X.s_0.heap.objs.size ≤ b) ∧ b ≠ X.env.locals ∧ (∀ x c, X.env.cells.lookup x = some c → c ≠ b) ∧ ∀ p ∈ X.pn ++ pins, p.1 ≠ b := fun b hb => by
    have e : b = Lg := by simpa using hb
    subst e
    exact ⟨hL.2.2.2.1, hL.2.1, hL.2.2.2.2.1, hL.2.2.2.2.2⟩
  have I1 : L2.Inv X pins σ H s₁ := I.call' (ch := [Lg]) q1 q3 q4 q2 hch
  rcases hend with ⟨hz, he⟩ | ⟨r, v, g0, l0, k, c', p, fs', hz, he, hqt, hv0, hitr, hgo⟩
  · refine .inl ⟨he, fun h' hk hsz => .inl ⟨?_, rfl, ?_⟩⟩
    · have := hv.length
      have e2 : its.toList.length = its.size := by simp
      exact List.length_eq_zero_iff.mp (by omega)
    · have I2 : L2.Inv X pins σ H { s₁ with heap := h' } := I1.kept (t' := s₁.toks) hk
      exact inv_regens (s' := { s₁.setGen g .finished with heap := h' }) I2 rfl rfl (allBare_setGen (s := s₁) I1.bare rfl)
  · subst he
    refine .inr ⟨v, g0, l0, k, c', p, fs', rfl, hqt, fun hsz => .inr ⟨v, it, l, its, rfl, by omega, hv0, hv, ?_, I.fpOk hit nit, nl, ⟨?_, fun hf => ?_⟩, hne, ?_⟩⟩
    · exact inv_regens I1 rfl rfl (allBare_setGen I1.bare (End.bare_of_quiet hqt))
    · obtain ⟨m, ⟨o, es, ep, ho, _⟩, _⟩ := I.loc
      exact (apart _ o ho I.free hL.2.1.symm).symm
    · obtain ⟨_, o, ho, _⟩ := I.funs.mem hf
      refine apart l o ho nl (fun z => ?_) rfl
      exact hL.2.2.1 (z ▸ hf)
    · have gl1 : g < s₁.gens.size := by
        have q : (s₁.setGen g (End.susp v g0 l0 k c' p fs').genState).gens.size = s₁.gens.size := setGen_size _ _ _
        have hsz' : g + 1 ≤ (s₁.setGen g (End.susp v g0 l0 k c' p fs').genState).gens.size := hsz
        omega
      refine ⟨q5, hitr, isl, ⟨k, l0, c', p, fs', _, setGen_at gl1, fun s2 h1 h2 => ?_⟩⟩
      have e1 : its.size - 1 = r := by omega
      rw [e1]
      exact hgo s2 h1 h2
theorem later_turn {a it l : Addr} {g j : Nat} {its : Array Value} {E : Value → Shared → Prop} (hc : X.calm = true) (hd : X.A.depth < recursionLimit) (I : L2.Inv X pins σ H s) (hi : FpOk X pins H it) (hne : it ≠ l) (hia : it ≠ a) (hj : j ≤ its.size) (F : GAt X.prog X.w X.A.in1 a g it l its j s) :
    wpAny (model X.prog X.w) X.A (pyNext (.ref a)) (fun r s1 => (j = its.size ∧ r = none ∧ L2.Inv X pins σ H s1) ∨
      (∃ u : Value, r = some u ∧ its[j]? = some u ∧ L2.Inv X pins σ H s1 ∧ GAt X.prog X.w X.A.in1 a g it l its (j + 1) s1)) E s := by
  obtain ⟨gen, hitr, hisl, k, lv, c, p, fs, cl, hg, seg⟩ := F
  have gl : g < s.gens.size := (Array.getElem?_eq_some_iff.mp hg).1
  have b0 : AllBare (s.setGen g .running).gens := allBare_setGen I.bare rfl
  have go := seg (s.setGen g .running) hitr hisl
  have turned : ∀ {s₁ : Shared}, KpIt it (s.setGen g .running) s₁ → L2.Inv X pins σ H s₁ := fun {s₁} z => by
    have I2 : L2.Inv X pins σ H { s with heap := s₁.heap } := I.turned (t' := s.toks) (it := it) (fun b o hb e => z.keep b o hb e) hi.1 hi.2.1 hi.2.2.2.1 hi.2.2.2.2.1 hi.2.2.2.2.2
    exact inv_regens (s := { s with heap := s₁.heap }) I2 rfl z.os (by rw [z.gens]; exact b0)
  have g1 : ∀ {s₁ : Shared}, KpIt it (s.setGen g .running) s₁ → g < s₁.gens.size := fun {s₁} z => by
    rw [z.gens, setGen_size]; exact gl
  have genK : ∀ {s₁ : Shared}, KpIt it (s.setGen g .running) s₁ → s₁.heap.IsGen a g := fun {s₁} z => by
    obtain ⟨o, nm, qn, ho, r⟩ := gen
    exact ⟨o, nm, qn, z.keep a o hia.symm ho, r⟩
  have islK : ∀ {s₁ : Shared}, KpIt it (s.setGen g .running) s₁ → s₁.heap.IsList l its := fun {s₁} z => by
    obtain ⟨o, ho, r⟩ := hisl
    exact ⟨o, z.keep l o hne.symm ho, r⟩
  cases hr : its.size - j with
  | zero =>
    rw [hr] at go
    have go : Sg (model X.prog X.w) X.A.in1 (fun e s' => e = .ret (.ok (.ret .none)) ∧ KpIt it (s.setGen g .running) s') c (k (.send .none)) fs (s.setGen g .running) := go
    refine next_gen1 (Φ := fun e s' => e = .ret (.ok (.ret .none)) ∧ KpIt it (s.setGen g .running) s') (I.ok.hd hc) I.nolimit hd gen hg go fun e s₁ ⟨he, z⟩ => .inl ⟨he, fun h' hk => .inl ⟨by omega, rfl, ?_⟩⟩
    have I1 := turned z
    have I2 : L2.Inv X pins σ H { s₁ with heap := h' } := I1.kept (t' := s₁.toks) hk
    exact inv_regens (s' := { s₁.setGen g .finished with heap := h' }) I2 rfl rfl (allBare_setGen (s := s₁) I1.bare rfl)
  | succ r =>
    rw [hr] at go
    have go : Sg (model X.prog X.w) X.A.in1 (fun e s' => ∃ v g0 l0 k c' p fs', e = .susp v g0 l0 k c' p fs' ∧ e.quiet = true ∧ its[its.size - (r + 1)]? = some v ∧ KpIt it (s.setGen g .running) s' ∧ s'.heap.IsListIter it l (its.size - r) ∧
      ∀ s2 : Shared, s2.heap.IsListIter it l (its.size - r) → s2.heap.IsList l its → Gos (model X.prog X.w) X.A.in1 it l its r c' (k (.send .none)) fs' s2) c (k (.send .none)) fs (s.setGen g .running) := go
    refine next_gen1 (Φ := _) (I.ok.hd hc) I.nolimit hd gen hg go fun e s₁ ⟨v, g0, l0, k', c', p', fs', he, hqt, hv, z, hit', hgo⟩ => ?_
    subst he
    refine .inr ⟨v, g0, l0, k', c', p', fs', rfl, hqt, .inr ⟨v, rfl, ?_, ?_, ?_⟩⟩
    · have e1 : its.size - (r + 1) = j := by omega
      rw [e1] at hv
      exact hv
    · exact inv_regens (turned z) rfl rfl (allBare_setGen (turned z).bare (End.bare_of_quiet hqt))
    · have e1 : its.size - r = j + 1 := by omega
      rw [e1] at hit' hgo
      have gk := genK z
      have ik := islK z
      refine ⟨gk, hit', ik, ⟨k', l0, c', p', fs', _, setGen_at (g1 z), fun s2 h1 h2 => ?_⟩⟩
      have e2 : its.size - (j + 1) = r := by omega
      rw [e2]
      exact hgo s2 h1 h2
end
/-! ### the expression -/
abbrev TGn1 := L2.St → Hp → ((Hp → List V → Prop) → Hp → Prop) → Prop
structure PG1 (X : Cx) (k : Nat) (e : Expr) (tg : TGn1) : Prop where
  run : ∀ (pins : List (Addr × Obj)) (s : Shared) (σ : L2.St) (H : Hp) (R : (Hp → List V → Prop) → Hp → Prop), L2.Inv X pins σ H s → tg σ H R → wpAny (model X.prog X.w) X.A (eval e X.env)
    (fun u s' => ∃ H1 sc spv, L2.Inv X pins σ H1 sc ∧ G1Made X.prog X.w X.K X.mg X.base k X.stack H1 sc spv u s' ∧ R spv H1) X.xe s
def tMethG1 (C : Addr) (m : Str) (sp : List V → Hp → List V → Prop) (ta : TE) : TGn1 := fun σ H R => ta σ H fun x H1 => ∃ a dx fs, x = .ref a ∧ H1 a = some (.ins C dx fs) ∧ fs.lookup m = none ∧ R (sp [x]) H1
theorem pg1_meth0 {X : Cx} {k : Nat} {f C : Addr} {fd : FuncData} {p : Str} {sp : List V → Hp → List V → Prop} {m : Str} {pos' apos : Pos} {o : Expr} {ta : TE} {pl : Sem Bool} (he : PE X o ta) (c : Cls X.K C) (hm : Meth X.K C m f) (F : G1Fn X.prog X.w X.K X.mg X.base k f fd [p] sp) (hr : Room k X.A) (hb : Binds X.K fd [p] [])
    (ht : eval (.Call (.Attribute o m apos) [] [] pos') X.env = (do
      let ov ← eval o X.env
      standAt apos.atName
      let (f, first) ← holding [ov] (getMethod ov m pl)
      callWith pos' f first (backTo pos' (starEach [] X.env)) (backToKw pos' (keywordEach [] X.env))) := by rfl) :
    PG1 X k (.Call (.Attribute o m apos) [] [] pos') (tMethG1 C m sp ta) := by
  refine ⟨fun pins s σ H R I h => ?_⟩
  refine PySem.W.methodCall_KW (pl := pl) (thn (he.run pins s σ H _ I h) fun u s1 ⟨x, H1, I1, rx, a, dx, fs, ex, ea, l, q⟩ => ?_) ht
  subst ex
  obtain rfl : u = Value.ref a := rx
  refine getmeth_ok I1 ea c hm l ?_
  refine PySem.W.callWith_K0 (first := [.ref a]) I1.kIn hm.kp ?_
  show wpAny _ _ (call (.ref f) [.ref a]) _ _ _
  refine wpAny_call (codeAny_mono (F.run X.A X.stack s1 H1 ⟨[.ref a], []⟩ [.ref a] [.ref a] hr I1.env0 (hb s1 [.ref a] I1.kIn rfl) (.cons rfl .nil) rfl) fun r s' hq => ?_)
  cases r with
  | error e => exact False.elim hq
  | ok fl =>
    cases fl with
    | ret u => exact ⟨H1, s1, _, I1, hq, q⟩
    | next => exact False.elim hq
    | brk => exact False.elim hq
    | cont => exact False.elim hq
/-- behind the making -/
theorem made_inv {X : Cx} {pins : List (Addr × Obj)} {σ : L2.St} {H : Hp} {sc s' : Shared} {k : Nat} {spv : Hp → List V → Prop} {u : Value} (I : L2.Inv X pins σ H sc) (M : G1Made X.prog X.w X.K X.mg X.base k X.stack H sc spv u s') : L2.Inv X pins σ H s' := by
  obtain ⟨a, g, Lg, c, _, _, _, _, _, _, _, _, os, bare, _, kp, _⟩ := M
  exact I.call' (ch := []) os (Un.kept kp) (I.hok.kept kp) bare fun b z => by simp at z
/-- what stands of the generator while its consumer's code runs -/
def gPins (a it l : Addr) (oa oi ol : Obj) : List (Addr × Obj) := [(a, oa), (it, oi), (l, ol)]
theorem gat_pins {X : Cx} {pins : List (Addr × Obj)} {σ : L2.St} {H : Hp} {s : Shared} {a it l : Addr} {g j : Nat} {its : Array Value} (I : L2.Inv X pins σ H s) (fA : FpOk X pins H a) (fI : FpOk X pins H it) (nl : H l = none) (pl : PinB X l) (G : GAt X.prog X.w X.A.in1 a g it l its j s) :
    ∃ oa oi ol, (∃ nm qn, oa.cls = .type "generator" ∧ oa.data = .fields #[.int g 0, nm, qn]) ∧ s.heap.get? a = some oa ∧ L2.Inv X (pins ++ gPins a it l oa oi ol) σ H s ∧
      ∀ (s' : Shared) (σ' : L2.St) (H' : Hp), L2.Inv X (pins ++ gPins a it l oa oi ol) σ' H' s' → (∀ Y, s.gens[g]? = some Y → isSusp Y = true → s'.gens[g]? = some Y) →
        L2.Inv X pins σ' H' s' ∧ FpOk X pins H' a ∧ FpOk X pins H' it ∧ H' l = none ∧ GAt X.prog X.w X.A.in1 a g it l its j s' := by
  obtain ⟨⟨oa, nm, qn, hoa, hca, hda, hsa⟩, ⟨oi, hoi, hci, hdi⟩, ⟨ol, hol, hcl, nn, hdl⟩, gs⟩ := G
  refine ⟨oa, oi, ol, ⟨nm, qn, hca, hda⟩, hoa, I.pins_of fun p hp => ?_, fun s' σ' H' J st => ?_⟩
  · rcases List.mem_append.mp hp with z | z
    · exact I.pin p (List.mem_append_right _ z)
    · rcases List.mem_cons.mp z with z | z
      · subst z
        exact ⟨hoa, fA.1, fA.2.1, fA.2.2.1, fun v q => by rw [hda] at q; cases q⟩
      · rcases List.mem_cons.mp z with z | z
        · subst z
          exact ⟨hoi, fI.1, fI.2.1, fI.2.2.1, fun v q => by rw [hdi] at q; cases q⟩
        · have z := List.mem_singleton.mp z
          subst z
          exact ⟨hol, nl, pl.1, pl.2, fun v q => by rw [hdl] at q; cases q⟩
  · have pin : ∀ p ∈ gPins a it l oa oi ol, s'.heap.get? p.1 = some p.2 ∧ H' p.1 = none := fun p hp =>
      let z := J.pin p (List.mem_append_right _ (List.mem_append_right _ hp))
      ⟨z.1, z.2.1⟩
    have pa := pin (a, oa) (by simp [gPins])
    have pi := pin (it, oi) (by simp [gPins])
    have pll := pin (l, ol) (by simp [gPins])
    obtain ⟨k, lv, c, p, fs, cl, hg, seg⟩ := gs
    exact ⟨J.unpinned, ⟨pa.2, fA.2⟩, ⟨pi.2, fI.2⟩, pll.2, ⟨oa, nm, qn, pa.1, hca, hda, hsa⟩, ⟨oi, pi.1, hci, hdi⟩, ⟨ol, pll.1, hcl, nn, hdl⟩, k, lv, c, p, fs, cl, st _ hg rfl, seg⟩
/-! ### for -/
def tForG (tg : TGn1) (g : TG) (tb : TS) : TS := fun D σ H => tg σ H fun spv H1 => ∃ xs, spv H1 xs ∧ ∃ Pv : Nat → L2.St → Hp → Prop, Pv 0 σ H1 ∧
  (∀ i x σ H, xs[i]? = some x → Pv i σ H → g x σ H fun σ2 H2 => tb { D with nx := Pv (i + 1), ct := Pv (i + 1), bk := D.nx } σ2 H2) ∧ ∀ σ H, Pv xs.length σ H → D.nx σ H
theorem ps_forG {X : Cx} {tg : Expr} {iter : Expr} {body : List Stmt} {k : Nat} {ti : TGn1} {g : TG} {tb : TS} {pos : Pos} (hc : X.calm = true) (hr : Room (k + 1) X.A) (hi : PG1 X k iter ti) (hg : PG X.nox tg g) (hb : PSs X.nox body tb)
    (hs : ∀ x, foldedSetIterable iter X.env x = pure x := by intro _; rfl) : PS X (.For tg iter body [] pos) (tForG ti g tb) := by
  refine ⟨fun pins s σ H D I h => ?_⟩
  refine wpAny_For (thn (hi.run pins s σ H _ I h) fun v s2 ⟨H2, sc, spv, Ic, M, xs, hsp, Pv, p0, step, done⟩ => ?_) hs
  have I2 := made_inv Ic M
  obtain ⟨a, gn, Lg, c, rfl, ha, ha2, hL, hL2, hLa, gen, hgs, os, bare, nlim, kp, frH, hLo, seg⟩ := M
  have hd := hr.depth
  have nH : ∀ b, sc.heap.objs.size ≤ b → H2 b = none := frH
  have fpA : FpOk X pins H2 a := Ic.fpOk ha (nH a ha)
  have fpL : FpOk X pins H2 Lg := Ic.fpOk hL (nH Lg hL)
  refine wpAny_pyIter_gen gen ?_
  -- the turn's body
  have turn : ∀ (i : Nat) (it l : Addr) (its : Array Value) (σ3 : L2.St) (H3 : Hp) (u : Value) (s4 : Shared) (m0 : Nat) , (its.size - (i + 1) < m0) → Vals xs its.toList → its[i]? = some u → it ≠ l → L2.Inv X pins σ3 H3 s4 → FpOk X pins H3 a → FpOk X pins H3 it → H3 l = none → PinB X l → GAt X.prog X.w X.A.in1 a gn it l its (i + 1) s4 → Pv i σ3 H3 →
      wpAny (model X.prog X.w) X.A (letOwnedTupleGo tg (.ref a) u) (fun _ s5 => wpAny (model X.prog X.w) X.A (assign tg X.env u) (fun _ s6 => wpAny (model X.prog X.w) X.A (execs body X.env) (fun f s7 => match f with
        | .next => ∃ m, m < m0 ∧ ∃ i' it l its σ' H', m = its.size - i' ∧ 1 ≤ i' ∧ i' ≤ its.size ∧ Vals xs its.toList ∧ L2.Inv X pins σ' H' s7 ∧ FpOk X pins H' a ∧ FpOk X pins H' it ∧ it ≠ l ∧ H' l = none ∧ PinB X l ∧ GAt X.prog X.w X.A.in1 a gn it l its i' s7 ∧ Pv i' σ' H'
        | .cont => ∃ m, m < m0 ∧ ∃ i' it l its σ' H', m = its.size - i' ∧ 1 ≤ i' ∧ i' ≤ its.size ∧ Vals xs its.toList ∧ L2.Inv X pins σ' H' s7 ∧ FpOk X pins H' a ∧ FpOk X pins H' it ∧ it ≠ l ∧ H' l = none ∧ PinB X l ∧ GAt X.prog X.w X.A.in1 a gn it l its i' s7 ∧ Pv i' σ' H'
        | .brk => SP X pins D .next s7
        | .ret v => SP X pins D (.ret v) s7) (fun _ _ => False) s6) (fun _ _ => False) s5) (fun _ _ => False) s4 := by
    intro i it l its σ3 H3 u s4 m0 hm hv hu hne I4 fA fI nl pl G pv
    have hsl : its.toList.length = its.size := by simp
    have hlen := hv.length
    have hi : i < its.size := (Array.getElem?_eq_some_iff.mp hu).1
    obtain ⟨x, hx⟩ : ∃ x, xs[i]? = some x := ⟨xs[i]'(by omega), List.getElem?_eq_getElem (by omega)⟩
    have rx : RelV x u := by
      obtain ⟨u', h1, h2⟩ := hv.get hx
      have h3 : its.toList[i]? = its[i]? := by simp
      rw [h3, hu] at h1
      cases h1
      exact h2
    obtain ⟨oa, oi, ol, ⟨nm, qn, hca, hda⟩, hoa, Ip, back⟩ := gat_pins I4 fA fI nl pl G
    refine go_of hoa hca hda (by decide) ?_
    refine hid_run (wpAny_mono (hg.run _ (hidG s4) σ3 H3 x u _ ((inv_hid Ip).wish _) rx (step i x σ3 H3 hx pv)) (fun _ s6 ⟨σ6, H6, I6, q6⟩ => fun s6' w6 => ?_) fun _ _ z => z.elim)
    have I6' := inv_wk I6.unwish w6
    refine hid_run (wpAny_mono (hb.run _ (hidG s6') σ6 H6 _ ((inv_hid I6').wish _) q6) (fun f s7 q7 => fun s7' w7 => ?_) fun _ _ z => z.elim)
    have q7 := sp_wk (X := X) q7.unwish w7
    have st : ∀ Y, s4.gens[gn]? = some Y → isSusp Y = true → s7'.gens[gn]? = some Y := fun Y h1 h2 => w7.stay gn Y (w6.stay gn Y h1 h2) h2
    have again : ∀ {σ7 : L2.St} {H7 : Hp}, L2.Inv X (pins ++ gPins a it l oa oi ol) σ7 H7 s7' → Pv (i + 1) σ7 H7 → ∃ m, m < m0 ∧ ∃ i' it l its σ' H', m = its.size - i' ∧ 1 ≤ i' ∧ i' ≤ its.size ∧ Vals xs its.toList ∧ L2.Inv X pins σ' H' s7' ∧ FpOk X pins H' a ∧ FpOk X pins H' it ∧ it ≠ l ∧ H' l = none ∧ PinB X l ∧ GAt X.prog X.w X.A.in1 a gn it l its i' s7' ∧ Pv i' σ' H' := fun {σ7 H7} I7 p7 => by
      obtain ⟨z1, z2, z3, z4, z5⟩ := back s7' σ7 H7 I7 st
      exact ⟨_, hm, i + 1, it, l, its, σ7, H7, rfl, Nat.succ_pos _, hi, hv, z1, z2, z3, hne, z4, pl, z5, p7⟩
    cases f with
    | next => obtain ⟨σ7, H7, I7, n7⟩ := q7; exact again I7 n7
    | cont => obtain ⟨σ7, H7, I7, n7⟩ := q7; exact again I7 n7
    | brk => obtain ⟨σ7, H7, I7, q7⟩ := q7; exact ⟨σ7, H7, I7.unpinned, q7⟩
    | ret v => obtain ⟨x7, σ7, H7, I7, r7, q7⟩ := q7; exact ⟨x7, σ7, H7, I7.unpinned, r7, q7⟩
  have fr : GFr X.prog X.w X.A.in1 X.stack a gn Lg H2 xs s2 := ⟨gen, c, hgs, fun s3 e1 e2 b3 => seg X.A.in1 s3 H2 xs hr.in1 I.ok.frames (fun b o e => by rw [e1]; exact e) (fun _ _ => rfl) (by rw [e1]; exact I2.hok) (fun b o v e n => by rw [e1, n] at e; cases e) e2 b3 hsp⟩
  refine codeAny_forLoop_any (fun n s' => (n = xs.length + 1 ∧ s' = s2) ∨ ∃ i' it l its σ' H', n = its.size - i' ∧ 1 ≤ i' ∧ i' ≤ its.size ∧ Vals xs its.toList ∧ L2.Inv X pins σ' H' s' ∧ FpOk X pins H' a ∧ FpOk X pins H' it ∧ it ≠ l ∧ H' l = none ∧ PinB X l ∧ GAt X.prog X.w X.A.in1 a gn it l its i' s' ∧ Pv i' σ' H') ?_ (xs.length + 1) (.inl ⟨rfl, rfl⟩)
  rintro n s3 (⟨rfl, rfl⟩ | ⟨i, it, l, its, σ3, H3, rfl, hi1, hi2, hv, I3, fA, fI, hne, nl, pl, G, pv⟩)
  · refine thnF (first_turn hc hd I2 fpL fr hL2) fun r s4 h4 => ?_
    rcases h4 with ⟨hx, rfl, I4⟩ | ⟨u, it, l, its, rfl, hz, hu, hv, I4, fI, nl, pl, hne, G⟩
    · subst hx
      exact wpAny_execs_nil ⟨σ, H2, I4, done σ H2 p0⟩
    · have hsl : its.toList.length = its.size := by simp
      have hlen := hv.length
      refine thnF (turn 0 it l its σ H2 u s4 (xs.length + 1) (by omega) hv hu hne I4 fpA fI nl pl G p0) fun _ s5 h5 => thnF h5 fun _ s6 h6 => thnF h6 fun f s7 h7 => ?_
      cases f with
      | next => obtain ⟨m, hm, z⟩ := h7; exact ⟨m, hm, .inr z⟩
      | cont => obtain ⟨m, hm, z⟩ := h7; exact ⟨m, hm, .inr z⟩
      | brk => exact h7
      | ret v => exact h7
  · refine thnF (later_turn hc hd I3 fI hne (fun z => ?_) hi2 G) fun r s4 h4 => ?_
    · obtain ⟨oa, _, _, hoa, hca, _⟩ := G.gen
      obtain ⟨oi, hoi, hci, _⟩ := G.itr
      rw [z, hoa] at hoi
      cases hoi
      rw [hca] at hci
      exact absurd (Value.type.inj hci) (by decide)
    · rcases h4 with ⟨hx, rfl, I4⟩ | ⟨u, rfl, hu, I4, G4⟩
      · have hsl : its.toList.length = its.size := by simp
        have hlen := hv.length
        refine wpAny_execs_nil ⟨σ3, H3, I4, done σ3 H3 ?_⟩
        have e1 : xs.length = i := by omega
        rw [e1]
        exact pv
      · have hlt := (Array.getElem?_eq_some_iff.mp hu).1
        refine thnF (turn i it l its σ3 H3 u s4 (its.size - i) (by omega) hv hu hne I4 fA fI nl pl G4 pv) fun _ s5 h5 => thnF h5 fun _ s6 h6 => thnF h6 fun f s7 h7 => ?_
        cases f with
        | next => obtain ⟨m, hm, z⟩ := h7; exact ⟨m, hm, .inr z⟩
        | cont => obtain ⟨m, hm, z⟩ := h7; exact ⟨m, hm, .inr z⟩
        | brk => exact h7
        | ret v => exact h7
/-! ### a list comprehension -/
def tLcG (tg : TGn1) (g : TG) (tt : TT) (te : TE) (vs : List Nat) : TE := fun σ H Q => tg σ H fun spv H1 => ∀ D, H1 D = none → ∃ xs, spv (upd H1 D (.lst [])) xs ∧ ∃ Pv : Nat → Hp → Prop, Pv 0 (upd H1 D (.lst [])) ∧
  (∀ i x H, xs[i]? = some x → Pv i H → g x (wipe σ vs) H fun σ2 H2 => wipe σ2 vs = wipe σ vs ∧ tt σ2 H2 fun b H3 =>
    if b = true then te σ2 H3 fun y H4 => ∃ acc, H4 D = some (.lst acc) ∧ acc.length < sizeLine ∧ Pv (i + 1) (upd H4 D (.lst (acc ++ [y]))) else Pv (i + 1) H3) ∧ ∀ H, Pv xs.length H → Q (.ref D) H
theorem lcg_core {X : Cx} {pins : List (Addr × Obj)} {s : Shared} {σ : L2.St} {H : Hp} {Q : VK} {elt tg iter : Expr} {ifs : List Expr} {scope : Scope} {own : List (Str × Nat)} {pos pos' : Pos} {k : Nat} {ti : TGn1} {g : TG} {tt : TT} {te : TE} {use : Option (Value → Sem Unit)} {Qf : Value → Shared → Prop}
    (hc : X.calm = true) (hr : Room (k + 1) X.A) (hN : X.N.Nodup) (I : L2.Inv X pins σ H s) (hi : PG1 X k iter ti) (ok : BlkOk X.N X.env.scope scope own) (hnc : ∀ y ∈ scope.names, y.2 ≠ .cell)
    (hg : ∀ (s : Shared) (H : Hp) (C : Addr) (cl : List (Str × Addr)) (fp : List Addr), PG (X.blk s H scope (compEnvC scope cl C X.env) fp) tg g) (ht : ∀ (s : Shared) (H : Hp) (C : Addr) (cl : List (Str × Addr)) (fp : List Addr), PTs (X.blk s H scope (compEnvC scope cl C X.env) fp) ifs tt)
    (he : ∀ (s : Shared) (H : Hp) (C : Addr) (cl : List (Str × Addr)) (fp : List Addr), PE (X.blk s H scope (compEnvC scope cl C X.env) fp) elt te) (hs : ∀ x, foldedSetIterable iter X.env x = pure x)
    (h : tLcG ti g tt te (own.map (·.2)) σ H Q)
    (hRR : ∀ D C s' m H', L2.Inv X pins σ H' s' → Q (.ref D) H' → s'.heap.Ns C m → FpOk X pins H' C → compPost (model X.prog X.w) X.A X.xe use Qf (.ref D) C (.ok .next) s') :
    wpAny (model X.prog X.w) X.A (comprehension (.ListComp elt [⟨tg, iter, ifs, 0⟩] scope pos) scope X.env pos' (newList []) false (eval iter X.env) use) Qf X.xe s := by
  have hfree : ∀ y ∈ scope.names, y.2 = .free → ∃ c, X.env.cells.lookup y.1 = some c := fun y hy e => by
    rcases ok.free y hy e with k | k
    · exact I.ok.has _ (.inl k)
    · exact I.ok.has _ (.inr k)
  refine wpAny_comprehension_free (use := use) rfl hs (closure_ok hfree) ok.kind (fun y hy e => by rw [ok.uniq y hy, e]) (thn (hi.run pins s σ H _ I h) fun v s2 ⟨H2, sc, spv, Ic, M, hq⟩ => ?_)
  have I2 := made_inv Ic M
  obtain ⟨a, gn, Lg, c, rfl, ha, ha2, hL, hL2, hLa, gen, hgs, os, bare, nlim, kp, frH, hLo, seg⟩ := M
  have hd := hr.depth
  have fpA : FpOk X pins H2 a := Ic.fpOk ha (frH a ha)
  have fpL : FpOk X pins H2 Lg := Ic.fpOk hL (frH Lg hL)
  refine wpAny_pyIter_gen gen ?_
  refine wpAny_newObj_type (newEnv_comp ?_) (by show 0 ≤ sizeLine; decide)
  generalize hD : s2.heap.objs.size = D
  have hDn : H2 D = none := I2.hok.fresh (Nat.le_of_eq hD)
  obtain ⟨xs, hsp, Pv, p0, step, done⟩ := hq D hDn
  -- the new list
  generalize hs3 : ({ s2 with heap := s2.heap.push { cls := .type "list", data := .seq ([] : List Value).toArray } } : Shared) = s3
  have I3 : L2.Inv X pins σ (upd H2 D (.lst [])) s3 := by
    rw [← hs3]
    refine I2.laid (t' := s2.toks) (fun b o e => Heap.get?_push_of_some _ e) (Nat.le_of_eq hD) ⟨Nat.zero_le _, [], 0, .nil, ?_⟩
    rw [← hD]
    exact Heap.get?_push_size _ rfl
  have h3 : s3.heap = s2.heap.push { cls := .type "list", data := .seq ([] : List Value).toArray } := by rw [← hs3]
  have f3 : ∀ b ∈ [a, Lg], FpOk X pins (upd H2 D (.lst [])) b ∧ b < s3.heap.objs.size := fun b hb => by
    have hlt : b < s2.heap.objs.size ∧ FpOk X pins H2 b := by
      rcases List.mem_cons.mp hb with z | z
      · rw [z]; exact ⟨ha2, fpA⟩
      · rw [List.mem_singleton.mp z]; exact ⟨hL2, fpL⟩
    refine ⟨⟨?_, hlt.2.2⟩, by rw [h3, Heap.size_push]; exact Nat.lt_succ_of_lt hlt.1⟩
    rw [upd_ne (by rw [← hD]; exact Nat.ne_of_lt hlt.1)]
    exact hlt.2.1
  have I4 := block_start I3 ok hN f3
  have pg := hg s3 (upd H2 D (.lst [])) s3.heap.objs.size (cellsFrom (s3.heap.objs.size + 1) scope.names (cloFrom X.env.cells scope.names [])) [a, Lg]
  have pt := ht s3 (upd H2 D (.lst [])) s3.heap.objs.size (cellsFrom (s3.heap.objs.size + 1) scope.names (cloFrom X.env.cells scope.names [])) [a, Lg]
  have pe := he s3 (upd H2 D (.lst [])) s3.heap.objs.size (cellsFrom (s3.heap.objs.size + 1) scope.names (cloFrom X.env.cells scope.names [])) [a, Lg]
  show codeAny _ _ (.compStart (.ListComp elt [⟨tg, iter, ifs, 0⟩] scope pos) 0 (.ref a) (.ref D) (compEnvC scope (cellsFrom (s3.heap.objs.size + 1) scope.names (cloFrom X.env.cells scope.names [])) s3.heap.objs.size X.env)) (compPost (model X.prog X.w) X.A X.xe use Qf (.ref D) s3.heap.objs.size) { s3 with heap := pushCells (s3.heap.push { cls := .type "dict", data := .dict #[] }) scope.names }
  generalize hce : compEnvC scope (cellsFrom (s3.heap.objs.size + 1) scope.names (cloFrom X.env.cells scope.names [])) s3.heap.objs.size X.env = ce at I4 pg pt pe ⊢
  have cL : ce.locals = s3.heap.objs.size := by subst hce; rfl
  generalize hH3 : upd H2 D (.lst []) = H3 at I3 I4 pg pt pe p0 f3 hsp step
  have hpc : pushCells (s3.heap.push { cls := .type "dict", data := .dict #[] }) scope.names = s3.heap.push { cls := .type "dict", data := .dict #[] } := by
    have : ∀ (names : List (Str × NameKind)) (h : Heap), (∀ y ∈ names, y.2 ≠ .cell) → pushCells h names = h := by
      intro names
      induction names with
      | nil => intro h _; rfl
      | cons y r ih =>
        intro h hy
        obtain ⟨n, kd⟩ := y
        unfold pushCells
        rw [if_neg (by
          have := hy (n, kd) List.mem_cons_self
          intro z
          exact this (by simpa using z))]
        exact ih h fun y h2 => hy y (List.mem_cons_of_mem _ h2)
    exact this _ _ hnc
  generalize hs4 : ({ s3 with heap := pushCells (s3.heap.push { cls := .type "dict", data := .dict #[] }) scope.names } : Shared) = s4 at I4 ⊢
  have h4 : s4.heap = s3.heap.push { cls := .type "dict", data := .dict #[] } := by rw [← hs4]; exact hpc
  have k24 : ∀ b o, s2.heap.get? b = some o → s4.heap.get? b = some o := fun b o e => by
    rw [h4]
    refine Heap.get?_push_of_some _ ?_
    rw [h3]
    exact Heap.get?_push_of_some _ e
  have gen4 : s4.heap.IsGen a gn := gen.keeps k24
  have gs4 : s4.gens[gn]? = some (.fresh c) := by rw [← hs4, ← hs3]; exact hgs
  have os4 : s4.os = s2.os := by rw [← hs4, ← hs3]
  have fr : GFr X.prog X.w X.A.in1 X.stack a gn Lg H3 xs s4 := by
    refine ⟨gen4, c, gs4, fun s5 e1 e2 b5 => seg X.A.in1 s5 H3 xs hr.in1 I.ok.frames (fun b o e => by rw [e1]; exact k24 b o e) (fun b hb => ?_) (by rw [e1]; exact I4.hok) (fun b o v e n => ?_) (e2.trans os4) b5 hsp⟩
    · rw [← hH3, upd_ne (by rw [← hD]; exact Nat.ne_of_lt hb)]
    · rw [e1, h4] at e
      rcases Heap.get?_push_cases e with ⟨_, z⟩ | z
      · rw [z]; exact fun q => by cases q
      · rw [h3] at z
        rcases Heap.get?_push_cases z with ⟨_, z⟩ | z
        · rw [z]; exact fun q => by cases q
        · rw [n] at z; cases z
  have fpb : ∀ {σ' : L2.St} {H' : Hp} {s' : Shared} {b : Addr}, L2.Inv (X.blk s3 H3 scope ce [a, Lg]) [] σ' H' s' → b ∈ [a, Lg] → H' b = none → FpOk (X.blk s3 H3 scope ce [a, Lg]) [] H' b := fun {σ' H' s' b} I' hb hn =>
    ⟨hn, (I'.ok.exf b hb).1, I'.ok.exfs b hb, .inl hb, fun x c e => (I'.ok.exf b hb).2 x c e, fun p hp => absurd (show p ∈ ([] : List (Addr × Obj)) ++ [] from hp) (by simp)⟩
  have fa4 := fpb I4 (b := a) (by simp) (f3 a (by simp)).1.1
  have fl4 := fpb I4 (b := Lg) (by simp) (f3 Lg (by simp)).1.1
  have hLg4 : Lg < s4.heap.objs.size := by rw [h4, Heap.size_push]; exact Nat.lt_succ_of_lt (f3 Lg (by simp)).2
  -- back in the def's context
  have leave : ∀ {σ' : L2.St} {H5 : Hp} {s6 : Shared}, L2.Inv (X.blk s3 H3 scope ce [a, Lg]) [] σ' H5 s6 → Pv xs.length H5 → compPost (model X.prog X.w) X.A X.xe use Qf (.ref D) s3.heap.objs.size (.ok .next) s6 := fun {σ' H5 s6} I6 pq => by
    have I7 : L2.Inv X pins σ H5 s6 := I3.call' (ch := [a, Lg]) I6.os I6.base I6.hok I6.bare fun b hb => ⟨(f3 b hb).1.2.2.2.1, (f3 b hb).1.2.1, (f3 b hb).1.2.2.2.2.1, (f3 b hb).1.2.2.2.2.2⟩
    have nC : H5 s3.heap.objs.size = none := by
      have z : H5 ce.locals = none := I6.free
      rw [cL] at z
      exact z
    obtain ⟨m, hn, _⟩ := I6.loc
    have hn : s6.heap.Ns ce.locals m := hn
    rw [cL] at hn
    exact hRR D s3.heap.objs.size s6 m H5 I7 (done H5 pq) hn (I3.fpOk (Nat.le_refl _) nC)
  let Jn : Nat → Shared → Prop := fun m s' => ∃ i' it l its H', m = its.size - i' ∧ 1 ≤ i' ∧ i' ≤ its.size ∧ Vals xs its.toList ∧ L2.Inv (X.blk s3 H3 scope ce [a, Lg]) [] (wipe σ (own.map (·.2))) H' s' ∧ FpOk (X.blk s3 H3 scope ce [a, Lg]) [] H' a ∧ FpOk (X.blk s3 H3 scope ce [a, Lg]) [] H' it ∧ it ≠ l ∧ H' l = none ∧ PinB (X.blk s3 H3 scope ce [a, Lg]) l ∧
    GAt X.prog X.w X.A.in1 a gn it l its i' s' ∧ Pv i' H'
  have turn : ∀ (i : Nat) (it l : Addr) (its : Array Value) (H5 : Hp) (u : Value) (s5 : Shared) (m0 : Nat), its.size - (i + 1) < m0 → Vals xs its.toList → its[i]? = some u → it ≠ l → L2.Inv (X.blk s3 H3 scope ce [a, Lg]) [] (wipe σ (own.map (·.2))) H5 s5 → FpOk (X.blk s3 H3 scope ce [a, Lg]) [] H5 a → FpOk (X.blk s3 H3 scope ce [a, Lg]) [] H5 it → H5 l = none → PinB (X.blk s3 H3 scope ce [a, Lg]) l →
      GAt X.prog X.w X.A.in1 a gn it l its (i + 1) s5 → Pv i H5 →
      wpAny (model X.prog X.w) X.A (letOwnedTupleGo tg (.ref a) u) (fun _ s6 => wpAny (model X.prog X.w) X.A (assign tg ce u) (fun _ s7 =>
        wpAny (model X.prog X.w) X.A (forIn ifs true fun c r => if r = true then do let ok ← isTrue c ce (eval c ce); pure (ForInStep.yield ok) else pure (ForInStep.yield r)) (fun ok s8 =>
          if ok = true then wpAny (model X.prog X.w) X.A (eval elt ce) (fun x s9 => wpAny (model X.prog X.w) X.A (call (.builtin "list.append") [.ref D, x]) (fun _ s10 => ∃ m, m < m0 ∧ Jn m s10) (fun _ _ => False) s9) (fun _ _ => False) s8
          else ∃ m, m < m0 ∧ Jn m s8) (fun _ _ => False) s7) (fun _ _ => False) s6) (fun _ _ => False) s5 := by
    intro i it l its H5 u s5 m0 hm hv hu hne I5 fA fI nl pl G pv
    have hsl : its.toList.length = its.size := by simp
    have hlen := hv.length
    have hi : i < its.size := (Array.getElem?_eq_some_iff.mp hu).1
    obtain ⟨x, hx⟩ : ∃ x, xs[i]? = some x := ⟨xs[i]'(by omega), List.getElem?_eq_getElem (by omega)⟩
    have rx : RelV x u := by
      obtain ⟨u', h1, h2⟩ := hv.get hx
      have h3 : its.toList[i]? = its[i]? := by simp
      rw [h3, hu] at h1
      cases h1
      exact h2
    obtain ⟨oa, oi, ol, ⟨nm, qn, hca, hda⟩, hoa, Ip, back⟩ := gat_pins (X := X.blk s3 H3 scope ce [a, Lg]) I5 fA fI nl pl G
    refine go_of hoa hca hda (by decide) ?_
    refine hid_run (X := X.blk s3 H3 scope ce [a, Lg]) (wpAny_mono (pg.run _ (hidG s5) _ H5 x u _ (inv_hid Ip) rx (step i x H5 hx pv)) (fun _ s7 ⟨σ7, H7, I7, hw7, q7⟩ => fun s7' w7 => ?_) fun _ _ z => z.elim)
    have I7' := inv_wk I7 w7
    refine hid_run (X := X.blk s3 H3 scope ce [a, Lg]) (wpAny_mono (pt.run _ (hidG s7') σ7 H7 _ (inv_hid I7') q7) (fun b s8 ⟨H8, I8, q8⟩ => fun s8' w8 => ?_) fun _ _ z => z.elim)
    have I8' := inv_wk I8 w8
    have fin : ∀ {s' : Shared} {H' : Hp}, L2.Inv (X.blk s3 H3 scope ce [a, Lg]) ([] ++ gPins a it l oa oi ol) σ7 H' s' → (∀ Y, s5.gens[gn]? = some Y → isSusp Y = true → s'.gens[gn]? = some Y) → Pv (i + 1) H' → ∃ m, m < m0 ∧ Jn m s' := fun {s' H'} I' st p' => by
      obtain ⟨z1, z2, z3, z4, z5⟩ := back s' σ7 H' I' st
      have hl : (wipe σ (own.map (·.2))).length = σ7.length := by rw [← hw7, wipe_length]
      refine ⟨_, hm, i + 1, it, l, its, H', rfl, Nat.succ_pos _, hi, hv, z1.weak hl (fun j v e => ?_), z2, z3, hne, z4, pl, z5, p'⟩
      rw [← hw7] at e
      exact (wipe_some e).1
    cases b with
    | false =>
      simp only [Bool.false_eq_true, if_false] at q8 ⊢
      exact fin I8' (fun Y h1 h2 => w8.stay gn Y (w7.stay gn Y h1 h2) h2) q8
    | true =>
      simp only [if_true] at q8 ⊢
      refine hid_run (X := X.blk s3 H3 scope ce [a, Lg]) (wpAny_mono (pe.run _ (hidG s8') σ7 H8 _ (inv_hid I8') q8) (fun z s9 ⟨yv, H9, I9, r9, acc, hD9, hz9, nx⟩ => fun s9' w9 => ?_) fun _ _ z => z.elim)
      have I9' := inv_wk I9 w9
      refine hid_run (X := X.blk s3 H3 scope ce [a, Lg]) (app_ok (X := X.blk s3 H3 scope ce [a, Lg]) (inv_hid I9') hD9 hz9 r9 fun s10 I10 => fun s10' w10 => ?_)
      exact fin (inv_wk I10 w10) (fun Y h1 h2 => w10.stay gn Y (w9.stay gn Y (w8.stay gn Y (w7.stay gn Y h1 h2) h2) h2) h2) nx
  have loop : codeAny (model X.prog X.w) X.A (.compLoop (.ListComp elt [⟨tg, iter, ifs, 0⟩] scope pos) 0 (.ref a) (.ref D) ce) (compPost (model X.prog X.w) X.A X.xe use Qf (.ref D) s3.heap.objs.size) s4 := by
    refine compLoop_any (fun n s' => (n = xs.length + 1 ∧ s' = s4) ∨ Jn n s') ?_ (xs.length + 1) (.inl ⟨rfl, rfl⟩)
    rintro n s5 (⟨rfl, rfl⟩ | ⟨i, it, l, its, H5, rfl, hi1, hi2, hv, I5, fA, fI, hne, nl, pl, G, pv⟩)
    · refine thnF (first_turn (X := X.blk s3 H3 scope ce [a, Lg]) hc hd I4 fl4 fr hLg4) fun r s6 h6 => ?_
      rcases h6 with ⟨hx, rfl, I6⟩ | ⟨u, it, l, its, rfl, hz, hu, hv, I6, fI, nl, pl, hne, G⟩
      · subst hx
        exact leave I6 p0
      · have hsl : its.toList.length = its.size := by simp
        have hlen := hv.length
        refine thnF (turn 0 it l its H3 u s6 (xs.length + 1) (by omega) hv hu hne I6 fa4 fI nl pl G p0) fun _ s7 h7 => thnF h7 fun _ s8 h8 => thnF h8 fun b s9 h9 => ?_
        cases b with
        | false =>
          simp only [Bool.false_eq_true, if_false] at h9 ⊢
          obtain ⟨m, hm, z⟩ := h9
          exact ⟨m, hm, .inr z⟩
        | true =>
          simp only [if_true] at h9 ⊢
          exact thnF h9 fun _ s10 h10 => thnF h10 fun _ s11 ⟨m, hm, z⟩ => ⟨m, hm, .inr z⟩
    · refine thnF (later_turn (X := X.blk s3 H3 scope ce [a, Lg]) hc hd I5 fI hne (fun z => ?_) hi2 G) fun r s6 h6 => ?_
      · obtain ⟨oa, _, _, hoa, hca, _⟩ := G.gen
        obtain ⟨oi, hoi, hci, _⟩ := G.itr
        rw [z, hoa] at hoi
        cases hoi
        rw [hca] at hci
        exact absurd (Value.type.inj hci) (by decide)
      · rcases h6 with ⟨hx, rfl, I6⟩ | ⟨u, rfl, hu, I6, G6⟩
        · have hsl : its.toList.length = its.size := by simp
          have hlen := hv.length
          refine leave I6 ?_
          have e1 : xs.length = i := by omega
          rw [e1]
          exact pv
        · have hlt := (Array.getElem?_eq_some_iff.mp hu).1
          refine thnF (turn i it l its H5 u s6 (its.size - i) (by omega) hv hu hne I6 fA fI nl pl G6 pv) fun _ s7 h7 => thnF h7 fun _ s8 h8 => thnF h8 fun b s9 h9 => ?_
          cases b with
          | false =>
            simp only [Bool.false_eq_true, if_false] at h9 ⊢
            obtain ⟨m, hm, z⟩ := h9
            exact ⟨m, hm, .inr z⟩
          | true =>
            simp only [if_true] at h9 ⊢
            exact thnF h9 fun _ s10 h10 => thnF h10 fun _ s11 ⟨m, hm, z⟩ => ⟨m, hm, .inr z⟩
  exact codeAny_compStart_list loop (wpAny_pyIter_gen gen4 loop)
/-- as a value -/
theorem pe_lcG {X : Cx} {elt tg iter : Expr} {ifs : List Expr} {scope : Scope} {own : List (Str × Nat)} {pos : Pos} {k : Nat} {ti : TGn1} {g : TG} {tt : TT} {te : TE} (hc : X.calm = true) (hr : Room (k + 1) X.A) (hN : X.N.Nodup) (hi : PG1 X k iter ti) (ok : BlkOk X.N X.env.scope scope own) (hnc : ∀ y ∈ scope.names, y.2 ≠ .cell)
    (hg : ∀ (s : Shared) (H : Hp) (C : Addr) (cl : List (Str × Addr)) (fp : List Addr), PG (X.blk s H scope (compEnvC scope cl C X.env) fp) tg g) (ht : ∀ (s : Shared) (H : Hp) (C : Addr) (cl : List (Str × Addr)) (fp : List Addr), PTs (X.blk s H scope (compEnvC scope cl C X.env) fp) ifs tt)
    (he : ∀ (s : Shared) (H : Hp) (C : Addr) (cl : List (Str × Addr)) (fp : List Addr), PE (X.blk s H scope (compEnvC scope cl C X.env) fp) elt te) (hs : ∀ x, foldedSetIterable iter X.env x = pure x := by intro _; rfl) :
    PE X (.ListComp elt [⟨tg, iter, ifs, 0⟩] scope pos) (tLcG ti g tt te (own.map (·.2))) := by
  refine ⟨fun pins s σ H Q I h => ?_⟩
  rw [eval_ListComp]
  refine lcg_core hc hr hN I hi ok hnc hg ht he hs h fun D C s' m H' I' q hn f => ⟨m, hn, fun h'' sb => ?_⟩
  obtain ⟨f0, f1, f2, f3, f4, f5⟩ := f
  exact ⟨.ref D, H', I'.turned (t' := s'.toks) (fun b o hb e => (sb.2 b hb).trans e) f0 f1 f3 f4 f5, rfl, q⟩
/-- name = [..] on one line, the name a local -/
theorem ps_setLcG {X : Cx} {i : Nat} {y : Str} {py : Pos} {elt tg iter : Expr} {ifs : List Expr} {scope : Scope} {own : List (Str × Nat)} {pos spos : Pos} {k : Nat} {ti : TGn1} {g : TG} {tt : TT} {te : TE} (hc : X.calm = true) (hr : Room (k + 1) X.A) (hN : X.N.Nodup) (hy : X.N[i]? = some y) (hyl : X.env.scope.names.lookup y = some .local)
    (hsw : swapsWith (.ListComp elt [⟨tg, iter, ifs, 0⟩] scope pos) (some (.Name y py)) spos.line X.env = pure true) (hi : PG1 X k iter ti) (ok : BlkOk X.N X.env.scope scope own) (hnc : ∀ y ∈ scope.names, y.2 ≠ .cell)
    (hg : ∀ (s : Shared) (H : Hp) (C : Addr) (cl : List (Str × Addr)) (fp : List Addr), PG (X.blk s H scope (compEnvC scope cl C X.env) fp) tg g) (ht : ∀ (s : Shared) (H : Hp) (C : Addr) (cl : List (Str × Addr)) (fp : List Addr), PTs (X.blk s H scope (compEnvC scope cl C X.env) fp) ifs tt)
    (he : ∀ (s : Shared) (H : Hp) (C : Addr) (cl : List (Str × Addr)) (fp : List Addr), PE (X.blk s H scope (compEnvC scope cl C X.env) fp) elt te) (hs : ∀ x, foldedSetIterable iter X.env x = pure x := by intro _; rfl) :
    PS X (.Assign [.Name y py] (.ListComp elt [⟨tg, iter, ifs, 0⟩] scope pos) spos) (tAsg (tLcG ti g tt te (own.map (·.2))) (gName i)) := by
  refine ⟨fun pins s σ H D I h => ?_⟩
  rw [exec_Assign_Name_used _ _ _ _ hsw]
  refine wpAny_bind (wpAny_standAt (wpAny_bind ?_))
  show wpAny _ X.A (do let _ ← comprehension (.ListComp elt [⟨tg, iter, ifs, 0⟩] scope pos) scope X.env (firstIterPos [⟨tg, iter, ifs, 0⟩] pos) (newList []) false (eval iter X.env) (some (assign (.Name y py) X.env))) _ _ s
  have h : tLcG ti g tt te (own.map (·.2)) σ H (fun x H1 => gName i x σ H1 D.nx) := h
  refine wpAny_bind (thn (lcg_core (Qf := fun _ s' => SP X pins D .next s') hc hr hN I hi ok hnc hg ht he hs h fun L C s' m H' I' q hn f => ?_) fun _ s' hq => wpAny_pure (wpAny_pure hq))
  show wpAny _ _ (assign (.Name y py) X.env (.ref L)) _ _ _
  refine wpAny_assign_Name (store_ok2 (v := V.ref L) I' hN hy (.inl hyl) rfl (fun s2 I2 ⟨a, sb, ha⟩ => ?_) (.inr hyl))
  obtain ⟨f0, f1, f2, f3, f4, f5⟩ := f
  have haC : C ≠ a := by
    rcases ha with z | z
    · rw [z]; exact f1
    · exact fun e => f4 y a z e.symm
  refine ⟨m, hn.sameBut sb haC, fun h3 sb3 => ?_⟩
  exact ⟨_, H', I2.turned (t' := s2.toks) (fun b o hb e => (sb3.2 b hb).trans e) f0 f1 f3 f4 f5, q⟩
end BXG
end
section
set_option Elab.async false
set_option linter.all false
set_option maxRecDepth 100000
set_option maxHeartbeats 4000000
/-! with o: suite, o of a class of the text; an exception passes through -/
namespace BXW
open PySem PySem.Spec PyProof.Rows L2 BX L2H
section
variable {prog : Program} {w : World} {A : Around} {E : Value → Shared → Prop} {s : Shared} {env : Env} {K : PySem.W.Frag} {x C fe fx : Addr} {ox : Obj} {od : Option Obj} {pos : Pos}
open PySem.W in
theorem kw_coreX {bdy : Sem Flow} {Q : Flow → Shared → Prop} (X : K.In s.heap) (I : InstAt s.heap x ox C od) (he : findIn K (.ref C) "__enter__" = some (some (.ref fe))) (hfe : isFn K (.ref fe) = true) (hx : findIn K (.ref C) "__exit__" = some (some (.ref fx))) (hfx : isFn K (.ref fx) = true)
    (h : wpAny (model prog w) A (call (.ref fe) [.ref x]) (fun v s₂ => wpAny (model prog w) A bdy (fun f s₄ => wpAny (model prog w) A (call (.ref fx) [.ref x, .none, .none, .none]) (fun _ s₅ => Q f s₅) E s₄)
      (fun e s₄ => wpAny (model prog w) A (noteFrame e env) (fun _ s₅ => wpAny (model prog w) A (setFlight e none) (fun _ s₆ => ∃ tyv tb, (∀ Q' : Value → Shared → Prop, Q' tyv s₆ → wpAny (model prog w) A (typeOf e) Q' E s₆) ∧ (∀ Q' : Value → Shared → Prop, Q' tb s₆ → wpAny (model prog w) A (tracebackOf e) Q' E s₆) ∧
        wpAny (model prog w) A (run (.call (.ref fx) ⟨[.ref x, tyv, e, tb], []⟩) (some e)) (fun f s₇ => f = .ret .none ∧ wpAny (model prog w) A (passOn "with" e env : Sem Flow) Q E s₇) E s₆) E s₅) E s₄) s₂) E s) :
    wpAny (model prog w) A (withItem false pos env (pure (.ref x)) none bdy) Q E s := by
  obtain ⟨cd, hcd, ae⟩ := kw_along he
  obtain ⟨cd', hcd', ax⟩ := kw_along hx
  cases hcd.symm.trans hcd'
  obtain ⟨hh, g, d, tt, os⟩ := s
  have L1 : Looks (model prog w) hh (specialOnItsLine (.ref x) "__enter__") (some (.ref fe), cd.mro) := kw_special X I hcd ae
  have L2 : Looks (model prog w) hh (specialOnItsLine (.ref x) "__exit__") (some (.ref fx), cd.mro) := kw_special X I hcd ax
  have L3 : Looks (model prog w) hh (bindSpecial (.ref fe) (.ref x)) (.ref fe, [.ref x]) := bind_fn X _ (beq_iff_eq.mp hfe)
  have L4 : Looks (model prog w) hh (bindSpecial (.ref fx) (.ref x)) (.ref fx, [.ref x]) := bind_fn X _ (beq_iff_eq.mp hfx)
  have L5 : Looks (model prog w) hh (aMethodOfAnotherBuiltinTypeStops (.ref fe) cd.mro) () := Looks.of_pure rfl
  have L6 : Looks (model prog w) hh (aMethodOfAnotherBuiltinTypeStops (.ref fx) cd.mro) () := Looks.of_pure rfl
  unfold withItem
  refine wpAny_bind (wpAny_pure ?_)
  refine wpAny_bind (wpAny_standAt ?_)
  simp only [Bool.false_eq_true, if_false]
  kw_lk
  refine wpAny_mono h (fun v s₂ h₂ => ?_) fun _ _ z => z
  kw_lk
  refine wpAny_attempt (kw_held ?_)
  show wpAny _ _ bdy _ _ _
  refine wpAny_mono h₂ (fun f s₄ h₄ => ?_) fun e s₄ h₄ => ?_
  · kw_lk
    refine wpAny_mono h₄ (fun _ s₅ h₅ => ?_) fun _ _ z => z
    kw_lk
    exact h₅
  · refine wpAny_bind (wpAny_mono h₄ (fun _ s₅ h₅ => ?_) fun _ _ z => z)
    refine wpAny_bind (wpAny_mono h₅ (fun _ s₆ ⟨tyv, tb, ht, hb, h₆⟩ => ?_) fun _ _ z => z)
    refine wpAny_bind (wpAny_standAt ?_)
    refine wpAny_holding ?_
    refine wpAny_bind (ht _ ?_)
    refine wpAny_bind (hb _ ?_)
    unfold withItem.marked
    refine wpAny_bind (wpAny_bind (wpAny_mono h₆ (fun f s₇ h₇ => ?_) fun _ _ z => z))
    obtain ⟨rfl, h₇⟩ := h₇
    refine wpAny_pure ?_
    first
      | exact wpAny_bind (wpAny_pure (wpAny_bind (wpAny_pure h₇)))
      | exact wpAny_bind (wpAny_pure h₇)
      | exact h₇
end
/-! ### a def called while an exception is handled; it raises nothing -/
structure AtH (P : Program) (w : World) (K : PySem.W.Frag) (mg : Str → Option Value) (base : Heap) (k : Nat) (f : Addr) (n : Nat) (sp : Sp) : Prop where
  run : ∀ (A : Around) (outer : List Env) (s : Shared) (H : Hp) (us : List Value) (vs : List V) (Q : VK) (p : Addr × Obj), RoomH k A → A.handled = some (.ref p.1) → PinOk outer H s p → Env0 P w K mg base A outer s H → us.length = n → Vals vs us → sp vs H Q C8.E0 →
    codeAny (model P w) A (.call (.ref f) ⟨us, []⟩) (CR C8.CX0 outer P w H s Q C8.E0) s
section
variable {P : Program} {w : World} {K : PySem.W.Frag} {mg : Str → Option Value} {base : Heap} {k : Nat} {f : Addr} {sp : Sp}
theorem atH {x qual : Str} {st : Stmt} {fd : FuncData} {N ps : List Str} (F : FnQ K x qual st f fd) (S : FnScope N ps (defScope st))
    (hb : ∀ (kV doc pm : Value) (an : Option Addr) (cdv ct : Value) (us : List Value), us.length = ps.length → bindArgs (PySem.W.fnOf x qual (defArgs st) (defBody st) (defScope st) .none kV doc pm an cdv ct) ⟨us, []⟩ = pure (ps.zip us))
    (hbody : ∀ (cdv : Value) (A : Around) (outer : List Env) (s : Shared) (H : Hp) (vs : List V) (Q : VK) (E : XK) (p : Addr × Obj), RoomH k (A.deeper (envOfC qual (defScope st) s.heap.objs.size f cdv)) → sp vs H Q C8.E0 →
      ∃ t, PSs (cxH C8.CX0 P w K mg base N qual (defScope st) f cdv A outer s H E p).nox (defBody st) t ∧ t { nx := fun _ H' => Q .non H', rt := Q } (L2.start N vs) H) : AtH P w K mg base (k + 1) f ps.length sp := by
  refine ⟨fun A outer s H us vs Q p hr hot hpin e0 hu r hsp => ?_⟩
  have b := F.bindsN hb
  have bs := b s us (e0.mod.kin.keeps fun b o e => (e0.bs b o e).1) (by rw [List.append_nil]; exact hu)
  rw [List.append_nil] at bs
  obtain ⟨oc, od, dV, kV, doc, pm, an, cdv, ct, osl, rfl, lk, hcd, _, _⟩ := F.ex
  have hl : vs.length = ps.length := by rw [r.length]; exact hu
  have KX : K.In s.heap := e0.mod.kin.keeps fun b o e => (e0.bs b o e).1
  have lim : s.heap.NoLimit := e0.mod.nolimit.keeps fun b o e => (e0.bs b o e).1
  have hkind : ∀ y ∈ ps.zip us, (defScope st).names.lookup y.1 = some .local ∨ ((defScope st).names.lookup y.1 = some .cell ∧ ((cellsFrom (s.heap.objs.size + 1) (defScope st).names []).lookup y.1).isSome = true) := fun ⟨n, v⟩ hy => by
    rcases S.par n (List.of_mem_zip hy).1 with q | q
    · exact .inl q
    · exact .inr ⟨q, PySem.W.cellsFrom_some _ _ _ (.inl q)⟩
  refine codeAny_call_function hr.depth (KX _ _ lk) rfl S.co S.gen rfl (PySem.W.codeRec_of KX hcd) (bs _ _ _ _ ?_)
  refine wpAny_newFunctionEnv_cells S.kind hkind fun env he s1 x => ?_
  subst he
  refine ⟨lim.keeps x.toInCall.keep, codeAny_func ?_⟩
  obtain ⟨t, ht, hq⟩ := hbody cdv A outer s H vs Q C8.E0 p (hr.deeper _) hsp
  have I : Inv (cxH C8.CX0 P w K mg base N qual (defScope st) f cdv A outer s H C8.E0 p) [] (L2.start N vs) H s1 := inv_startH S hpin e0 hl r x
  refine wpAny_mono (ht.run [] s1 (L2.start N vs) H _ (I.wish _) hq) (fun fl s' hs => ?_) fun e s' hs => hs.elim
  have hs := hs.unwish (X := cxH C8.CX0 P w K mg base N qual (defScope st) f cdv A outer s H C8.E0 p)
  have fin : ∀ {σ' : L2.St} {H' : Hp} {v : V} {u : Value}, Inv (cxH C8.CX0 P w K mg base N qual (defScope st) f cdv A outer s H C8.E0 p) [] σ' H' s' → RelV v u → Q v H' → CE outer P w H s Q u s' :=
    fun {σ' H' v u} J rv q => ⟨v, H', J.os, J.bare, J.base, J.hok, rv, q⟩
  cases fl with
  | ret u =>
    obtain ⟨v, σ', H', J, rv, q⟩ := hs
    exact fin J rv q
  | next =>
    obtain ⟨σ', H', J, q⟩ := hs
    exact fin (v := V.non) (u := Value.none) J rfl q
  | brk =>
    obtain ⟨_, _, _, q⟩ := hs
    exact False.elim q
  | cont =>
    obtain ⟨_, _, _, q⟩ := hs
    exact False.elim q
end
/-! ### with -/
def dWith (spX : Sp) (x : Addr) (D : Ends) : Ends where
  nx := fun σ H => spX [.ref x, .non, .non, .non] H (fun _ H' => D.nx σ H') C8.E0
  rt := fun v H => spX [.ref x, .non, .non, .non] H (fun _ H' => D.rt v H') C8.E0
  bk := fun σ H => spX [.ref x, .non, .non, .non] H (fun _ H' => D.bk σ H') C8.E0
  ct := fun σ H => spX [.ref x, .non, .non, .non] H (fun _ H' => D.ct σ H') C8.E0
def wWith (spX : Sp) (x : Addr) (Wout : WX) : WX := fun cls d σ H => ∃ vc, RelV vc cls ∧ ∀ (a : Addr) (tv : V), H a = none → spX [.ref x, vc, .ref a, tv] H (fun r H' => r = .non ∧ Wout cls d σ H') C8.E0
def tWith (C : Addr) (spE spX : Sp) (tc : TE) (tb : WX → TS) (Wout : WX) : TS := fun D σ H => tc σ H fun v H1 => ∃ x dx fs, v = .ref x ∧ H1 x = some (.ins C dx fs) ∧ spE [.ref x] H1 (fun _ H2 => tb (wWith spX x Wout) (dWith spX x D) σ H2) C8.E0
section
variable {X : Cx} {ctx : Expr} {body : List Stmt} {pos : Pos} {tc : TE} {tb : WX → TS} {Wout : WX} {C fE fX : Addr} {kE kX j : Nat} {spE spX : Sp}
theorem ps_with (hs : X.stack = X.env :: X.outer) (hf : X.env.frame = some X.env.locals) (hex : X.ex = []) (tk : Takes X Wout) (hE : At X.prog X.w X.K X.mg X.base kE fE spE) (mE : Meth X.K C "__enter__" fE) (hX : At X.prog X.w X.K X.mg X.base kX fX spX) (hXh : AtH X.prog X.w X.K X.mg X.base kX fX 4 spX) (mX : Meth X.K C "__exit__" fX)
    (hr : Room j X.A) (hkE : kE ≤ j) (hkX : kX ≤ j) (hc : PE X ctx tc) (hb : ∀ (W : WX) (pn : List (Addr × Obj)) (xe : Value → Shared → Prop), Takes (X.tr pn xe) W → PSs (X.tr pn xe) body (tb W)) :
    PS X (.With [⟨ctx, none⟩] body pos) (tWith C spE spX tc tb Wout) := by
  refine ⟨fun pins s σ H D I h => ?_⟩
  have ok := I.ok
  have hfr : X.A.frames = some (X.env :: X.outer) := by rw [ok.frames, hs]
  refine PySem.W.kw_exec0 (thn (hc.run pins s σ H _ I h) fun v s1 ⟨vv, H1, I1, rv, x, dx, fs, ev, hx, he⟩ => ?_)
  subst ev
  obtain rfl : v = Value.ref x := rv
  obtain ⟨od, J1⟩ := ins_inst I1 hx
  show wpAny _ _ (withItem false _ _ (pure (.ref x)) none (execs body X.env)) _ _ _
  refine kw_coreX I1.kIn J1 mE.at_ mE.fn mX.at_ mX.fn (thn (run_at (us := [.ref x]) (vs := [.ref x]) hE (hr.mono hkE) I1 (.cons rfl .nil) he) fun v2 s2 ⟨vv2, H2, I2, rv2, q2⟩ => ?_)
  have exit : ∀ {σ' : L2.St} {H' : Hp} {s' : Shared} {QQ : Hp → Prop}, Inv X pins σ' H' s' → spX [.ref x, .non, .non, .non] H' (fun _ H'' => QQ H'') C8.E0 → wpAny (model X.prog X.w) X.A (call (.ref fX) [.ref x, .none, .none, .none]) (fun _ s5 => ∃ H'', Inv X pins σ' H'' s5 ∧ QQ H'') X.xe s' := fun {σ' H' s' QQ} I' q =>
    thn (run_at (us := [.ref x, .none, .none, .none]) (vs := [.ref x, .non, .non, .non]) hX (hr.mono hkX) I' (.cons rfl (.cons rfl (.cons rfl (.cons rfl .nil)))) q) fun v5 s5 ⟨vv5, H5, I5, rv5, q5⟩ => ⟨H5, I5, q5⟩
  refine wpAny_mono ((hb (wWith spX x Wout) (X.pn ++ pins) (fun e s₄ => wpAny (model X.prog X.w) X.A (noteFrame e X.env) (fun _ s₅ => wpAny (model X.prog X.w) X.A (setFlight e none) (fun _ s₆ => ∃ tyv tb, (∀ Q' : Value → Shared → Prop, Q' tyv s₆ → wpAny (model X.prog X.w) X.A (typeOf e) Q' X.xe s₆) ∧ (∀ Q' : Value → Shared → Prop, Q' tb s₆ → wpAny (model X.prog X.w) X.A (tracebackOf e) Q' X.xe s₆) ∧
        wpAny (model X.prog X.w) X.A (run (.call (.ref fX) ⟨[.ref x, tyv, e, tb], []⟩) (some e)) (fun f s₇ => f = .ret .none ∧ wpAny (model X.prog X.w) X.A (passOn "with" e X.env : Sem Flow) (SP X pins D) X.xe s₇) X.xe s₆) X.xe s₅) X.xe s₄) (fun u s' xx => ?_)).run [] s2 σ H2 (dWith spX x D) (I2.toTry _) q2) (fun f s4 hsp => ?_) fun e s4 z => z
  · obtain ⟨a, B, sI, pins', σ', H', cls, d, rfl, J', nb, up, sky, na, os, ag, hw⟩ := xx
    have J : Inv X pins σ' H' sI := J'.ofTry ok
    have sky' : Sky B (X.env :: X.outer) a (Zc cls d) X.env.locals s'.heap := by rw [← hs]; exact sky
    show wpAny (model X.prog X.w) X.A (noteFrame (.ref a) X.env) _ _ _
    refine Sky.land Zc.steady hfr hf sky' fun h3 fl3 up3 => ?_
    have J3 : Inv X pins σ' H' { s' with heap := h3 } := J.landed nb fl3.1 (up.trans up3) os ag
    obtain ⟨k1, k2, k3, oe, vs, T, oT, ts, he3, hz, hd, hv1, hnT, hTe, hT, hdT, ht3⟩ := id fl3
    have nT : H' T = none := (J.inGround nb).gone hnT
    have notFr : ∀ (b : Addr) (o : Obj) (fv : Array Value), h3.get? b = some o → o.data = .fields fv → b ∉ frs (X.env :: X.outer) := fun b o fv e dd hm => by
      obtain ⟨_, o', e', hnf⟩ := k3.mem hm
      have eo : o = o' := Option.some.inj (e.symm.trans e')
      rw [← eo] at hnf
      exact hnf _ dd
    have fa := notFr a oe vs he3 hd
    have fT := notFr T oT ts hT hdT
    obtain ⟨vc, rvc, hq⟩ := hw
    have hts : 3 < ts.size := (Array.getElem?_eq_some_iff.mp ht3).1
    obtain ⟨y, hy⟩ : ∃ y, ts[1]? = some y := ⟨ts[1], Array.getElem?_eq_getElem (by omega)⟩
    refine ⟨cls, if (y == Value.none) = true then .none else .ref T, fun Q' q => ?_, fun Q' q => ?_, ?_⟩
    · refine wpAny_typeOf_ref he3 ?_
      rw [hz.1]
      exact q
    · unfold tracebackOf
      refine wpAny_bind (wpAny_field he3 hd hv1 ?_)
      refine wpAny_bind (wpAny_field hT hdT hy ?_)
      by_cases hyn : (y == Value.none) = true
      · rw [if_pos hyn] at q ⊢
        exact wpAny_pure q
      · rw [if_neg hyn] at q ⊢
        exact wpAny_pure q
    · obtain ⟨tv, rtv⟩ : ∃ tv, RelV tv (if (y == Value.none) = true then Value.none else Value.ref T) := by
        by_cases hyn : (y == Value.none) = true
        · rw [if_pos hyn]; exact ⟨.non, rfl⟩
        · rw [if_neg hyn]; exact ⟨.ref T, rfl⟩
      generalize (if (y == Value.none) = true then Value.none else Value.ref T) = tbv at rtv
      have e3 := J3.env0
      have rk := roomH_of (hr.mono hkX)
      refine wpAny_run (codeAny_mono (hXh.run (X.A.mark (some (.ref a))) X.stack { s' with heap := h3 } H' [.ref x, cls, .ref a, tbv] [.ref x, vc, .ref a, tv] _ (a, oe) ⟨rk.dp, rk.un⟩ rfl ⟨he3, na, by rw [hs]; exact fa, fun v z => by
          have z : oe.data = .cell v := z
          rw [hd] at z
          cases z⟩ ⟨e3.frames, e3.mod, e3.bs, e3.bsz, e3.funs, e3.frf, e3.hok, e3.bare⟩ rfl (.cons rfl (.cons rvc (.cons rfl (.cons rtv .nil)))) (hq a tv na)) fun r s6 hr6 => ?_) (fun z => ref_ne_byPass a (Option.some.inj z))
      cases r with
      | error e => exact hr6.elim
      | ok fl =>
        cases fl with
        | next => exact hr6.elim
        | brk => exact hr6.elim
        | cont => exact hr6.elim
        | ret u6 =>
          obtain ⟨v6, H6, os6, bare6, un6, hok6, rv6, ev6, q6⟩ := hr6
          subst ev6
          obtain rfl : u6 = Value.none := rv6
          refine ⟨rfl, ?_⟩
          have J6 : Inv X pins σ' H6 s6 := J3.call' (ch := []) os6 un6 hok6 bare6 fun b z => by simp at z
          have ga : s6.heap.get? a = some oe := un6.keep a oe he3 na (by rw [hs]; exact fa) (by simp)
          have gT : s6.heap.get? T = some oT := un6.keep T oT hT nT (by rw [hs]; exact fT) (by simp)
          have na6 : H6 a = none := un6.free a oe he3 na (by simp)
          have nT6 : H6 T = none := un6.free T oT hT nT (by simp)
          have far : ∀ b o, sI.heap.get? b = some o → b ≠ a ∧ b ≠ T := fun b o e => by
            by_cases hb : b ∈ frs X.stack
            · rw [hs] at hb
              exact ⟨fun z => fa (by rw [← z]; exact hb), fun z => fT (by rw [← z]; exact hb)⟩
            · have q := nb b o e hb
              exact ⟨fun z => by
                rw [z, k2] at q
                exact (nomatch q), fun z => by
                rw [z, hnT] at q
                cases q⟩
          have far0 : ∀ b o, X.s_0.heap.get? b = some o → b ≠ a ∧ b ≠ T := fun b o e => by
            obtain ⟨o', q⟩ := J.base.there b o e (by rw [hex]; simp)
            exact far b o' q
          have farP : ∀ p ∈ X.pn ++ pins, p.1 ≠ a ∧ p.1 ≠ T := fun p hp => far p.1 p.2 (J.pin p hp).1
          obtain ⟨G, g1, g2⟩ := restrict s6.heap fun b => !(decide (b = a) || decide (b = T))
          have gIn : ∀ b o, G.get? b = some o → s6.heap.get? b = some o ∧ b ≠ a ∧ b ≠ T := fun b o e => by
            cases q : (!(decide (b = a) || decide (b = T))) with
            | false =>
              rw [g2 b q] at e
              cases e
            | true =>
              rw [g1 b q] at e
              simp only [Bool.not_eq_true', Bool.or_eq_false_iff, decide_eq_false_iff_not] at q
              exact ⟨e, q.1, q.2⟩
          have gOf : ∀ b o, b ≠ a → b ≠ T → s6.heap.get? b = some o → G.get? b = some o := fun b o h1 h2 e => by
            rw [g1 b (by simp [h1, h2])]
            exact e
          have I6 : Inv X pins σ' H6 { s6 with heap := G } := J6.less (fun b o e => (gIn b o e).1) gOf ⟨oe, vs, ga, hd⟩ ⟨oT, ts, gT, hdT⟩ na6 nT6 far0 farP
          have B6in : ∀ b o, (PySem.W.hideAll G (frs X.stack)).get? b = some o → s6.heap.get? b = some o := fun b o e => (gIn b o (PySem.W.of_hideAll _ e)).1
          have Bno : ∀ b, (b = a ∨ b = T) → (PySem.W.hideAll G (frs X.stack)).get? b = none := fun b hb => by
            cases q : (PySem.W.hideAll G (frs X.stack)).get? b with
            | none => rfl
            | some o =>
              obtain ⟨_, n1, n2⟩ := gIn b o (PySem.W.of_hideAll _ q)
              rcases hb with z | z
              · exact absurd z n1
              · exact absurd z n2
          have fl6 : HandSPX.FlyingZ (PySem.W.hideAll G (frs X.stack)) (X.env :: X.outer) a (Zc cls d) s6.heap := by
            refine ⟨B6in, Bno a (.inl rfl), ?_, oe, vs, T, oT, ts, ga, hz, hd, hv1, Bno T (.inr rfl), hTe, gT, hdT, ht3⟩
            have ff := funFrames_none (B := PySem.W.hideAll G (frs X.stack)) J6.stack fun b hb => PySem.W.hideAll_none _ hb
            rw [← hs]
            exact ff
          unfold PySem.passOn
          refine wpAny_bind (wpAny_field ga hd hv1 ?_)
          rw [if_neg (show ¬ ((Value.ref T == Value.none) = true) from by simp)]
          have goOn : wpAny (model X.prog X.w) X.A (setFlight (.ref a) X.env.frame) (fun _ s7 => wpAny (model X.prog X.w) X.A (throw (.ref a) : Sem Flow) (SP X pins D) X.xe s7) X.xe s6 := by
            rw [hf]
            refine HandSPX.setFlight_upZ fl6 fun h7 hh7 up7 => wpAny_throw (tk _ _ ?_)
            refine ⟨a, PySem.W.hideAll G (frs X.stack), { s6 with heap := G }, pins, σ', H6, cls, d, rfl, I6, fun b o e hb => PySem.W.hideAll_get _ e hb, ?_, .inr (.inr (by rw [← hs] at hh7; exact hh7)), na6, rfl, J6.bare, q6⟩
            exact Heap.UpToSlots.trans (Heap.UpToSlots.of_keeps fun b o e => (gIn b o e).1) up7
          first
            | exact wpAny_bind (wpAny_pure (wpAny_bind goOn))
            | exact wpAny_bind goOn
  · cases f with
    | next =>
      obtain ⟨σ4, H4, I4, q4⟩ := hsp
      exact thn (exit (I4.ofTry ok) q4) fun _ s5 ⟨H5, I5, q5⟩ => ⟨σ4, H5, I5, q5⟩
    | brk =>
      obtain ⟨σ4, H4, I4, q4⟩ := hsp
      exact thn (exit (I4.ofTry ok) q4) fun _ s5 ⟨H5, I5, q5⟩ => ⟨σ4, H5, I5, q5⟩
    | cont =>
      obtain ⟨σ4, H4, I4, q4⟩ := hsp
      exact thn (exit (I4.ofTry ok) q4) fun _ s5 ⟨H5, I5, q5⟩ => ⟨σ4, H5, I5, q5⟩
    | ret u =>
      obtain ⟨v4, σ4, H4, I4, r4, q4⟩ := hsp
      exact thn (exit (I4.ofTry ok) q4) fun _ s5 ⟨H5, I5, q5⟩ => ⟨v4, σ4, H5, I5, r4, q5⟩
end
end BXW
end
section
set_option Elab.async false
set_option linter.all false
set_option maxRecDepth 100000
set_option maxHeartbeats 4000000
/-! lambdas handed to defs and methods -/
namespace BXL
open PySem PySem.Spec PyProof.Rows L2 LamX NdefX BX
/-- what stands at f may be called later, from deeper frames -/
structure Acts (P : Program) (w : World) (K : PySem.W.Frag) (mg : Str → Option Value) (base : Heap) (k : Nat) (outer0 : List Env) (s0 : Shared) (H0 : Hp) (f c' : Addr) (q : Str) (n : Nat) (sp : Sp) : Prop where
  fn : PySem.W.FnAt f s0.heap
  free : H0 f = none
  fr : f ∉ frs outer0
  run : ∀ (A : Around) (outer : List Env) (s : Shared) (H : Hp) (us : List Value) (vs : List V) (Q : VK) (E : XK), Room k A → Env0 P w K mg base A outer s H → Un (frs outer0) [] H0 H s0.heap s.heap → H c' = some (CodeO c' q) → us.length = n → Vals vs us → sp vs H Q E →
    codeAny (model P w) A (.call (.ref f) ⟨us, []⟩) (CR (L2.CX P w) outer P w H s Q E) s
theorem cells_un {cl : List (Str × Addr)} {fr : List Str} {ws : List (Option V)} {fs : List Addr} {H H1 : Hp} {h h1 : Heap} (C : CellsAt cl fr ws h H) (u : Un fs [] H H1 h h1) : CellsAt cl fr ws h1 H1 := by
  have kp : ∀ y c v, cl.lookup y = some c → h.IsCell c v → h1.IsCell c v := fun y c v e ⟨o, ho, hd⟩ => by
    obtain ⟨sl, q⟩ := u.any ho (C.all y c e).1 (by simp)
    exact ⟨_, q, hd⟩
  refine ⟨C.len, fun y c e => ?_, C.inj, fun i y e => ?_⟩
  · obtain ⟨n, v, z⟩ := C.all y c e
    obtain ⟨o, ho, _⟩ := id z
    exact ⟨u.free c o ho n (by simp), v, kp y c v e z⟩
  · obtain ⟨c, hc, hv⟩ := C.has i y e
    refine ⟨c, hc, fun v ev => ?_⟩
    obtain ⟨u', r, z⟩ := hv v ev
    exact ⟨u', r, kp y c _ hc z⟩
abbrev lamF (q : Str) (params : Arguments) (scope : Scope) (cl : List (Str × Addr)) (c' : Addr) : NF := ⟨"<lambda>", q, params, [], scope, cl, c'⟩
section
variable {X : Cx} {pins : List (Addr × Obj)} {σ : L2.St} {H : Hp} {s : Shared}
theorem lam_acts {k : Nat} {f c' : Addr} {pm ctv : Value} {q : Str} {params : Arguments} {body : Expr} {scope : Scope} {cl : List (Str × Addr)} {N ps fr : List Str} {ws : List (Option V)} {tb : XK → TE} (hf : s.heap.get? f = some (PySem.W.kla_obj "<lambda>" q params body scope cl pm c' ctv)) (hfn : H f = none) (hfr : f ∉ frs X.stack)
    (S : NScope N ps fr scope) (C : CellsAt cl fr ws s.heap H) (hbind : ∀ us : List Value, us.length = ps.length → bindArgs (PySem.W.kla_fn "<lambda>" q params body scope cl pm (.ref c') ctv) ⟨us, []⟩ = pure (ps.zip us))
    (hbody : ∀ (A : Around) (outer : List Env) (s : Shared) (H : Hp) (E : XK), Room k (A.deeper (envF (lamF q params scope cl c') f s.heap.objs.size)) → Takes (ncx (L2.CX X.prog X.w) X.prog X.w X.K X.mg X.base N (lamF q params scope cl c') f A outer s H E) (fun cls d _ H => E cls d H) →
      PE (ncx (L2.CX X.prog X.w) X.prog X.w X.K X.mg X.base N (lamF q params scope cl c') f A outer s H E) body (tb E)) :
    Acts X.prog X.w X.K X.mg X.base (k + 1) X.stack s H f c' q ps.length (fun vs H Q E => tb E (startF N vs ws) H Q) := by
  refine ⟨⟨_, _, _, _, hf⟩, hfn, hfr, fun A outer s1 H1 us vs Q E hr e0 un hco hu r h => ?_⟩
  have of1 : s1.heap.get? f = some (PySem.W.kla_obj "<lambda>" q params body scope cl pm c' ctv) := un.keep f _ hf hfn hfr (by simp)
  have lim : s1.heap.NoLimit := e0.mod.nolimit.keeps fun b o e => (e0.bs b o e).1
  have hl : vs.length = ps.length := by rw [r.length]; exact hu
  refine PySem.W.kla_callFunE hr.depth of1 rfl S.co S.gen rfl (codeO_at e0.hok hco) ?_
  rw [hbind us hu]
  refine wpAny_pure (wpAny_newFunctionEnv S.nocell (fun ⟨n, _⟩ hy => S.par n (List.of_mem_zip hy).1) (fun h₁ hns hsb => ⟨lim.fresh _ hsb, ?_⟩) S.kind)
  show codeAny _ _ (.expr body (envF (lamF q params scope cl c') f s1.heap.objs.size)) _ _
  have kp : ∀ b o, s1.heap.get? b = some o → h₁.get? b = some o := fun b o e => hsb.extBut b o (Nat.ne_of_lt (Heap.lt_size e)) (Heap.get?_push_of_some _ e)
  have I : Inv (ncx (L2.CX X.prog X.w) X.prog X.w X.K X.mg X.base N (lamF q params scope cl c') f A outer s1 H1 E) [] (startF N vs ws) H1 { s1 with heap := h₁, toks := s1.toks + (ps.zip us).length } := inv_startN (F := lamF q params scope cl c') S hr.hd e0 hl r (cells_un C un) hns kp
  refine PySem.W.kla_codeExpr (wpAny_mono ((hbody A outer s1 H1 E (hr.deeper _) (takes_of rfl rfl rfl rfl)).run [] _ _ H1 Q I h) (fun v s' hq => ?_) fun e s' hq => hq)
  obtain ⟨w', H', J', rv, q'⟩ := hq
  exact ⟨w', H', J'.os, J'.bare, J'.base, J'.hok, rv, q'⟩
end
/-! ### a(..), a the function that the def got -/
def tActs (i : Nat) (f c' : Addr) (q : Str) (sp : Sp) (E : XK) (t : TA) : TE := fun σ H Q => σ[i]? = some (some (.ref f)) ∧ t σ H fun vs H' => H' c' = some (CodeO c' q) ∧ sp vs H' Q E
section
variable {X : Cx} {i j k n : Nat} {a : Str} {f c' : Addr} {q : Str} {sp : Sp} {E : XK} {p1 p2 : Pos} {e : Expr} {es : List Expr} {t : TA}
theorem run_acts {pins : List (Addr × Obj)} {σ : L2.St} {H : Hp} {s : Shared} {us : List Value} {vs : List V} {Q : VK} (Ac : Acts X.prog X.w X.K X.mg X.base k X.outer X.s_0 X.H_0 f c' q n sp) (hex : X.ex = []) (hr : Room j X.A) (hk : k ≤ j) (hx : Passes (L2.CX X.prog X.w) X E) (I : Inv X pins σ H s)
    (hc : H c' = some (CodeO c' q)) (hu : us.length = n) (r : Vals vs us) (h : sp vs H Q E) : wpAny (model X.prog X.w) X.A (call (.ref f) us) (EP X pins σ Q) X.xe s := by
  have un : Un X.fs [] X.H_0 H X.s_0.heap s.heap := by rw [← hex]; exact I.base
  refine wpAny_call (codeAny_mono (Ac.run X.A X.stack s H us vs Q E (hr.mono hk) I.env0 un hc hu r h) fun r s' hq => ?_)
  cases r with
  | error e => exact hx pins σ H s e s' I hq
  | ok fl =>
    cases fl with
    | ret u => exact I.after hq
    | next => exact False.elim hq
    | brk => exact False.elim hq
    | cont => exact False.elim hq
theorem acts_at {pins : List (Addr × Obj)} {σ : L2.St} {H : Hp} {s : Shared} (Ac : Acts X.prog X.w X.K X.mg X.base k X.outer X.s_0 X.H_0 f c' q n sp) (hex : X.ex = []) (I : Inv X pins σ H s) : PySem.W.FnAt f s.heap := by
  obtain ⟨cl, d, fd, sl, ho⟩ := Ac.fn
  have un : Un X.fs [] X.H_0 H X.s_0.heap s.heap := by rw [← hex]; exact I.base
  exact ⟨cl, d, fd, sl, un.keep f _ ho Ac.free Ac.fr (by simp)⟩
theorem pe_acts (Ac : Acts X.prog X.w X.K X.mg X.base k X.outer X.s_0 X.H_0 f c' q n sp) (hex : X.ex = []) (hr : Room j X.A) (hk : k ≤ j) (hx : Passes (L2.CX X.prog X.w) X E) (hN : X.N[i]? = some a) (hv : Vis X.env.scope a) (ha : PA X (e :: es) t) (hn : ∀ σ H Q, t σ H Q → t σ H fun vs H' => vs.length = n ∧ Q vs H')
    (hd : (a == ("__debug__" : Str)) = false := by decide) (hcd : (a == ("__classdict__" : Str)) = false := by decide)
    (he : starEach (e :: es) X.env = (false, eval e X.env) :: starEach es X.env := by rfl) (hpl : (backTo p2 (starEach es X.env)).any (·.1) = false := by rfl) :
    PE X (.Call (.Name a p1) (e :: es) [] p2) (tActs i f c' q sp E t) := by
  refine ⟨fun pins s σ H Q I h => ?_⟩
  obtain ⟨hs, ht⟩ := h
  refine wpAny_Call_Name_kw (thn ((pe_var (pos := p1) hN hv hd hcd).run pins s σ H (fun v H1 => v = .ref f ∧ H1 = H) I ⟨.ref f, hs, rfl, rfl⟩) fun u s1 ⟨v, H1, I1, r1, q1⟩ => ?_)
  obtain ⟨ev, eH⟩ := q1
  subst ev
  rw [eH] at I1
  obtain rfl : u = Value.ref f := r1
  refine PySem.W.callWith_F (first := []) (acts_at Ac hex I1) (thn (ha.run p2 pins s1 σ H _ I1 (hn _ _ _ ht)) fun us s2 ⟨vs, H2, I2, r, hl, hc, q⟩ => ⟨acts_at Ac hex I2, ?_⟩) he hpl
  show wpAny _ _ (call (.ref f) us) _ _ _
  exact run_acts Ac hex hr hk hx I2 hc (by rw [← r.length]; exact hl) r q
theorem pe_acts0 (Ac : Acts X.prog X.w X.K X.mg X.base k X.outer X.s_0 X.H_0 f c' q 0 sp) (hex : X.ex = []) (hr : Room j X.A) (hk : k ≤ j) (hx : Passes (L2.CX X.prog X.w) X E) (hN : X.N[i]? = some a) (hv : Vis X.env.scope a)
    (hd : (a == ("__debug__" : Str)) = false := by decide) (hcd : (a == ("__classdict__" : Str)) = false := by decide) :
    PE X (.Call (.Name a p1) [] [] p2) (tActs i f c' q sp E tNil) := by
  refine ⟨fun pins s σ H Q I h => ?_⟩
  obtain ⟨hs, hc, ht⟩ := h
  refine wpAny_Call_Name_kw (thn ((pe_var (pos := p1) hN hv hd hcd).run pins s σ H (fun v H1 => v = .ref f ∧ H1 = H) I ⟨.ref f, hs, rfl, rfl⟩) fun u s1 ⟨v, H1, I1, r1, q1⟩ => ?_)
  obtain ⟨ev, eH⟩ := q1
  subst ev
  rw [eH] at I1
  obtain rfl : u = Value.ref f := r1
  refine PySem.W.callWith_F0 (first := []) (acts_at Ac hex I1) ?_
  show wpAny _ _ (call (.ref f) []) _ _ _
  exact run_acts Ac hex hr hk hx I1 hc rfl .nil ht
end
/-! ### a def that gets a function -/
/-- sp lf lc q spl: the function at lf, of the code object at lc named q, acts as spl -/
abbrev SpA := Addr → Addr → Str → Sp → Sp
structure OkA (P : Program) (w : World) (K : PySem.W.Frag) (mg : Str → Option Value) (base : Heap) (k kl n : Nat) (f : Addr) (m : Nat) (sp : SpA) : Prop where
  kp : PySem.W.keepIn K (.ref f) = true
  run : ∀ (A : Around) (outer : List Env) (s : Shared) (H : Hp) (us : List Value) (vs : List V) (Q : VK) (E : XK) (lf lc : Addr) (q : Str) (spl : Sp), Room k A → Env0 P w K mg base A outer s H → us.length = m → Vals vs us → Acts P w K mg base kl outer s H lf lc q n spl → sp lf lc q spl vs H Q E →
    codeAny (model P w) A (.call (.ref f) ⟨us, []⟩) (CR (L2.CX P w) outer P w H s Q E) s
theorem okA_of {P : Program} {w : World} {K : PySem.W.Frag} {mg : Str → Option Value} {base : Heap} {k kl n : Nat} {f : Addr} {x qual : Str} {st : Stmt} {fd : FuncData} {N ps : List Str} {sp : SpA} (F : FnQ K x qual st f fd) (S : FnScope N ps (defScope st))
    (hb : ∀ (kV doc pm : Value) (an : Option Addr) (cdv ct : Value) (us : List Value), us.length = ps.length → bindArgs (PySem.W.fnOf x qual (defArgs st) (defBody st) (defScope st) .none kV doc pm an cdv ct) ⟨us, []⟩ = pure (ps.zip us))
    (hbody : ∀ (A : Around) (outer : List Env) (s : Shared) (H : Hp) (vs : List V) (Q : VK) (E : XK) (lf lc : Addr) (q : Str) (spl : Sp), Room k (A.deeper (envOfC qual (defScope st) s.heap.objs.size f fd.code)) → Takes (cxX P w K mg base N qual (defScope st) f fd.code A outer s H E) (fun cls d _ H => E cls d H) →
      Acts P w K mg base kl outer s H lf lc q n spl → sp lf lc q spl vs H Q E →
      ∃ t, PSs (cxX P w K mg base N qual (defScope st) f fd.code A outer s H E) (defBody st) t ∧ t { nx := fun _ H' => Q .non H', rt := Q } (L2.start N vs) H) : OkA P w K mg base (k + 1) kl n f ps.length sp := by
  refine ⟨F.kp, fun A outer s H us vs Q E lf lc q spl hr e0 hu r Ac hsp => ?_⟩
  have b := F.bindsN hb
  have bs := b s us (e0.mod.kin.keeps fun b o e => (e0.bs b o e).1) (by rw [List.append_nil]; exact hu)
  rw [List.append_nil] at bs
  obtain ⟨oc, od, dV, kV, doc, pm, an, cdv, ct, osl, rfl, lk, hcd, _, _⟩ := F.ex
  exact run_ofS lk hcd S hr e0 bs r (by rw [r.length]; exact hu) fun hr' => hbody A outer s H vs Q E lf lc q spl hr' (takes_of rfl rfl rfl rfl) Ac hsp
/-! ### the lambda as an argument -/
/-- what is asked of the maker -/
structure LamT (X : Cx) (T : List (Addr × Str)) (scope : Scope) (N ps fr : List Str) (js : List Nat) : Prop where
  ex : ∃ c P, TabB X.base X.mg c P ∧ X.env.code = .ref c ∧ (P, X.env.qual ++ "<lambda>") ∈ T ∧ ∀ p ∈ T, p.1 = P → p.2 = X.env.qual ++ "<lambda>"
  nd : ndefB X.env.scope scope fr = true
  sc : NScope N ps fr scope
  js : js.map (fun j => X.N[j]?) = fr.map some
/-- behind the making: spl, what it does -/
def tLamA (T : List (Addr × Str)) (q : Str) (N : List Str) (js : List Nat) (tb : XK → TE) (sp : SpA) (vs0 : List V) (E : XK) : TE := fun σ H Q => Tabs T H ∧ ∀ (lf lc : Addr) (H1 : Hp), ExtN H H1 → Tabs T H1 → H1 lc = some (CodeO lc q) →
  sp lf lc q (fun vs H' Q' E' => tb E' (startF N vs (js.map (slotAt σ))) H' Q') (vs0 ++ [.ref lf]) H1 Q E
section
variable {X : Cx} {T : List (Addr × Str)} {scope : Scope} {N ps fr : List Str} {js : List Nat} {k kl : Nat} {params : Arguments} {body : Expr} {lpos : Pos} {tb : XK → TE}
theorem lam_arg {pins : List (Addr × Obj)} {σ : L2.St} {H : Hp} {s : Shared} {E : Value → Shared → Prop} {Q : Value → Shared → Prop} (I : Inv X pins σ H s) (L : LamT X T scope N ps fr js) (hT : Tabs T H) (hdef : defaultsOf params X.env = ([], []))
    (hbind : ∀ (q : Str) (cl : List (Str × Addr)) (pm cv ctv : Value) (us : List Value), us.length = ps.length → bindArgs (PySem.W.kla_fn "<lambda>" q params body scope cl pm cv ctv) ⟨us, []⟩ = pure (ps.zip us))
    (hbody : ∀ (cl : List (Str × Addr)) (c' f : Addr) (A : Around) (outer : List Env) (s : Shared) (H : Hp) (E : XK), Room kl (A.deeper (envF (lamF (X.env.qual ++ "<lambda>") params scope cl c') f s.heap.objs.size)) → Takes (ncx (L2.CX X.prog X.w) X.prog X.w X.K X.mg X.base N (lamF (X.env.qual ++ "<lambda>") params scope cl c') f A outer s H E) (fun cls d _ H => E cls d H) →
      PE (ncx (L2.CX X.prog X.w) X.prog X.w X.K X.mg X.base N (lamF (X.env.qual ++ "<lambda>") params scope cl c') f A outer s H E) body (tb E))
    (h : ∀ (lf lc : Addr) (H1 : Hp) (s' : Shared), Inv X pins σ H1 s' → ExtN H H1 → Tabs T H1 → H1 lc = some (CodeO lc (X.env.qual ++ "<lambda>")) →
      Acts X.prog X.w X.K X.mg X.base (kl + 1) X.stack s' H1 lf lc (X.env.qual ++ "<lambda>") ps.length (fun vs H Q E => tb E (startF N vs (js.map (slotAt σ))) H Q) → Q (.ref lf) s') :
    wpAny (model X.prog X.w) X.A (eval (.Lambda params body scope lpos) X.env) Q E s := by
  obtain ⟨c, P, TB, hcode, hm, hu⟩ := L.ex
  have hfr0 := ndef_free L.nd
  have hfree : ∀ y ∈ scope.names, y.2 = .free → ∃ c, X.env.cells.lookup y.1 = some c := fun y hy e => (hfr0 y hy e).elim (fun z => I.ok.has _ (.inl z)) fun z => I.ok.has _ (.inr z)
  refine lam_make2 I TB hcode hm hu hT hdef hfree fun f c' pm ctv H1 s' I1 eN T1 hf hfn hfr hco => ?_
  have cp : Caps X (cloFrom X.env.cells scope.names []) fr js := Caps.made I1.ok hfr0 (ndef_fr L.nd) L.js
  exact h f c' H1 s' I1 eN T1 hco (lam_acts hf hfn hfr L.sc (cells_of I1 cp) (fun us hus => hbind _ _ _ _ _ us hus) fun A outer s H E hr tk => hbody _ _ _ A outer s H E hr tk)
/-- g(lambda ..: body) -/
theorem pe_lamg {x : Str} {g : Addr} {j : Nat} {sp : SpA} {E : XK} {p pos : Pos} (G : OkA X.prog X.w X.K X.mg X.base k (kl + 1) ps.length g 1 sp) (hm : X.mg x = some (.ref g)) (hg : Gl X x) (hr : Room j X.A) (hk : k ≤ j) (hx : Passes (L2.CX X.prog X.w) X E) (L : LamT X T scope N ps fr js) (hdef : defaultsOf params X.env = ([], []))
    (hbind : ∀ (q : Str) (cl : List (Str × Addr)) (pm cv ctv : Value) (us : List Value), us.length = ps.length → bindArgs (PySem.W.kla_fn "<lambda>" q params body scope cl pm cv ctv) ⟨us, []⟩ = pure (ps.zip us))
    (hbody : ∀ (cl : List (Str × Addr)) (c' f : Addr) (A : Around) (outer : List Env) (s : Shared) (H : Hp) (E : XK), Room kl (A.deeper (envF (lamF (X.env.qual ++ "<lambda>") params scope cl c') f s.heap.objs.size)) → Takes (ncx (L2.CX X.prog X.w) X.prog X.w X.K X.mg X.base N (lamF (X.env.qual ++ "<lambda>") params scope cl c') f A outer s H E) (fun cls d _ H => E cls d H) →
      PE (ncx (L2.CX X.prog X.w) X.prog X.w X.K X.mg X.base N (lamF (X.env.qual ++ "<lambda>") params scope cl c') f A outer s H E) body (tb E))
    (hdb : (x == ("__debug__" : Str)) = false := by decide) : PE X (.Call (.Name x p) [.Lambda params body scope lpos] [] pos) (tLamA T (X.env.qual ++ "<lambda>") N js tb sp [] E) := by
  refine ⟨fun pins s σ H Q I h => ?_⟩
  obtain ⟨hT, h⟩ := h
  refine wpAny_Call_Name_kw (ld_glob I hg hm ?_ hdb)
  refine PySem.W.callWith_K (h₀ := X.base) I.ok.mod.kin G.kp ?_ (by rfl) (by rfl)
  show wpAny _ _ (spliced ((false, eval (.Lambda params body scope lpos) X.env) :: backTo pos (starEach [] X.env))) _ _ s
  refine Calls.spliced_cons (lam_arg I L hT hdef hbind hbody fun lf lc H1 s' I1 eN T1 hco Ac => ?_)
  refine Calls.spliced_nil ⟨I1.kIn, ?_⟩
  show wpAny _ _ (call (.ref g) [.ref lf]) _ _ _
  refine wpAny_call (codeAny_mono (G.run X.A X.stack s' H1 [.ref lf] [.ref lf] Q E lf lc _ _ (hr.mono hk) I1.env0 rfl (.cons rfl .nil) Ac (h lf lc H1 eN T1 hco)) fun r s2 hq => ?_)
  cases r with
  | error e => exact hx pins σ H1 s' e s2 I1 hq
  | ok fl =>
    cases fl with
    | ret u => exact I1.after hq
    | next => exact False.elim hq
    | brk => exact False.elim hq
    | cont => exact False.elim hq
/-- o.m(lambda ..: body) -/
def tLamM (T : List (Addr × Str)) (q : Str) (N : List Str) (js : List Nat) (tb : XK → TE) (C : Addr) (m : Str) (sp : SpA) (ta : TE) (E : XK) : TE := fun σ H Q => ta σ H fun x H1 => ∃ a dx fs, x = .ref a ∧ H1 a = some (.ins C dx fs) ∧ fs.lookup m = none ∧ tLamA T q N js tb sp [.ref a] E σ H1 Q
theorem pe_lamm {m : Str} {g C : Addr} {j : Nat} {sp : SpA} {E : XK} {apos pos : Pos} {o : Expr} {ta : TE} {pl : Sem Bool} (G : OkA X.prog X.w X.K X.mg X.base k (kl + 1) ps.length g 2 sp) (he : PE X o ta) (c : Cls X.K C) (me : Meth X.K C m g) (hr : Room j X.A) (hk : k ≤ j) (hx : Passes (L2.CX X.prog X.w) X E) (L : LamT X T scope N ps fr js) (hdef : defaultsOf params X.env = ([], []))
    (hbind : ∀ (q : Str) (cl : List (Str × Addr)) (pm cv ctv : Value) (us : List Value), us.length = ps.length → bindArgs (PySem.W.kla_fn "<lambda>" q params body scope cl pm cv ctv) ⟨us, []⟩ = pure (ps.zip us))
    (hbody : ∀ (cl : List (Str × Addr)) (c' f : Addr) (A : Around) (outer : List Env) (s : Shared) (H : Hp) (E : XK), Room kl (A.deeper (envF (lamF (X.env.qual ++ "<lambda>") params scope cl c') f s.heap.objs.size)) → Takes (ncx (L2.CX X.prog X.w) X.prog X.w X.K X.mg X.base N (lamF (X.env.qual ++ "<lambda>") params scope cl c') f A outer s H E) (fun cls d _ H => E cls d H) →
      PE (ncx (L2.CX X.prog X.w) X.prog X.w X.K X.mg X.base N (lamF (X.env.qual ++ "<lambda>") params scope cl c') f A outer s H E) body (tb E))
    (ht : eval (.Call (.Attribute o m apos) [.Lambda params body scope lpos] [] pos) X.env = (do
      let ov ← eval o X.env
      standAt apos.atName
      let (f, first) ← holding [ov] (getMethod ov m pl)
      callWith pos f first (backTo pos (starEach [.Lambda params body scope lpos] X.env)) (backToKw pos (keywordEach [] X.env))) := by rfl) :
    PE X (.Call (.Attribute o m apos) [.Lambda params body scope lpos] [] pos) (tLamM T (X.env.qual ++ "<lambda>") N js tb C m sp ta E) := by
  refine ⟨fun pins s σ H Q I h => ?_⟩
  refine PySem.W.methodCall_KW (pl := pl) (thn (he.run pins s σ H _ I h) fun u s1 ⟨x, H0, I0, rx, a, dx, fs, ex, ea, l, hT, h0⟩ => ?_) ht
  subst ex
  obtain rfl : u = Value.ref a := rx
  refine getmeth_ok I0 ea c me l ?_
  refine PySem.W.callWith_K (first := [.ref a]) (h₀ := X.base) I.ok.mod.kin me.kp ?_ (by rfl) (by rfl)
  show wpAny _ _ (spliced ((false, eval (.Lambda params body scope lpos) X.env) :: backTo pos (starEach [] X.env))) _ _ s1
  refine Calls.spliced_cons (lam_arg I0 L hT hdef hbind hbody fun lf lc H1 s' I1 eN T1 hco Ac => ?_)
  refine Calls.spliced_nil ⟨I1.kIn, ?_⟩
  show wpAny _ _ (call (.ref g) [.ref a, .ref lf]) _ _ _
  refine wpAny_call (codeAny_mono (G.run X.A X.stack s' H1 [.ref a, .ref lf] [.ref a, .ref lf] Q E lf lc _ _ (hr.mono hk) I1.env0 rfl (.cons rfl (.cons rfl .nil)) Ac (h0 lf lc H1 eN T1 hco)) fun r s2 hq => ?_)
  cases r with
  | error e => exact hx pins σ H1 s' e s2 I1 hq
  | ok fl =>
    cases fl with
    | ret u => exact I1.after hq
    | next => exact False.elim hq
    | brk => exact False.elim hq
    | cont => exact False.elim hq
end
end BXL
end
section
set_option Elab.async false
set_option linter.all false
set_option maxRecDepth 100000
set_option maxHeartbeats 4000000
namespace BX
open PySem PySem.Spec PyProof.Rows L2 ClX BXW BXL LamX
abbrev sTrial : Stmt := topS 47
/-! ### Trial -/
def trF (p : Addr) (v u : V) : List (Str × V) := [("room", .ref p), ("kept_before", v), ("calls_before", u)]
structure TrC (K : PySem.W.Frag) (C : Addr) : Prop where
  i : ClsI K C
  nr : NoAttr K C "room"
  nk : NoAttr K C "kept_before"
  nc : NoAttr K C "calls_before"
def spTInit (CT : Addr) : Sp := fun vs H Q _ => ∃ t dx p : Addr, vs = [.ref t, .ref p] ∧ H t = some (.ins CT dx []) ∧ ∀ v u H', Kp t H H' → H' t = some (.ins CT dx (trF p v u)) → Q .non H'
def spTEnter (K : PySem.W.Frag) (CT : Addr) : Sp := fun vs H Q _ => ∃ (t dt p dx d l C : Addr) (fx : List (Str × V)) (v u : V), vs = [.ref t] ∧ H t = some (.ins CT dt (trF p v u)) ∧ RmC K C ∧ H p = some (.ins C dx (roomF d l fx)) ∧ ∀ H', Kp t H H' → H' t = some (.ins CT dt (trF p (.ref d) (.ref l))) → Q (.ref p) H'
def spTExit (K : PySem.W.Frag) (CT : Addr) : Sp := fun vs H Q _ => ∃ (t dt p dx d l d' l' C : Addr) (fx : List (Str × V)) (v1 v2 v3 : V), vs = [.ref t, v1, v2, v3] ∧ H t = some (.ins CT dt (trF p (.ref d) (.ref l))) ∧ RmC K C ∧ FxOk fx ∧ H p = some (.ins C dx (roomF d' l' fx)) ∧ p ≠ t ∧
  ∀ H', Kp p H H' → H' p = some (.ins C dx (roomF d l fx)) → Q .non H'
theorem scTInit : FnScope ["self", "room"] ["self", "room"] (defScope (mth sTrial 0)) := C8.fnScope_by (by decide +kernel)
theorem scTEnter : FnScope ["self"] ["self"] (defScope (mth sTrial 1)) := C8.fnScope_by (by decide +kernel)
theorem scTExit : FnScope ["self", "kind", "value", "trace"] ["self", "kind", "value", "trace"] (defScope (mth sTrial 2)) := C8.fnScope_by (by decide +kernel)
/-- trial(): a new one -/
def spTrial (CT : Addr) : Sp := fun vs H Q _ => ∃ p : Addr, vs = [.ref p] ∧ ∀ t dt v u H', Same H H' → H t = none → H' t = some (.ins CT dt (trF p v u)) → Q (.ref t) H'
theorem scTrial : FnScope ["self"] ["self"] (defScope (mth sRoom 15)) := C8.fnScope_by (by decide +kernel)
section
variable {P : Program} {w : World} {K : PySem.W.Frag} {mg : Str → Option Value} {base : Heap} {f CT : Addr} {fd : FuncData}
theorem ok_tInit (F : FnQ K "__init__" "Trial.__init__" (mth sTrial 0) f fd) (T : TrC K CT) : At P w K mg base 1 f (spTInit CT) := by
  refine atP F scTInit (fun _ _ _ _ _ _ us hl => match us, hl with | [_, _], _ => rfl) (fun vs H Q E h => ?_) (fun cdv A outer s H vs Q E hr h => ?_)
  · obtain ⟨t, dx, p, rfl, _⟩ := h
    rfl
  · obtain ⟨t, dx, p, rfl, ht, k⟩ := h
    refine ⟨_, pss_cons (ps_fld (pv 0) (pv 1) rfl) (pss_cons (ps_fld (pv 0) pe_dnewK rfl) (pss_one (ps_fld (pv 0) (pe_lst pa_nil) rfl))), ?_⟩
    refine ⟨_, rfl, _, rfl, t, CT, dx, [], rfl, ht, T.i.cl, T.nr, by decide, ?_⟩
    intro d hd
    have htd : t ≠ d := fun e => by subst e; rw [upd_same] at hd; cases hd
    refine ⟨_, rfl, t, CT, dx, _, rfl, by rw [upd_ne htd, upd_same], T.i.cl, T.nk, by show 1 < 1000; decide, ?_⟩
    refine ⟨Nat.zero_le _, fun l hl => ?_⟩
    have htl : t ≠ l := fun e => by subst e; rw [upd_same] at hl; cases hl
    refine ⟨_, rfl, t, CT, dx, _, rfl, by rw [upd_ne htl, upd_same], T.i.cl, T.nc, by show 2 < 1000; decide, ?_⟩
    refine k (.ref d) (.ref l) _ ?_ upd_same
    intro b o hb e
    have e0 : upd H t (.ins CT dx (putF "room" (.ref p) [])) b = some o := by rw [upd_ne hb]; exact e
    rw [upd_ne hb]
    have e1 : upd (upd H t (.ins CT dx (putF "room" (.ref p) []))) d (.dK []) b = some o := by rw [upd_ne (ne_of_none e0 hd)]; exact e0
    have e2 : upd (upd (upd H t (.ins CT dx (putF "room" (.ref p) []))) d (.dK [])) t (.ins CT dx (putF "kept_before" (.ref d) (putF "room" (.ref p) []))) b = some o := by rw [upd_ne hb]; exact e1
    rw [upd_ne (ne_of_none e2 hl)]
    exact e2
theorem ok_tEnter (F : FnQ K "__enter__" "Trial.__enter__" (mth sTrial 1) f fd) (T : TrC K CT) : At P w K mg base 1 f (spTEnter K CT) := by
  refine atP F scTEnter (fun _ _ _ _ _ _ us hl => match us, hl with | [_], _ => rfl) (fun vs H Q E h => ?_) (fun cdv A outer s H vs Q E hr h => ?_)
  · obtain ⟨t, dt, p, dx, d, l, C, fx, v, u, rfl, _⟩ := h
    rfl
  · obtain ⟨t, dt, p, dx, d, l, C, fx, v, u, rfl, ht, R, hp, k⟩ := h
    refine ⟨_, pss_cons (ps_fld (pv 0) (pe_fld (pe_fld (pv 0) rfl) rfl) rfl) (pss_cons (ps_fld (pv 0) (pe_fld (pe_fld (pv 0) rfl) rfl) rfl) (pss_one (ps_ret (pe_fld (pv 0) rfl)))), ?_⟩
    have hpt : p ≠ t := fun e => by
      subst e
      rw [ht] at hp
      have := Option.some.inj hp
      injection this with _ _ q
      unfold trF roomF at q
      injection q with q _
      injection q with q _
      exact absurd q (by decide)
    refine ⟨_, rfl, t, CT, dt, _, _, rfl, ht, T.i.cl, T.nr, rfl, p, C, dx, _, _, rfl, hp, R.i.cl, R.nk, rfl, ?_⟩
    refine ⟨_, rfl, t, CT, dt, _, rfl, ht, T.i.cl, T.nk, by show 3 < 1000; decide, ?_⟩
    refine ⟨_, rfl, t, CT, dt, _, _, rfl, upd_same, T.i.cl, T.nr, rfl, p, C, dx, _, _, rfl, by rw [upd_ne hpt]; exact hp, R.i.cl, R.nc, rfl, ?_⟩
    refine ⟨_, rfl, t, CT, dt, _, rfl, upd_same, T.i.cl, T.nc, by show 3 < 1000; decide, ?_⟩
    refine ⟨_, rfl, t, CT, dt, _, _, rfl, upd_same, T.i.cl, T.nr, rfl, ?_⟩
    rw [upd_upd]
    exact k _ ((Kp.refl t H).upd) upd_same
/-- what the body of __exit__ does -/
theorem exit_does {t dt p dx d l d' l' C : Addr} {fx : List (Str × V)} {v1 v2 v3 : V} {H : Hp} {Q : VK} (T : TrC K CT) (R : RmC K C) (fo : FxOk fx) (ht : H t = some (.ins CT dt (trF p (.ref d) (.ref l)))) (hp : H p = some (.ins C dx (roomF d' l' fx))) (hpt : p ≠ t) (k : ∀ H', Kp p H H' → H' p = some (.ins C dx (roomF d l fx)) → Q .non H') :
    tSeq (sFld K (tFld K (tVar 0) "room") (tFld K (tVar 0) "kept_before") "kept") (sFld K (tFld K (tVar 0) "room") (tFld K (tVar 0) "calls_before") "calls") { nx := fun _ H' => Q .non H', rt := Q } [some (.ref t), some v1, some v2, some v3] H := by
  refine ⟨_, rfl, t, CT, dt, _, _, rfl, ht, T.i.cl, T.nk, rfl, _, rfl, t, CT, dt, _, _, rfl, ht, T.i.cl, T.nr, rfl, p, C, dx, _, rfl, hp, R.i.cl, R.nk, fo.len, ?_⟩
  have ht2 : upd H p (.ins C dx (putF "kept" (.ref d) (roomF d' l' fx))) t = some (.ins CT dt (trF p (.ref d) (.ref l))) := by rw [upd_ne hpt.symm]; exact ht
  refine ⟨_, rfl, t, CT, dt, _, _, rfl, ht2, T.i.cl, T.nc, rfl, _, rfl, t, CT, dt, _, _, rfl, ht2, T.i.cl, T.nr, rfl, p, C, dx, _, rfl, upd_same, R.i.cl, R.nc, (by exact fo.len (d := d) (l := l')), ?_⟩
  rw [upd_upd]
  exact k _ ((Kp.refl p H).upd) upd_same
theorem ok_tExit (F : FnQ K "__exit__" "Trial.__exit__" (mth sTrial 2) f fd) (T : TrC K CT) : At P w K mg base 1 f (spTExit K CT) := by
  refine atP F scTExit (fun _ _ _ _ _ _ us hl => match us, hl with | [_, _, _, _], _ => rfl) (fun vs H Q E h => ?_) (fun cdv A outer s H vs Q E hr h => ?_)
  · obtain ⟨t, dt, p, dx, d, l, d', l', C, fx, v1, v2, v3, rfl, _⟩ := h
    rfl
  · obtain ⟨t, dt, p, dx, d, l, d', l', C, fx, v1, v2, v3, rfl, ht, R, fo, hp, hpt, k⟩ := h
    exact ⟨_, pss_cons (ps_fld (pe_fld (pv 0) rfl) (pe_fld (pv 0) rfl) rfl) (pss_one (ps_fld (pe_fld (pv 0) rfl) (pe_fld (pv 0) rfl) rfl)), exit_does T R fo ht hp hpt k⟩
theorem okH_tExit (F : FnQ K "__exit__" "Trial.__exit__" (mth sTrial 2) f fd) (T : TrC K CT) : AtH P w K mg base 1 f 4 (spTExit K CT) := by
  refine atH (N := ["self", "kind", "value", "trace"]) (ps := ["self", "kind", "value", "trace"]) F scTExit (fun _ _ _ _ _ _ us hl => match us, hl with | [_, _, _, _], _ => rfl) (fun cdv A outer s H vs Q E p0 hr h => ?_)
  obtain ⟨t, dt, p, dx, d, l, d', l', C, fx, v1, v2, v3, rfl, ht, R, fo, hp, hpt, k⟩ := h
  exact ⟨_, pss_cons (ps_fld (pe_fld (pv 0) rfl) (pe_fld (pv 0) rfl) rfl) (pss_one (ps_fld (pe_fld (pv 0) rfl) (pe_fld (pv 0) rfl) rfl)), exit_does T R fo ht hp hpt k⟩
theorem ok_trial (F : FnQ K "trial" "Room.trial" (mth sRoom 15) f fd) (CM : C8.Mak P w K mg base 1 "Trial" CT (spTInit CT) []) : At P w K mg base 3 f (spTrial CT) := by
  refine atP F scTrial (fun _ _ _ _ _ _ us hl => match us, hl with | [_], _ => rfl) (fun vs H Q E h => ?_) (fun cdv A outer s H vs Q E hr h => ?_)
  · obtain ⟨p, rfl, _⟩ := h
    rfl
  · obtain ⟨p, rfl, k⟩ := h
    refine ⟨_, pss_one (ps_ret (C8.pe_mk CM hr (by omega) (by rfl) (pa_cons (pv 0) pa_nil))), ?_⟩
    refine ⟨_, rfl, fun x dx hx hdx hne => ⟨x, dx, p, rfl, upd_same, fun v u H' kp e => ⟨rfl, k x dx v u H' (fun b o hb => ?_) hx e⟩⟩⟩
    have h1 : b ≠ x := ne_of_none hb hx
    refine kp b o h1 ?_
    rw [upd_ne h1, upd_ne (ne_of_none hb hdx)]
    exact hb
end
end BX
end
section
set_option Elab.async false
set_option linter.all false
set_option maxRecDepth 100000
set_option maxHeartbeats 4000000
namespace BX
open PySem PySem.Spec PyProof.Rows L2 ClX BXW BXL LamX
/-! ### tried -/
/-- what the tried function must leave: the trial t, the room -/
def Left (C p dx t : Addr) (fx : List (Str × V)) (H1 H2 : Hp) : Prop := H2 t = H1 t ∧ ∃ d' l', H2 p = some (.ins C dx (roomF d' l' fx))
def spTried (K : PySem.W.Frag) (C CT : Addr) : SpA := fun lf lc q spl vs H Q E => ∃ (p dx d l : Addr) (fx : List (Str × V)), vs = [.ref p, .ref lf] ∧ FxOk fx ∧ H p = some (.ins C dx (roomF d l fx)) ∧ H lc = some (CodeO lc q) ∧
  ∀ t dt H1, Same H H1 → H t = none → H1 t = some (.ins CT dt (trF p (.ref d) (.ref l))) → ∃ Ech : XK, (∀ cls dd σ' H2, Ech cls dd H2 → wWith (spTExit K CT) t (fun cls dd _ H => E cls dd H) cls dd σ' H2) ∧
    spl [.ref p] H1 (fun v H2 => spTExit K CT [.ref t, .non, .non, .non] H2 (fun _ H' => Q v H') C8.E0) Ech
theorem scTried : FnScope ["self", "action"] ["self", "action"] (defScope (mth sRoom 16)) := C8.fnScope_by (by decide +kernel)
theorem pss_exW {X : Cx} {W : WX} {st : List Stmt} {tb : XK → TS} (h : ∀ Ech : XK, (∀ cls d σ' H', Ech cls d H' → W cls d σ' H') → PSs X st (tb Ech)) : PSs X st (fun D σ H => ∃ Ech : XK, (∀ cls d σ' H', Ech cls d H' → W cls d σ' H') ∧ tb Ech D σ H) :=
  ⟨fun pins s σ H D I ⟨Ech, hW, h1⟩ => (h Ech hW).run pins s σ H D I h1⟩
section
variable {P : Program} {w : World} {K : PySem.W.Frag} {mg : Str → Option Value} {base : Heap} {f C CT fE fX fT : Addr} {fd : FuncData} {k kl : Nat}
/-- how the exits are met -/
theorem exit_nx {p dx d l t dt : Addr} {fx : List (Str × V)} {H1 H2 : Hp} {Q : VK} {v1 v2 v3 : V} (R : RmC K C) (fo : FxOk fx) (h1 : H1 t = some (.ins CT dt (trF p (.ref d) (.ref l)))) (hpt : p ≠ t) (lf : Left C p dx t fx H1 H2) (k : ∀ H3, Kp p H2 H3 → H3 p = some (.ins C dx (roomF d l fx)) → Q .non H3) :
    spTExit K CT [.ref t, v1, v2, v3] H2 Q C8.E0 := by
  obtain ⟨lt, d', l', lp⟩ := lf
  exact ⟨t, dt, p, dx, d, l, d', l', C, fx, v1, v2, v3, rfl, lt.trans h1, R, fo, lp, hpt, k⟩
theorem ok_tried (F : FnQ K "tried" "Room.tried" (mth sRoom 16) f fd) (R : RmC K C) (hT : At P w K mg base 3 fT (spTrial CT)) (mT : Meth K C "trial" fT) (hE : At P w K mg base 1 fE (spTEnter K CT)) (mE : Meth K CT "__enter__" fE) (hX : At P w K mg base 1 fX (spTExit K CT)) (hXh : AtH P w K mg base 1 fX 4 (spTExit K CT)) (mX : Meth K CT "__exit__" fX)
    (hk : 4 ≤ k) (hkl : kl ≤ k) : OkA P w K mg base (k + 1) kl 1 f 2 (spTried K C CT) := by
  refine okA_of (N := ["self", "action"]) (ps := ["self", "action"]) F scTried (fun _ _ _ _ _ _ us hl => match us, hl with | [_, _], _ => rfl) (fun A outer s H vs Q E lf lc q spl hr tk Ac h => ?_)
  obtain ⟨p, dx, d, l, fx, rfl, fo, hp, hlc, k0⟩ := h
  refine ⟨_, pss_one (ps_with (j := k) (Wout := fun cls d _ H => E cls d H) rfl rfl rfl tk hE mE hX hXh mX hr (by omega) (by omega) (C8.pe_mt0 (at_met hT R.i.cl mT) hr (by omega) (pv 0))
    (tb := fun W D σ H => ∃ Ech : XK, (∀ cls d σ' H', Ech cls d H' → W cls d σ' H') ∧ tRet (tActs 1 lf lc q spl Ech (tCons (tVar 0) tNil)) D σ H)
    (fun W pn xe tk' => pss_exW fun Ech hW => pss_one (ps_ret (pe_acts (i := 1) Ac rfl hr hkl (passes_call tk' hW) rfl (Or.inl rfl) (pa_cons (pv 0) pa_nil) (fun σ H Q ⟨v, h1, h2⟩ => ⟨v, h1, rfl, h2⟩))))), ?_⟩
  refine ⟨_, rfl, p, dx, _, rfl, hp, fo.look (by decide) (by decide) (by decide), p, rfl, fun t dt v u H1 s1 ht h1 => ?_⟩
  have hpt : p ≠ t := fun e => by rw [e, ht] at hp; cases hp
  refine ⟨t, dt, _, rfl, h1, t, dt, p, dx, d, l, C, fx, v, u, rfl, h1, R, s1 _ _ hp, fun H2 kp2 e2 => ?_⟩
  have s2 : Same H H2 := fun b o e => kp2 b o (fun z => by rw [z, ht] at e; cases e) (s1 b o e)
  obtain ⟨Ech, hW, h2⟩ := k0 t dt H2 s2 ht e2
  exact ⟨Ech, hW, rfl, _, rfl, s2 _ _ hlc, h2⟩
end
end BX
end
section
set_option Elab.async false
set_option linter.all false
set_option maxRecDepth 100000
set_option maxHeartbeats 4000000
namespace BX
open PySem PySem.Spec PyProof.Rows L2 ClX BXG
/-! ### texts in order -/
def leS (a b : Str) : Prop := a.cps.toList ≤ b.cps.toList
instance (a b : Str) : Decidable (leS a b) := inferInstanceAs (Decidable (a.cps.toList ≤ b.cps.toList))
theorem str_ext {a b : Str} (h : a.cps.toList = b.cps.toList) : a = b := by
  obtain ⟨x⟩ := a
  obtain ⟨y⟩ := b
  have : x = y := Array.toList_inj.mp h
  rw [this]
theorem leS_anti {a b : Str} (h : leS a b) (h2 : leS b a) : a = b := str_ext (List.le_antisymm h h2)
theorem leS_trans {a b c : Str} (h : leS a b) (h2 : leS b c) : leS a c := List.le_trans h h2
theorem leS_total (a b : Str) : leS a b ∨ leS b a := List.le_total _ _
theorem rising_le {p : Str} : ∀ {l : List Str}, risingS p l = true → (p :: l).Pairwise leS
  | [], _ => by simp
  | x :: l, h => by
    unfold risingS at h
    simp only [Bool.and_eq_true, Bool.not_eq_true'] at h
    obtain ⟨h1, h2⟩ := h
    have px : leS p x := by
      rw [ltCps_eq] at h1
      exact List.not_lt.mp (of_decide_eq_false h1)
    have ih := rising_le h2
    refine List.pairwise_cons.mpr ⟨fun y hy => ?_, ih⟩
    rcases List.mem_cons.mp hy with rfl | hy
    · exact px
    · exact leS_trans px ((List.pairwise_cons.mp ih).1 y hy)
theorem sortedS_pw {l : List Str} (h : sortedS l = true) : l.Pairwise leS := by
  cases l with
  | nil => exact .nil
  | cons p l => exact rising_le h
theorem sorted_uniq : ∀ {l1 l2 : List Str}, l1.Pairwise leS → l2.Pairwise leS → l1.Perm l2 → l1 = l2
  | [], l2, _, _, p => (List.nil_perm.mp p).symm
  | a :: l1, [], _, _, p => absurd p.length_eq (by simp)
  | a :: l1, b :: l2, h1, h2, p => by
    obtain ⟨a1, p1⟩ := List.pairwise_cons.mp h1
    obtain ⟨b1, p2⟩ := List.pairwise_cons.mp h2
    have e : a = b := by
      have ha : a ∈ b :: l2 := p.mem_iff.mp List.mem_cons_self
      have hb : b ∈ a :: l1 := p.mem_iff.mpr List.mem_cons_self
      rcases List.mem_cons.mp ha with z | z
      · exact z
      · rcases List.mem_cons.mp hb with z2 | z2
        · exact z2.symm
        · exact leS_anti (a1 b z2) (b1 a z)
    subst e
    rw [sorted_uniq p1 p2 p.cons_inv]
def insS (x : Str) : List Str → List Str
  | [] => [x]
  | y :: l => if leS x y then x :: y :: l else y :: insS x l
def srtS : List Str → List Str
  | [] => []
  | x :: l => insS x (srtS l)
theorem insS_perm (x : Str) : ∀ l, (insS x l).Perm (x :: l)
  | [] => .refl _
  | y :: l => by
    unfold insS
    split
    · exact .refl _
    · exact ((insS_perm x l).cons y).trans (.swap x y l)
theorem srtS_perm : ∀ l, (srtS l).Perm l
  | [] => .refl _
  | x :: l => (insS_perm x _).trans ((srtS_perm l).cons x)
theorem insS_pw {x : Str} : ∀ {l : List Str}, l.Pairwise leS → (insS x l).Pairwise leS
  | [], _ => by unfold insS; simp
  | y :: l, h => by
    obtain ⟨h1, h2⟩ := List.pairwise_cons.mp h
    unfold insS
    split
    · rename_i hx
      refine List.pairwise_cons.mpr ⟨fun z hz => ?_, h⟩
      rcases List.mem_cons.mp hz with rfl | hz
      · exact hx
      · exact leS_trans hx (h1 z hz)
    · rename_i hx
      refine List.pairwise_cons.mpr ⟨fun z hz => ?_, insS_pw h2⟩
      rcases List.mem_cons.mp ((insS_perm x l).mem_iff.mp hz) with rfl | hz
      · exact (leS_total _ _).resolve_left hx
      · exact h1 z hz
theorem srtS_pw : ∀ l, (srtS l).Pairwise leS
  | [] => .nil
  | x :: l => insS_pw (srtS_pw l)
/-- the names of a room, in order -/
def namesM (kept : List (Str × Rgn)) : List Str := srtS (kept.map (·.1))
theorem names_uniq {kept : List (Str × Rgn)} {ys : List Str} (p : ys.Perm (kept.map (·.1))) (h : sortedS ys = true) : ys = namesM kept :=
  sorted_uniq (sortedS_pw h) (srtS_pw _) (p.trans (srtS_perm _).symm)
theorem namesM_perm (kept : List (Str × Rgn)) : (namesM kept).Perm (kept.map (·.1)) := srtS_perm _
theorem namesM_len (kept : List (Str × Rgn)) : (namesM kept).length = kept.length := by rw [(namesM_perm kept).length_eq, List.length_map]
/-! ### names -/
def nmV (kept : List (Str × Rgn)) : List V := (namesM kept).map V.str
def spNmG (K : PySem.W.Frag) (CR C : Addr) : SpG := fun vs H cont _ => ∃ (p dx d l : Addr) (fx : List (Str × V)) (st : Rm), vs = [.ref p] ∧ RoomAt K CR C fx H p dx d l st ∧ st.kept.length < 64 ∧ ∀ H', Same H H' → cont (nmV st.kept) H'
def spNm1 (K : PySem.W.Frag) (CR C : Addr) : List V → Hp → List V → Prop := fun vs H xs => ∃ (p dx d l : Addr) (fx : List (Str × V)) (st : Rm), vs = [.ref p] ∧ RoomAt K CR C fx H p dx d l st ∧ st.kept.length < 64 ∧ xs = nmV st.kept
theorem kept_keys {K : PySem.W.Frag} {CR : Addr} {H : Hp} : ∀ {kvs : List (Key × V)} {kept : List (Str × Rgn)}, KeptAt K CR H kvs kept → kvs.map (fun kv => kV kv.1) = (kept.map (·.1)).map V.str
  | _, _, .nil => rfl
  | _, _, .cons (a := kv) (b := e) q rest => by
    rw [List.map_cons, List.map_cons, List.map_cons, kept_keys rest]
    have : kv.1 = .inr e.1 := q.1
    rw [this]
    rfl
def gscB (N ps : List Str) (sc : Scope) : Bool :=
  decide (sc.kind = .function) && !sc.isCoroutine && sc.isGenerator && decide N.Nodup && decide (N.take ps.length = ps) && ps.all (fun x => decide (sc.names.lookup x = some .local)) && sc.names.all (fun y => !decide (y.2 = .free)) && sc.names.all (fun y => !decide (y.2 = .cell))
theorem gscope_by {N ps : List Str} {sc : Scope} (h : gscB N ps sc = true) : GScope N ps sc ∧ ∀ y ∈ sc.names, y.2 ≠ .cell := by
  unfold gscB at h
  simp only [Bool.and_eq_true, Bool.not_eq_true', decide_eq_true_eq, List.all_eq_true, decide_eq_false_iff_not] at h
  obtain ⟨⟨⟨⟨⟨⟨⟨h1, h2⟩, h3⟩, h4⟩, h5⟩, h6⟩, h7⟩, h8⟩ := h
  exact ⟨⟨h1, h2, h3, h4, h5, fun x hx => .inl (h6 x hx), h7⟩, h8⟩
theorem scNames : GScope ["self"] ["self"] (defScope (mth sRoom 12)) ∧ ∀ y ∈ (defScope (mth sRoom 12)).names, y.2 ≠ .cell := gscope_by (by decide +kernel)
section
variable {P : Program} {w : World} {K : PySem.W.Frag} {mg : Str → Option Value} {base : Heap} {f CR C : Addr} {fd : FuncData}
/-- what sorted(list(self.kept)) gives -/
theorem names_does {p dx d l : Addr} {fx : List (Str × V)} {st : Rm} {H : Hp} {Q : VK} (R : RmC K C) (hR : RoomAt K CR C fx H p dx d l st) (hl : st.kept.length < 64) (k : ∀ q1 q2, H q1 = none → upd H q1 (.lst ((st.kept.map (·.1)).map V.str)) q2 = none → Q (.ref q2) (upd (upd H q1 (.lst ((st.kept.map (·.1)).map V.str))) q2 (.lst (nmV st.kept)))) :
    tCB (rSortedS K) (tCons (tCB (fun xs H Q => ∃ (a : Addr) (kvs : List (Key × V)), xs = [.ref a] ∧ Rd H a (.dK kvs) ∧ ∀ p, H p = none → Q (.ref p) (upd H p (.lst (kvs.map fun kv => kV kv.1)))) (tCons (tFld K (tVar 0) "kept") tNil)) tNil) [some (.ref p)] H Q := by
  obtain ⟨⟨kvs, hd, hk⟩, _⟩ := hR.ex
  refine ⟨_, rfl, p, C, dx, _, _, rfl, hR.obj, R.i.cl, R.nk, rfl, d, kvs, rfl, .inl hd, fun q1 h1 => ?_⟩
  rw [kept_keys hk]
  refine ⟨q1, st.kept.map (·.1), rfl, SqL.of upd_same, by rw [List.length_map]; exact hl, fun ys q2 hp hs h2 => ?_⟩
  rw [names_uniq hp hs]
  exact k q1 q2 h1 h2
theorem ok_namesG (F : FnQ K "names" "Room.names" (mth sRoom 12) f fd) (R : RmC K C) (B : Bt mg) : GFn P w K mg base 1 f fd ["self"] (spNmG K CR C) := by
  obtain ⟨oc, od, dV, kV, doc, pm, an, cdv, ct, osl, rfl, lk, hcd, _, _⟩ := F.ex
  refine gfn_of (k := 0) lk hcd scNames.1 (fun vs H cont E h => ?_) (fun A outer s H vs Q E pn hr h => ?_)
  · obtain ⟨p, dx, d, l, fx, st, rfl, _⟩ := h
    rfl
  · obtain ⟨p, dx, d, l, fx, st, rfl, hR, hl, k⟩ := h
    refine ⟨_, gss_cons (gs_yieldFrom (yf_list (pe_callB cr_sortedS (by rfl) B.sorted (by decide +kernel) (pa_cons (pe_callTy (call_listD rfl) (by rfl) B.list (by decide +kernel) (pa_cons (pe_fld (pv 0) rfl) pa_nil)) pa_nil))) hr.hd) gss_nil, ?_⟩
    refine names_does R hR hl fun q1 q2 h1 h2 => ⟨q2, _, rfl, upd_same, ?_, ?_⟩
    · show 0 + (nmV st.kept).length ≤ sizeLine
      unfold nmV
      rw [List.length_map, namesM_len]
      exact Nat.le_trans (by omega : _ ≤ 64) (by decide)
    · exact k _ ((Same.upd1 h1).trans (Same.upd1 h2))
theorem ok_names1 (F : FnQ K "names" "Room.names" (mth sRoom 12) f fd) (R : RmC K C) (B : Bt mg) : G1Fn P w K mg base 1 f fd ["self"] (spNm1 K CR C) := by
  obtain ⟨oc, od, dV, kV, doc, pm, an, cdv, ct, osl, rfl, lk, hcd, _, _⟩ := F.ex
  refine g1fn_of (k := 0) lk hcd scNames.1 (fun _ _ => by rfl) scNames.2 (fun A outer s H H2 vs xs hr h => ?_)
  obtain ⟨p, dx, d, l, fx, st, rfl, hR, hl, rfl⟩ := h
  refine ⟨_, pe_callB cr_sortedS (by rfl) B.sorted (by decide +kernel) (pa_cons (pe_callTy (call_listD rfl) (by rfl) B.list (by decide +kernel) (pa_cons (pe_fld (pv 0) rfl) pa_nil)) pa_nil), ?_⟩
  refine names_does R hR hl fun q1 q2 h1 h2 => ⟨q2, rfl, upd_same, fun b o e => ?_, ?_, fun b u n e => ?_⟩
  · exact ((Same.upd1 h1).trans (Same.upd1 h2)) b o e
  · by_cases z : q2 = q1
    · rw [z]; exact h1
    · rw [upd_ne z] at h2; exact h2
  · by_cases z : b = q2
    · rw [z, upd_same] at e; cases e; exact ⟨_, rfl⟩
    · rw [upd_ne z] at e
      by_cases z2 : b = q1
      · rw [z2, upd_same] at e; cases e; exact ⟨_, rfl⟩
      · rw [upd_ne z2, n] at e; cases e
end
end BX
end
section
set_option Elab.async false
set_option linter.all false
set_option maxRecDepth 100000
set_option maxHeartbeats 4000000
/-! != of lists whose items are equal, by an own __eq__ within -/
namespace GQ
open PySem PySem.SeqAt
open AutoSeq1 (wpAny_loadPart')
open MeetsSeq MeetsSeq2 MeetsSeq3 SeqRoads2
section
variable {prog : Program} {w : World} {A : Around} {R : Result → Shared → Prop}
theorem ne_loopG (l b : Addr) (N : Nat) (I : Nat → Shared → Prop) (hl : ListI prog w A (fun e s' => R (.error e) s') l b N I) (fin : ∀ s, I N s → R (.ok (.ret (.bool false))) s) (k : Nat) :
    ∀ i : Nat, N - i = k → i ≤ N → ∀ s, I i s → wpAny (model prog w) A.in1 (Builtin.«list.__eq__.loop» ⟨[.ref l, .ref b, rawInt i, rawInt 3], []⟩) (FinOf prog w A R) (fun e s' => R (.error e) s') s := by
  induction k with
  | zero =>
    intro i hk hi s h
    obtain ⟨items, items2, n, n2, hl1, hb1, hs1, hs2, _⟩ := hl _ _ h
    have hi' : i = N := by omega
    have hR : R (.ok (.ret (.bool false))) s := fin s (hi' ▸ h)
    obtain ⟨hp, g, d, tk, os⟩ := s
    wp_walk using wpAny_loadPart' hl1, wpAny_loadPart' hb1
    have hi1 : items[((i : Nat) : Int).toNat]? = none := by simp; omega
    have hi2 : items2[((i : Nat) : Int).toNat]? = none := by simp; omega
    rw [hi1, hi2]
    wp_walk using wpAny_loadPart' hl1, wpAny_loadPart' hb1
    show R (.ok (.ret (.bool (items.size != items2.size)))) _
    rw [hs1, hs2]
    simpa using hR
  | succ k ih =>
    intro i hk hi s h
    obtain ⟨items, items2, n, n2, hl1, hb1, hs1, hs2, turn⟩ := hl _ _ h
    have hlt : i < items.size := by omega
    have hlt2 : i < items2.size := by omega
    have ht := turn hlt hlt2
    obtain ⟨hp, g, d, tk, os⟩ := s
    wp_walk using wpAny_loadPart' hl1, wpAny_loadPart' hb1
    have hi1 : items[((i : Nat) : Int).toNat]? = some items[i] := by simp [hlt]
    have hi2 : items2[((i : Nat) : Int).toNat]? = some items2[i] := by simp [hlt2]
    have hc : ((i : Int) + 1) = ((i + 1 : Nat) : Int) := by omega
    rw [hi1, hi2]
    refine wpAny_bind (wpAny_mono ht (fun r s2 h2 => ?_) fun _ _ x => x)
    obtain ⟨hr, h2⟩ := h2
    subst hr
    have hrec := ih (i + 1) (by omega) (by omega) s2 h2
    obtain ⟨hp2, g2, d2, tk2, os2⟩ := s2
    wp_walk
    rw [hc]
    exact ⟨plainId_quiet plain_eq_loop _, codeAny_builtin entry_eq_loop (by
      rw [Around.under_plainId plain_eq_loop _]
      exact hrec)⟩
theorem list_neG (l b : Addr) (N : Nat) (I : Nat → Shared → Prop) (hl : ListI prog w A (fun e s' => R (.error e) s') l b N I) (fin : ∀ s, I N s → R (.ok (.ret (.bool false))) s) {s : Shared} (h : I 0 s) :
    wpAny (model prog w) A.in1 (Builtin.«list.__ne__» ⟨[.ref l, .ref b], []⟩) (FinOf prog w A R) (fun e s' => R (.error e) s') s := by
  obtain ⟨items, items2, n, n2, hl1, hb1, hs1, hs2, _⟩ := hl _ _ h
  have hrec := ne_loopG (A := A) (R := R) l b N I hl fin _ 0 rfl (Nat.zero_le _) s h
  obtain ⟨hp, g, d, tk, os⟩ := s
  have f3 := AutoSeq1.sub_list_list
  have hne : ¬ (items.size != items2.size) = true := by simp [hs1, hs2]
  wp_walk using wpAny_loadPart' hl1, wpAny_loadPart' hb1
  exact ⟨plainId_quiet plain_eq_loop _, codeAny_builtin entry_eq_loop (by
    rw [Around.under_plainId plain_eq_loop _]
    exact hrec)⟩
end
section
variable {prog : Program} {w : World} {A : Around} {E : Value → Shared → Prop} {s : Shared}
theorem rc_listNeG {l b : Addr} {N : Nat} {Q : Value → Shared → Prop} (hu : A.units < cLine) (I : Nat → Shared → Prop) (hl : ListI prog w A E l b N I) (fin : ∀ s, I N s → Q (.bool false) s) (h : I 0 s) :
    wpAny (model prog w) A (richCompare .NotEq (.ref l) (.ref b)) Q E s := by
  obtain ⟨items, items2, n, n2, hl1, hb1, _, _, _⟩ := hl _ _ h
  refine wpAny_richCompare_same_room (op := .NotEq) ⟨_, hl1, rfl⟩ ⟨_, hb1, rfl⟩ F.slot_list_ne (call_here F.slot_list_ne ⟨_, hl1, rfl⟩ F.entry_list_ne (F.args_list_ne_2 _ _) ?_) hu
  exact list_neG (R := wants (fun v s' => v ≠ .notImplemented ∧ Q v s') E) l b N I hl (fun s' q => ⟨(fun x => nomatch x), fin s' q⟩) h
end
end GQ
namespace BXQ
open PySem PySem.Spec PyProof.Rows L2
section
variable {X : Cx} {n : Nat} {D : Eqv}
/-- x != y of two lists whose items are equal -/
def rNeG (D : Eqv) : R2 := fun x y H Q => DList D x y H ∧ ∀ H', Ext H H' → Q (.bl false) H'
theorem op_neG (hD : Mon D) (h : EqG X n D) (hr : Room (n + 1) X.A) : OpR X (compareOp .NotEq) (rNeG D) := by
  intro pins s σ H x y u v Q I rx ry q
  obtain ⟨⟨a, b, xs, ys, rfl, rfl, ha, hb, p⟩, k⟩ := q
  cases rx
  cases ry
  have sb : Sub X (n + 1) X.A := ⟨hr, rfl⟩
  refine GQ.rc_listNeG (N := xs.length) hr.units0 (fun _ s' => LoopI X pins σ H s') (fun i s' q => ?_) (fun s' q => ?_) ⟨H, I, Ext.rfl'⟩
  · obtain ⟨H1, I1, e1⟩ := id q
    obtain ⟨z, its, k, r, e⟩ := I1.hok a _ (e1 _ _ ha)
    obtain ⟨z2, its2, k2, r2, e2⟩ := I1.hok b _ (e1 _ _ hb)
    refine ⟨its.toArray, its2.toArray, _, _, e, e2, by rw [List.size_toArray, ← r.length], by rw [List.size_toArray, ← r2.length, ← p.1], fun h1 h2 => ?_⟩
    exact turnG hD h sb p r r2 i h1 h2 s' q
  · obtain ⟨H1, I1, e1⟩ := q
    exact ⟨.bl false, H1, I1, rfl, k H1 e1⟩
end
end BXQ
end
section
set_option Elab.async false
set_option linter.all false
set_option maxRecDepth 100000
set_option maxHeartbeats 4000000
/-! == of dicts whose values have an own __eq__ -/
namespace BXQ
open PySem PySem.Spec PyProof.Rows L2
def hitsV (cmp : V → V → Bool) (kb : List (Key × V)) : List (Key × V) → Bool
  | [] => true
  | (k, v) :: r => match valV kb k with
    | none => false
    | some y => cmp v y && hitsV cmp kb r
section
variable {X : Cx} {A : Around} {pins : List (Addr × Obj)} {σ : L2.St} {H : Hp} {s : Shared} {E : Value → Shared → Prop}
theorem same_pairs {nm : String} {a b : Addr} {ka kb : List (Key × V)} {oa : Obj} {Q : Bool → Shared → Prop} (I : Inv X pins σ H s) (ha : H a = some (.frz oa (.dK ka))) (hb : Rd H b (.dK kb)) (cmp : V → V → Bool)
    (hc : ∀ (x y : V) (u v : Value) (s' : Shared), x ∈ ka.map (·.2) → y ∈ kb.map (·.2) → Inv X pins σ H s' → L2.RelV x u → L2.RelV y v → wpAny (model X.prog X.w) A (eqBool u v) (fun r s2 => r = cmp x y ∧ Inv X pins σ H s2) E s')
    (h : ∀ s', Inv X pins σ H s' → Q (decide (ka.length = kb.length) && hitsV cmp kb ka) s') : wpAny (model X.prog X.w) A (Builtin.Dict.samePairs nm a b) Q E s := by
  have atA : ∀ s', Inv X pins σ H s' → s'.heap.get? a = some oa := fun s' J => by
    obtain ⟨z, _⟩ := J.hok a _ ha
    exact z
  obtain ⟨za, na, va, ra, oa', es, ep, hoa, exa, hda, hka, hpa, hna⟩ := dk_rd I.hok (.inr ⟨oa, ha⟩ : Rd H a (.dK ka))
  have eoa : oa = oa' := Option.some.inj ((atA s I).symm.trans hoa)
  subst eoa
  obtain ⟨zb, nb, vb, rb, ob, es', ep', hob, exb, hdb, hkb, hpb, hnb⟩ := dk_rd I.hok hb
  have lva : va.length = ka.length := (Paired.length ra).symm
  have lvb : vb.length = kb.length := (Paired.length rb).symm
  have hla : ka.length = es.size := by rw [← lva, ← hpa.length]; exact Array.length_toList
  have hlb : kb.length = es'.size := by rw [← lvb, ← hpb.length]; exact Array.length_toList
  unfold Builtin.Dict.samePairs Builtin.Dict.showsAll
  rw [if_neg (show ¬ (a == sysModules) = true by rw [na]; exact Bool.false_ne_true), if_neg (show ¬ (b == sysModules) = true by rw [nb]; exact Bool.false_ne_true)]
  refine wpAny_bind (wpAny_pure (wpAny_bind (wpAny_pure ?_)))
  refine wpAny_bind (wpAny_dictEntries hoa hda ?_)
  dsimp only
  refine wpAny_bind (wpAny_dictEntries hob hdb ?_)
  by_cases hsz : es.size = es'.size
  case neg =>
    rw [if_pos (by simpa using hsz)]
    have hbf : decide (ka.length = kb.length) = false := decide_eq_false (by rw [hla, hlb]; exact hsz)
    have h := h s I
    rw [hbf, Bool.false_and] at h
    exact wpAny_bind (wpAny_rule (wpAny_pure h))
  case pos =>
    have hbt : decide (ka.length = kb.length) = true := decide_eq_true (by rw [hla, hlb]; exact hsz)
    rw [hbt, Bool.true_and] at h
    rw [if_neg (by rw [hsz]; simp)]
    refine wpAny_bind (wpAny_dictEpoch hoa hda ?_)
    refine wpAny_bind ?_
    rw [Std.Legacy.Range.forIn_eq_forIn_range']
    simp only [Std.Legacy.Range.size, Nat.sub_zero, Nat.add_sub_cancel, Nat.div_one]
    refine wpAny_forIn_list _
      (fun rest q s' => Inv X pins σ H s' ∧ q = (none, ()) ∧ ∃ i, rest = List.range' i (es.size - i) ∧ i ≤ es.size ∧ hitsV cmp kb (ka.drop i) = hitsV cmp kb ka)
      _ ?_ ?_ _ _ ⟨I, rfl, 0, by simp, Nat.zero_le _, by simp⟩
    · rintro x rest q s' ⟨J, rfl, i, hr, hi, hpre⟩
      have hoa' := atA s' J
      obtain ⟨_, _, vb', rb', ob', es2, ep2, hob', _, hdb', hkb', hpb', _⟩ := dk_rd J.hok hb
      have hfind : ∀ k, findBy (mixKind X.prog X.w).is es2 k = valueAt vb' k := fun k => by
        rw [← hpb'.find k]
        clear hpb' hkb' hdb' hob'
        obtain ⟨l⟩ := es2
        simp [findBy]
      have hlt : i < es.size := by
        rcases Nat.lt_or_ge i es.size with h | h
        · exact h
        · rw [Nat.sub_eq_zero_of_le h] at hr; simp at hr
      obtain ⟨rfl, hrest⟩ : x = i ∧ rest = List.range' (i + 1) (es.size - (i + 1)) := by
        have e : es.size - i = (es.size - (i + 1)) + 1 := by omega
        rw [e, List.range'_succ] at hr
        injection hr with h1 h2
        exact ⟨h1, h2⟩
      refine wpAny_bind (wpAny_dictEntries hoa' hda ?_)
      rw [Array.getElem?_eq_getElem hlt]
      have hltV : x < va.length := by rw [lva, hla]; exact hlt
      have hltK : x < ka.length := by rw [hla]; exact hlt
      obtain ⟨k, v, hkv⟩ : ∃ k v, va[x] = (k, v) := ⟨_, _, rfl⟩
      obtain ⟨kk, vv, hkk⟩ : ∃ k v, ka[x] = (k, v) := ⟨_, _, rfl⟩
      have hka? : ka[x]? = some (kk, vv) := by rw [List.getElem?_eq_getElem hltK, hkk]
      have hva? : va[x]? = some (k, v) := by rw [List.getElem?_eq_getElem hltV, hkv]
      have rel : kk = k ∧ L2.RelV vv v := by
        have : ∀ {l1 : List (Key × V)} {l2 : List (Key × Value)} {i : Nat}, KV l1 l2 → l1[i]? = some (kk, vv) → l2[i]? = some (k, v) → kk = k ∧ L2.RelV vv v := by
          intro l1 l2 i r
          induction r generalizing i with
          | nil => intro e; simp at e
          | cons q rest ih =>
            intro e1 e2
            cases i with
            | zero =>
              simp at e1 e2
              subst e1 e2
              exact q
            | succ j => exact ih (by simpa using e1) (by simpa using e2)
        exact this ra hka? hva?
      obtain ⟨ekk, rvv⟩ := rel
      have hdrop : ka.drop x = (kk, vv) :: ka.drop (x + 1) := by rw [← hkk]; exact List.drop_eq_getElem_cons hltK
      obtain ⟨hkey, hval⟩ := hpa.get? (i := x) (e := es[x]) (k := k) (v := v) (by rw [Array.getElem?_toList]; exact Array.getElem?_eq_getElem hlt) hva?
      obtain ⟨k', hk', hh⟩ := hka es[x] (Array.getElem_mem hlt)
      have ekk' : k' = k := (mixKind X.prog X.w).inj _ _ _ hk' hkey
      rw [ekk'] at hh
      rw [hdrop] at hpre
      have hpre : (match valV kb kk with | none => false | some y => cmp vv y && hitsV cmp kb (ka.drop (x + 1))) = hitsV cmp kb ka := hpre
      rw [ekk] at hpre
      show wpAny _ _ (holding [es[x].key, es[x].val] _ >>= _) _ _ _
      rw [hh]
      have rvk := rb'.val k
      refine wpAny_bind (wpAny_holding (wpAny_bind (wpAny_dictFind_of hkey hob' hdb' hkb' ?_)))
      cases hj : es2.findIdx? fun e => (mixKind X.prog X.w).is k e.key with
      | none =>
        have hn : valueAt vb' k = none := by rw [← hfind k, findBy_of_findIdx?, hj]
        have hnV : valV kb k = none := by
          cases q : valV kb k with
          | none => rfl
          | some y => rw [q, hn] at rvk; exact rvk.elim
        rw [hnV] at hpre
        have hpre : false = hitsV cmp kb ka := hpre
        have h := h s' J
        rw [← hpre] at h
        refine wpAny_pure ?_
        show wpAny _ _ (if (!false) = true then _ else _) _ _ _
        rw [if_pos (by decide)]
        exact wpAny_pure (wpAny_pure h)
      | some j =>
        obtain ⟨hjlt, _, _⟩ := Array.findIdx?_eq_some_iff_getElem.mp hj
        have hv' : valueAt vb' k = some es2[j].val := by
          rw [← hfind k, findBy_of_findIdx?, hj]
          simp [Array.getElem?_eq_getElem hjlt]
        obtain ⟨y, hyV, ry⟩ : ∃ y, valV kb k = some y ∧ L2.RelV y es2[j].val := by
          cases q : valV kb k with
          | none => rw [q, hv'] at rvk; exact rvk.elim
          | some y =>
            rw [q, hv'] at rvk
            exact ⟨y, rfl, rvk⟩
        rw [hyV] at hpre
        have hpre : (cmp vv y && hitsV cmp kb (ka.drop (x + 1))) = hitsV cmp kb ka := hpre
        refine wpAny_bind (wpAny_dictEntries hob' hdb' ?_)
        rw [Array.getElem?_eq_getElem hjlt]
        have hm1 : vv ∈ ka.map (·.2) := List.mem_map.mpr ⟨(kk, vv), List.mem_of_getElem? hka?, rfl⟩
        have hm2 : y ∈ kb.map (·.2) := by
          unfold valV at hyV
          obtain ⟨p, hp, e⟩ := Option.map_eq_some_iff.mp hyV
          exact List.mem_map.mpr ⟨p, List.mem_of_find?_eq_some hp, e⟩
        refine wpAny_holding (wpAny_mono (hc vv y es[x].val es2[j].val s' hm1 hm2 J (by rw [hval]; exact rvv) ry) (fun r s2 ⟨hr2, J2⟩ => ?_) fun _ _ z => z)
        subst hr2
        cases hcv : cmp vv y with
        | false =>
          rw [hcv, Bool.false_and] at hpre
          have h := h s2 J2
          rw [← hpre] at h
          show wpAny _ _ (if (!false) = true then _ else _) _ _ _
          rw [if_pos (by decide)]
          exact wpAny_pure (wpAny_pure h)
        | true =>
          rw [hcv, Bool.true_and] at hpre
          show wpAny _ _ (if (!true) = true then _ else _) _ _ _
          rw [if_neg (by decide)]
          refine wpAny_bind (wpAny_dictEpoch (atA s2 J2) hda ?_)
          rw [if_neg (by simp)]
          exact wpAny_pure ⟨J2, rfl, x + 1, hrest, hlt, hpre⟩
    · rintro q s' ⟨J, rfl, i, hr, hi, hpre⟩
      have hin : i = es.size := by
        rcases Nat.lt_or_ge i es.size with h | h
        · have e : es.size - i = (es.size - (i + 1)) + 1 := by omega
          rw [e, List.range'_succ] at hr; exact nomatch hr
        · exact Nat.le_antisymm hi h
      refine wpAny_pure ?_
      rw [hin, ← hla, List.drop_length] at hpre
      have h := h s' J
      rw [← hpre] at h
      exact h
/-- a == b, two dicts -/
theorem rc_dictsG {a b : Addr} {ka kb : List (Key × V)} {oa : Obj} {Q : Value → Shared → Prop} (hu : A.units < cLine) (I : Inv X pins σ H s) (ha : H a = some (.frz oa (.dK ka))) (hb : Rd H b (.dK kb)) (cmp : V → V → Bool)
    (hc : ∀ (x y : V) (u v : Value) (s' : Shared), x ∈ ka.map (·.2) → y ∈ kb.map (·.2) → Inv X pins σ H s' → L2.RelV x u → L2.RelV y v → wpAny (model X.prog X.w) A.in1 (eqBool u v) (fun r s2 => r = cmp x y ∧ Inv X pins σ H s2) E s')
    (h : ∀ s', Inv X pins σ H s' → Q (.bool (decide (ka.length = kb.length) && hitsV cmp kb ka)) s') : wpAny (model X.prog X.w) A (richCompare .Eq (.ref a) (.ref b)) Q E s := by
  obtain ⟨za, na, va, ra, da⟩ := dk_rd I.hok (.inr ⟨oa, ha⟩ : Rd H a (.dK ka))
  obtain ⟨zb, nb, vb, rb, db⟩ := dk_rd I.hok hb
  refine wpAny_richCompare_same_room (op := .Eq) da.typeIs db.typeIs PySem.F.slot_dict_eq (wpAny_call_entry PySem.F.slot_dict_eq da.typeIs PySem.F.entry_dict_eq ?_ (PySem.F.args_dict_eq_2 _ _)) hu
  show wpAny _ _ (Builtin.Dict.dictSlotArgs "__eq__" ⟨[.ref a, .ref b], []⟩ >>= _) _ _ s
  refine wpAny_bind ?_
  unfold Builtin.Dict.dictSlotArgs
  refine wpAny_bind (wpAny_notOrdered_dict da.typeIs ?_)
  show wpAny _ _ (pure (Value.ref a, Value.ref b)) _ _ s
  refine wpAny_pure ?_
  refine wpAny_bind (wpAny_isInstance (T := "dict") db.typeIs PySem.F.sub_dict_dict ?_)
  simp only [Bool.not_true, Bool.false_eq_true, if_false]
  refine wpAny_bind (wpAny_pure (wpAny_bind (wpAny_pure ?_)))
  refine wpAny_bind (same_pairs I ha hb cmp hc fun s' J => ?_)
  refine wpAny_pure ⟨_, rfl, ?_, ?_⟩
  · exact fun x => nomatch x
  · have z := h s' J
    generalize (decide (ka.length = kb.length) && hitsV cmp kb ka) = bb at z ⊢
    cases bb <;> exact z
end
end BXQ
end
section
set_option Elab.async false
set_option linter.all false
set_option maxRecDepth 100000
set_option maxHeartbeats 4000000
namespace BX
open PySem PySem.Spec PyProof.Rows L2 ClX BXQ
/-! ### a region's value is one -/
section
variable {X : Cx} {pins : List (Addr × Obj)} {σ : L2.St} {H : Hp} {s : Shared}
theorem seq_apart (I : Inv X pins σ H s) {a : Addr} {xs ys : List V} (h1 : SqL X.K H a xs) (h2 : SqT X.K H a ys) : False := by
  obtain ⟨its, _, p, _⟩ := I.list h1
  obtain ⟨its2, _, p2, _⟩ := I.tuple h2
  obtain ⟨o, ho, hc, _⟩ := p.isList
  obtain ⟨o2, ho2, hc2, _⟩ := (show s.heap.IsTuple a its2.toArray from p2)
  rw [ho] at ho2
  cases ho2
  rw [hc] at hc2
  exact absurd (Value.type.inj hc2) (by decide)
mutual
theorem dp_inj (I : Inv X pins σ H s) : ∀ (d d' : PyData) (v : V), Dp X.K H v d → Dp X.K H v d' → d = d'
  | .none, _, _, .non, h => by cases h; rfl
  | .bool _, _, _, .bl _, h => by cases h; rfl
  | .int _, _, _, .int _, h => by cases h; rfl
  | .str _, _, _, .str _, h => by cases h; rfl
  | .list ds, d', _, .lst h1 a1, h => by
    cases h with
    | lst h2 a2 =>
      have e := I.list_inj h1 h2
      subst e
      rw [dpAll_inj I ds _ _ a1 a2]
    | tup h2 a2 => exact (seq_apart I h1 h2).elim
  | .tuple ds, d', _, .tup h1 a1, h => by
    cases h with
    | tup h2 a2 =>
      have e := I.tuple_inj h1 h2
      subst e
      rw [dpAll_inj I ds _ _ a1 a2]
    | lst h2 a2 => exact (seq_apart I h2 h1).elim
theorem dpAll_inj (I : Inv X pins σ H s) : ∀ (ds ds' : List PyData) (vs : List V), DpAll X.K H vs ds → DpAll X.K H vs ds' → ds = ds'
  | [], _, _, .nil, h => by cases h; rfl
  | d :: ds, _, _, .cons h1 a1, h => by
    cases h with
    | cons h2 a2 => rw [dp_inj I d _ _ h1 h2, dpAll_inj I ds _ _ a1 a2]
end
theorem reg_inj {CR : Addr} {v : V} {r t : Rgn} (I : Inv X pins σ H s) (h1 : RegAt X.K CR H v r) (h2 : RegAt X.K CR H v t) : r = t := by
  obtain ⟨x, dx, fv, rfl, hx, hf, _⟩ := h1
  obtain ⟨y, dy, gv, e, hy, hg, _⟩ := h2
  cases e
  rw [hx] at hy
  have e := Option.some.inj hy
  injection e with _ _ e3
  unfold regF at e3
  injection e3 with e4 e5
  injection e4 with _ e6
  injection e5 with e7 _
  injection e7 with _ e8
  have e8 : r.2 = t.2 := V.bl.inj e8
  rw [← e6] at hg
  have ed := dp_inj I _ _ _ hf hg
  have z := form_eqv r.1 t.1
  rw [ed, form_eqv] at z
  rw [decide_eq_true (rfl : t.1 = t.1)] at z
  exact Prod.ext (of_decide_eq_true z.symm) e8
end
/-! ### dicts of regions -/
def hasM (b : List (Str × Rgn)) (n : Str) (r : Rgn) : Bool := match getM b n with
  | some t => decide (r = t)
  | none => false
def eqKept (a b : List (Str × Rgn)) : Bool := decide (a.length = b.length) && a.all fun e => hasM b e.1 e.2
def rKeptEq (K : PySem.W.Frag) (CR : Addr) : R2 := fun x y H Q => ∃ (a b : Addr) (ka kb : List (Key × V)) (oa : Obj) (ma mb : List (Str × Rgn)), x = .ref a ∧ y = .ref b ∧ H a = some (.frz oa (.dK ka)) ∧ Rd H b (.dK kb) ∧ KeptAt K CR H ka ma ∧ KeptAt K CR H kb mb ∧ Q (.bl (eqKept ma mb)) H
section
variable {X : Cx} {k : Nat} {CR f : Addr}
theorem op_keptEq (F : At X.prog X.w X.K X.mg X.base k f (spREq X.K CR)) (hr : Room (k + 1) X.A) (hs : PySem.W.findIn X.K (.ref CR) "__eq__" = some (some (.ref f))) (hf : PySem.W.isFn X.K (.ref f) = true) : OpR X (compareOp .Eq) (rKeptEq X.K CR) := by
  intro pins s σ H x y u v Q I rx ry q
  obtain ⟨a, b, ka, kb, oa, ma, mb, rfl, rfl, ha, hb, hka, hkb, q⟩ := q
  cases rx
  cases ry
  have hin1 : ∀ {kvs : List (Key × V)} {m : List (Str × Rgn)} {z : V}, KeptAt X.K CR H kvs m → z ∈ kvs.map (·.2) → ∃ r, RegAt X.K CR H z r := by
    intro kvs m z h
    induction h with
    | nil => intro hz; simp at hz
    | cons q rest ih =>
      intro hz
      rcases List.mem_cons.mp hz with e | hz
      · exact ⟨_, by rw [e]; exact q.2⟩
      · exact ih hz
  let cmp : V → V → Bool := fun x y => @decide (∃ r, RegAt X.K CR H x r ∧ RegAt X.K CR H y r) (Classical.propDecidable _)
  have cmpT : ∀ {x y : V} {r t : Rgn}, RegAt X.K CR H x r → RegAt X.K CR H y t → cmp x y = decide (r = t) := fun {x y r t} h1 h2 => by
    rw [Bool.eq_iff_iff]
    show @decide _ (Classical.propDecidable _) = true ↔ _
    rw [@decide_eq_true_iff _ (Classical.propDecidable _), decide_eq_true_iff]
    refine ⟨fun ⟨z, h3, h4⟩ => (reg_inj I h1 h3).trans (reg_inj I h4 h2), fun e => ⟨r, h1, e ▸ h2⟩⟩
  refine rc_dictsG hr.units0 I ha hb cmp (fun x y u v s' hx hy J rx ry => ?_) (fun s' J => ?_)
  · obtain ⟨r, hr1⟩ := hin1 hka hx
    obtain ⟨t, hr2⟩ := hin1 hkb hy
    rw [cmpT hr1 hr2]
    obtain ⟨x1, d1, f1, rfl, hx1, hf1, o1⟩ := id hr1
    obtain ⟨x2, d2, f2, rfl, hx2, hf2, o2⟩ := id hr2
    cases rx
    cases ry
    by_cases hab : x1 = x2
    · subst hab
      rw [decide_eq_true (reg_inj I hr1 hr2)]
      exact SeqAt.EqAt.same (A := X.A.in1) (s := s') (.ref x1) X.prog X.w X.xe _ ⟨rfl, J⟩
    · obtain ⟨od, J1⟩ := ins_inst J hx1
      obtain ⟨od2, J2⟩ := ins_inst J hx2
      obtain ⟨m, hF⟩ := J.fr
      refine GQ.eqBool_refG hab (PySem.W.cmp_K (op := .Eq) (tb := .ref CR) hr.in1.units0 hF J.ok.mod.kin J1 J2.type (by simp [PySem.W.notFirst]) hs hf ?_)
      refine thn (run_in1 (us := [.ref x1, .ref x2]) (vs := [.ref x1, .ref x2]) (Q := fun v H' => v = .bl (decide (r = t)) ∧ H' = H) F hr J (.cons rfl (.cons rfl .nil)) ⟨.ref x1, .ref x2, r, t, rfl, hr1, hr2, rfl, rfl⟩) fun v s2 ⟨z, H', I', rz, e1, e2⟩ => ?_
      subst e1 e2
      obtain rfl : v = Value.bool _ := rz
      exact ⟨_, rfl, rfl, I'⟩
  · refine ⟨.bl _, H, J, rfl, ?_⟩
    have e1 : ka.length = ma.length := kept_len hka
    have e2 : kb.length = mb.length := kept_len hkb
    have e3 : ∀ {l : List (Key × V)} {m : List (Str × Rgn)}, KeptAt X.K CR H l m → hitsV cmp kb l = m.all fun e => hasM mb e.1 e.2 := by
      intro l m h
      induction h with
      | nil => rfl
      | @cons kv e l m q rest ih =>
        obtain ⟨kk, vv⟩ := kv
        have ek : kk = .inr e.1 := q.1
        subst ek
        unfold hitsV
        rw [List.all_cons, ih]
        rcases kept_get (n := e.1) hkb with ⟨g0, g1⟩ | ⟨r', v', g1, g2, g3⟩
        · have z : hasM mb e.1 e.2 = false := by unfold hasM; rw [g0]
          rw [g1, z]
          rfl
        · have z : hasM mb e.1 e.2 = decide (e.2 = r') := by unfold hasM; rw [g1]
          rw [g2, z]
          show (cmp vv v' && _) = _
          rw [cmpT q.2 g3]
    have : (decide (ka.length = kb.length) && hitsV cmp kb ka) = eqKept ma mb := by
      unfold eqKept
      rw [e1, e2, e3 hka]
    rw [this]
    exact q
end
end BX
end
section
set_option Elab.async false
set_option linter.all false
set_option maxRecDepth 100000
set_option maxHeartbeats 4000000
namespace BX
open PySem PySem.Spec PyProof.Rows L2 ClX BXQ
theorem pe_mk0 {X : Cx} {k j : Nat} {x : Str} {C : Addr} {sp : Sp} {dvs : List V} {p pos : Pos} (c : C8.Mak X.prog X.w X.K X.mg X.base k x C sp dvs) (hr : Room j X.A) (hk : k + 1 ≤ j) (hg : Gl X x) (hdb : (x == ("__debug__" : Str)) = false := by decide) :
    PE X (.Call (.Name x p) [] [] pos) (tMake C sp dvs C8.E0 tNil) := by
  obtain ⟨f, fd, ps, ds, M, F, hm, b, d⟩ := c.ex
  exact pe_make0 M F (hr.mono hk) hg hm b d C8.pass0 hdb
/-! ### Room.__eq__ -/
def spRmEq (K : PySem.W.Frag) (CR CM C : Addr) : Sp := fun vs H Q _ => ∃ (p dx d l : Addr) (fx : List (Str × V)) (st : Rm) (u : V) (T : Value) (b : Bool), vs = [.ref p, u] ∧ RoomAt K CR C fx H p dx d l st ∧ TyX K H u T ∧ PySem.W.kitOne K T (.ref CM) = some b ∧
  (b = false → Q (.bl false) H) ∧ (b = true → ∃ (q C2 dq dd ll : Addr) (f2 : List (Str × V)) (s2 : Rm), u = .ref q ∧ RmC K C2 ∧ RoomAt K CR C2 f2 H q dq dd ll s2 ∧ Q (.bl (eqKept st.kept s2.kept)) H)
theorem scRmEq : FnScope two two (defScope (mth sRoom 20)) := C8.fnScope_by (by decide +kernel)
/-! ### handed_to, copy -/
def spHand (K : PySem.W.Frag) (CR C : Addr) : Sp := fun vs H Q _ => ∃ (p dx d l q C2 dq d2 l2 : Addr) (fx f2 : List (Str × V)) (st : Rm), vs = [.ref p, .ref q] ∧ RoomAt K CR C fx H p dx d l st ∧ RmC K C2 ∧ C2 ≠ CR ∧ FxOk f2 ∧ p ≠ q ∧ H q = some (.ins C2 dq (roomF d2 l2 f2)) ∧
  ∀ d' l' H', Kp q H H' → RoomAt K CR C2 f2 H' q dq d' l' st → Q (.ref q) H'
theorem scHand : FnScope two two (defScope (mth sRoom 17)) := C8.fnScope_by (by decide +kernel)
/-- a new room with the same -/
def spCopy (K : PySem.W.Frag) (ad : Ad) (C : Addr) (fix : Bool) : Sp := fun vs H Q _ => ∃ (p dx d l : Addr) (fx : List (Str × V)) (st : Rm), vs = [.ref p] ∧ RoomAt K ad.CR C fx H p dx d l st ∧ FxAt K H fix fx ∧
  ∀ q dq d' l' H', Same H H' → H q = none → RoomAt K ad.CR C fx H' q dq d' l' st → Q (.ref q) H'
theorem scCopy : FnScope ["self"] ["self"] (defScope (mth sRoom 18)) := C8.fnScope_by (by decide +kernel)
section
variable {P : Program} {w : World} {K : PySem.W.Frag} {mg : Str → Option Value} {base : Heap} {f CR CM C fQ fH : Addr} {fd : FuncData} {ad : Ad}
theorem ok_rmEq (F : FnQ K "__eq__" "Room.__eq__" (mth sRoom 20) f fd) (R : RmC K C) (B : Bt mg) (gM : mg "Room" = some (.ref CM)) (hQ : At P w K mg base 1 fQ (spREq K CR)) (hs : PySem.W.findIn K (.ref CR) "__eq__" = some (some (.ref fQ))) (hf : PySem.W.isFn K (.ref fQ) = true) : At P w K mg base 3 f (spRmEq K CR CM C) := by
  refine atP F scRmEq (fun _ _ _ _ _ _ us hl => match us, hl with | [_, _], _ => rfl) (fun vs H Q E h => ?_) (fun cdv A outer s H vs Q E hr h => ?_)
  · obtain ⟨p, dx, d, l, fx, st, u, T, b, rfl, _⟩ := h
    rfl
  · obtain ⟨p, dx, d, l, fx, st, u, T, b, rfl, hR, ty, kit, k0, k1⟩ := h
    refine ⟨_, pss_cons (ps_if (pt_not (pt_val (pe_callB call_isi (by rfl) B.isinstance (by decide +kernel) (pa_cons (pv 1) (pa_cons (pe_glob (v := .ref CM) (by rfl) gM rfl) pa_nil))))) (pss_one (ps_ret pe_bl)) pss_nil)
      (pss_one (ps_ret (pe_lock (pe_cmpR (op_keptEq hQ hr hs hf) (pe_fld (pv 0) rfl) (pe_fld (pv 1) rfl) (nomark _))))), ?_⟩
    refine ⟨_, rfl, u, .ref CM, T, _, b, rfl, .own CM, ty, kit, ?_⟩
    cases b with
    | false => exact ⟨_, rfl, iteT (k0 rfl)⟩
    | true =>
      obtain ⟨q, C2, dq, dd, ll, f2, s2, rfl, R2, hR2, k⟩ := k1 rfl
      refine ⟨_, rfl, iteF ?_⟩
      obtain ⟨⟨kvs, hd, hk⟩, _⟩ := hR.ex
      obtain ⟨⟨kvs2, hd2, hk2⟩, _⟩ := hR2.ex
      refine ⟨d, .dK kvs, hd, trivial, fun od => ?_⟩
      have hpd : p ≠ d := ne_of hR.obj hd (by intro z; cases z)
      have hqd : q ≠ d := ne_of hR2.obj hd (by intro z; cases z)
      have kr : Kr CR H (upd H d (.frz od (.dK kvs))) := Kr.lock hd
      refine ⟨_, rfl, p, C, dx, _, _, rfl, by rw [upd_ne hpd]; exact hR.obj, R.i.cl, R.nk, rfl, _, rfl, q, C2, dq, _, _, rfl, by rw [upd_ne hqd]; exact hR2.obj, R2.i.cl, R2.nk, rfl, ?_⟩
      refine ⟨d, dd, kvs, kvs2, od, st.kept, s2.kept, rfl, rfl, upd_same, ?_, hk.kr kr, hk2.kr kr, upd_same, ?_⟩
      · by_cases e : dd = d
        · subst e
          rw [hd] at hd2
          cases hd2
          exact .inr ⟨od, upd_same⟩
        · exact .inl (by rw [upd_ne e]; exact hd2)
      · rw [upd_upd]
        have e : upd H d (.dK kvs) = H := by
          funext b
          by_cases z : b = d
          · rw [z, upd_same, hd]
          · rw [upd_ne z]
        rw [e]
        exact k
theorem ok_hand (F : FnQ K "handed_to" "Room.handed_to" (mth sRoom 17) f fd) (R : RmC K C) (B : Bt mg) : At P w K mg base 1 f (spHand K CR C) := by
  refine atP F scHand (fun _ _ _ _ _ _ us hl => match us, hl with | [_, _], _ => rfl) (fun vs H Q E h => ?_) (fun cdv A outer s H vs Q E hr h => ?_)
  · obtain ⟨p, dx, d, l, q, C2, dq, d2, l2, fx, f2, st, rfl, _⟩ := h
    rfl
  · obtain ⟨p, dx, d, l, q, C2, dq, d2, l2, fx, f2, st, rfl, hR, R2, ne, fo, hpq, hq, k⟩ := h
    refine ⟨_, pss_cons (ps_fld (pv 1) (pe_callTy call_dictD (by rfl) B.dict (by decide +kernel) (pa_cons (pe_fld (pv 0) rfl) pa_nil)) rfl)
      (pss_cons (ps_fld (pv 1) (pe_callTy call_list_of (by rfl) B.list (by decide +kernel) (pa_cons (pe_fld (pv 0) rfl) pa_nil)) rfl) (pss_one (ps_ret (pv 1)))), ?_⟩
    obtain ⟨⟨kvs, hd, hk⟩, xs, hl, hlog⟩ := hR.ex
    refine ⟨_, rfl, p, C, dx, _, _, rfl, hR.obj, R.i.cl, R.nk, rfl, d, kvs, rfl, .inl hd, fun nd hnd => ?_⟩
    have s1 : Same H (upd H nd (.dK kvs)) := Same.upd1 hnd
    generalize hH1 : upd H nd (.dK kvs) = H1 at s1
    have nd1 : H1 nd = some (.dK kvs) := by rw [← hH1, upd_same]
    refine ⟨_, rfl, q, C2, dq, _, rfl, s1 _ _ hq, R2.i.cl, R2.nk, fo.len, ?_⟩
    have kp2 : Kp q H1 (upd H1 q (.ins C2 dq (putF "kept" (.ref nd) (roomF d2 l2 f2)))) := (Kp.refl q H1).upd
    generalize hH2 : upd H1 q (.ins C2 dq (putF "kept" (.ref nd) (roomF d2 l2 f2))) = H2 at kp2
    have q2 : H2 q = some (.ins C2 dq (roomF nd l2 f2)) := by rw [← hH2, upd_same]; rfl
    have l2' : H2 l = some (.lst xs) := kp2 l _ (ne_of (s1 _ _ hl) (s1 _ _ hq) (by intro z; cases z)) (s1 _ _ hl)
    refine ⟨_, rfl, p, C, dx, _, _, rfl, kp2 p _ hpq (s1 _ _ hR.obj), R.i.cl, R.nc, rfl, l, xs, rfl, .inl (SqL.of l2'), fun nl hnl => ?_⟩
    have s3 : Same H2 (upd H2 nl (.lst xs)) := Same.upd1 hnl
    generalize hH3 : upd H2 nl (.lst xs) = H3 at s3
    have nl3 : H3 nl = some (.lst xs) := by rw [← hH3, upd_same]
    refine ⟨_, rfl, q, C2, dq, _, rfl, s3 _ _ q2, R2.i.cl, R2.nc, (by exact fo.len (d := nd) (l := l2)), ?_⟩
    refine ⟨_, rfl, ?_⟩
    have kp4 : Kp q H3 (upd H3 q (.ins C2 dq (putF "calls" (.ref nl) (roomF nd l2 f2)))) := (Kp.refl q H3).upd
    have kp : Kp q H (upd H3 q (.ins C2 dq (putF "calls" (.ref nl) (roomF nd l2 f2)))) := ((Kp.of s1).trans kp2).trans ((Kp.of s3).trans kp4)
    have kr : Kr CR H (upd H3 q (.ins C2 dq (putF "calls" (.ref nl) (roomF nd l2 f2)))) := kp.kr hq ne
    refine k nd nl _ kp ⟨upd_same, fo, ⟨kvs, ?_, hk.kr kr⟩, xs, ?_, hlog.kr kr⟩
    · have n2 : H2 nd = some (.dK kvs) := kp2 nd _ (ne_of nd1 (s1 _ _ hq) (by intro z; cases z)) nd1
      exact kp4 nd _ (ne_of (s3 _ _ n2) (s3 _ _ q2) (by intro z; cases z)) (s3 _ _ n2)
    · exact kp4 nl _ (ne_of nl3 (s3 _ _ q2) (by intro z; cases z)) nl3
theorem ok_copy (F : FnQ K "copy" "Room.copy" (mth sRoom 18) f fd) (R : RmC K C) (ne : C ≠ ad.CR) (hH : At P w K mg base 1 fH (spHand K ad.CR C)) (mH : Meth K C "handed_to" fH) (CM : C8.Mak P w K mg base 1 "Room" C (spRmInit K ad.CR C) []) : At P w K mg base 3 f (spCopy K ad C false) := by
  refine atP F scCopy (fun _ _ _ _ _ _ us hl => match us, hl with | [_], _ => rfl) (fun vs H Q E h => ?_) (fun cdv A outer s H vs Q E hr h => ?_)
  · obtain ⟨p, dx, d, l, fx, st, rfl, _⟩ := h
    rfl
  · obtain ⟨p, dx, d, l, fx, st, rfl, hR, hfx, k⟩ := h
    refine ⟨_, pss_one (ps_ret (C8.pe_mt (at_met hH R.i.cl mH) hr (by omega) (pv 0) (pa_cons (pe_mk0 CM hr (by omega) (by rfl)) pa_nil))), ?_⟩
    have hfx : fx = [] := hfx
    subst hfx
    refine ⟨_, rfl, p, dx, _, rfl, hR.obj, hR.fxo.look (by decide) (by decide) (by decide), ?_⟩
    refine fun q dq hq hdq hne => ⟨q, dq, rfl, upd_same, fun d2 l2 H2 kp2 hR2 => ⟨rfl, ?_⟩⟩
    have hpq : p ≠ q := fun e => by have z := hR.obj; rw [e, hq] at z; cases z
    have s2 : Same H H2 := fun b o hb => by
      have h1 : b ≠ q := ne_of_none hb hq
      refine kp2 b o h1 ?_
      rw [upd_ne h1, upd_ne (ne_of_none hb hdq)]
      exact hb
    refine ⟨p, dx, d, l, q, C, dq, d2, l2, [], [], st, rfl, hR.same s2, R, ne, .inl rfl, hpq, hR2.obj, fun d' l' H' kp hR' => k q dq d' l' H' (fun b o hb => ?_) hq hR'⟩
    exact kp b o (ne_of_none hb hq) (s2 b o hb)
end
end BX
end
section
set_option Elab.async false
set_option linter.all false
set_option maxRecDepth 100000
set_option maxHeartbeats 4000000
namespace BX
open PySem PySem.Spec PyProof.Rows L2 ClX BXQ
abbrev sFix : Stmt := topS 49
/-! ### FixedRoom's plain methods -/
theorem scFIns : FnScope ["self", "name", "region"] ["self", "name", "region"] (defScope (mth sFix 2)) := C8.fnScope_by (by decide +kernel)
theorem scFFrame : FnScope ["self"] ["self"] (defScope (mth sFix 1)) := C8.fnScope_by (by decide +kernel)
theorem scFCopy : FnScope ["self"] ["self"] (defScope (mth sFix 5)) := C8.fnScope_by (by decide +kernel)
/-- the frame: the tuple that was given -/
def spFrame (K : PySem.W.Frag) (C : Addr) : Sp := fun vs H Q _ => ∃ (p dx d l : Addr) (fx : List (Str × V)), vs = [.ref p] ∧ H p = some (.ins C dx (roomF d l fx)) ∧ FxAt K H true fx ∧ ∀ t, SqT K H t (boxT b0) → Q (.ref t) H
theorem b0_ok : OkB b0 := by constructor <;> decide
section
variable {P : Program} {w : World} {K : PySem.W.Frag} {mg : Str → Option Value} {base : Heap} {f CR C fW fO fOf pOf : Addr} {fd : FuncData} {ad : Ad} {mc : Value}
theorem ok_fframe (F : FnQ K "frame" "FixedRoom.frame" (mth sFix 1) f fd) (R : RmC K C) (no : NoAttr K C "own_frame") : At P w K mg base 1 f (spFrame K C) := by
  refine atP F scFFrame (fun _ _ _ _ _ _ us hl => match us, hl with | [_], _ => rfl) (fun vs H Q E h => ?_) (fun cdv A outer s H vs Q E hr h => ?_)
  · obtain ⟨p, dx, d, l, fx, rfl, _⟩ := h
    rfl
  · obtain ⟨p, dx, d, l, fx, rfl, hp, ⟨t, rfl, ht⟩, k⟩ := h
    refine ⟨_, pss_one (ps_ret (pe_fld (pv 0) rfl)), ?_⟩
    exact ⟨_, rfl, p, C, dx, _, _, rfl, hp, R.i.cl, no, rfl, k t ht⟩
theorem ok_fins (F : FnQ K "check_inside" "FixedRoom.check_inside" (mth sFix 2) f fd) (R : RmC K C) (no : NoAttr K C "own_frame") (G : RegC K mg ad.CR) (CK : C8.Cal P w K mg base 1 "check_region" (spChkR K ad.CR) []) (hW : At P w K mg base 6 fW (spWith K ad.CR)) (mW : Meth K ad.CR "within" fW)
    (hOf : FnR P w K mg base C8.CX0 5 fOf (spOf K ad.CR)) (cr : CRead K ad.CR mc) (cm : CMet K ad.CR mc "of" pOf fOf) (T : XcC K ad.CO fO "ValueError.__new__" "ValueError" "ValueError.__init__" [.type "ValueError", .type "Exception", .type "BaseException", .type "object"]) (gO : mg "Outside" = some (.ref ad.CO)) (iO : At P w K mg base 1 fO (spXI ad.CO)) :
    AtX P w K mg base 9 f (spIns K ad C true) := by
  refine atR F scFIns (fun _ _ _ _ _ _ us hl => match us, hl with | [_, _, _], _ => rfl) (fun vs H Q E h => ?_) (fun cdv A outer s H vs Q E hr tk h => ?_)
  · obtain ⟨p, dx, d, l, fx, st, n, v, r, rfl, _⟩ := h
    rfl
  · obtain ⟨p, dx, d, l, fx, st, n, v, r, rfl, hR, ⟨t, hfx, ht⟩, hv, kQ, kE⟩ := h
    subst hfx
    refine ⟨_, pss_cons (ps_expr (C8.pe_c CK hr (by omega) (by rfl) (pa_cons (pv 2) pa_nil)))
      (pss_one (ps_if (pt_not (pt_val (C8.pe_mt (at_met hW G.i.cl mW) hr (by omega) (pv 2) (pa_cons (pe_cmeth (E := C8.E0) (pe_glob (v := .ref ad.CR) (by rfl) G.g rfl) cr cm hOf (hr.mono (by omega)) C8.pass0 (pa_cons (pe_fld (pv 0) rfl) pa_nil)) pa_nil))))
        (pss_one (ps_raise rfl tk (pmk_ox T.ox T.me T.ti iO hr (by omega) (by rfl) gO (pa_cons (pv 1) pa_nil)))) pss_nil)), ?_⟩
    refine ⟨_, rfl, v, r, rfl, hv, ?_⟩
    obtain ⟨x, dxx, fv, rfl, hx, hf, of⟩ := id hv
    refine ⟨_, rfl, x, dxx, _, rfl, hx, rfl, rfl, _, rfl, p, C, dx, _, _, rfl, hR.obj, R.i.cl, no, rfl, t, b0, rfl, ht, b0_ok, fun z H1 s1 hz => ?_⟩
    refine ⟨.ref x, z, r, boxR, rfl, hv.same s1, hz, fun H2 s2 => ⟨_, rfl, ?_⟩⟩
    have e : okIn true r = within r boxR := rfl
    cases hw : within r boxR with
    | true => exact iteF (kQ (e.trans hw) H2 (s1.trans s2))
    | false =>
      refine iteT ⟨_, rfl, by show 1 ≤ 1000; decide, ?_⟩
      exact mkx_val (RaiseV.same (kE (e.trans hw)) (s1.trans s2))
/-- FixedRoom.__init__ -/
def spFInit (K : PySem.W.Frag) (CR C : Addr) : Sp := fun vs H Q _ => ∃ (p dx t : Addr), vs = [.ref p, .ref t] ∧ H p = some (.ins C dx []) ∧ SqT K H t (boxT b0) ∧ ∀ d l H', Kp p H H' → RoomAt K CR C [(("own_frame" : Str), V.ref t)] H' p dx d l ⟨[], []⟩ → Q .non H'
theorem ok_fcopy {fH : Addr} {kI : Nat} (F : FnQ K "copy" "FixedRoom.copy" (mth sFix 5) f fd) (R : RmC K C) (no : NoAttr K C "own_frame") (ne : C ≠ ad.CR) (hH : At P w K mg base 1 fH (spHand K ad.CR C)) (mH : Meth K C "handed_to" fH) (CM : C8.Mak P w K mg base kI "FixedRoom" C (spFInit K ad.CR C) []) : At P w K mg base (kI + 2) f (spCopy K ad C true) := by
  refine atP F scFCopy (fun _ _ _ _ _ _ us hl => match us, hl with | [_], _ => rfl) (fun vs H Q E h => ?_) (fun cdv A outer s H vs Q E hr h => ?_)
  · obtain ⟨p, dx, d, l, fx, st, rfl, _⟩ := h
    rfl
  · obtain ⟨p, dx, d, l, fx, st, rfl, hR, hfx, k⟩ := h
    obtain ⟨t, rfl, ht⟩ := hfx
    refine ⟨_, pss_one (ps_ret (C8.pe_mt (at_met hH R.i.cl mH) hr (by omega) (pv 0) (pa_cons (C8.pe_mk CM hr (by omega) (by rfl) (pa_cons (pe_fld (pv 0) rfl) pa_nil)) pa_nil))), ?_⟩
    refine ⟨_, rfl, p, dx, _, rfl, hR.obj, hR.fxo.look (by decide) (by decide) (by decide), ?_⟩
    refine ⟨_, rfl, p, C, dx, _, _, rfl, hR.obj, R.i.cl, no, rfl, fun q dq hq hdq hne => ⟨q, dq, t, rfl, upd_same, ?_, fun d2 l2 H2 kp2 hR2 => ⟨rfl, ?_⟩⟩⟩
    · exact sq_of_tk (fun b o hb => by rw [upd_ne (ne_of_none hb hq), upd_ne (ne_of_none hb hdq)]; exact hb) ht
    have hpq : p ≠ q := fun e => by have z := hR.obj; rw [e, hq] at z; cases z
    have s2 : Same H H2 := fun b o hb => by
      have h1 : b ≠ q := ne_of_none hb hq
      refine kp2 b o h1 ?_
      rw [upd_ne h1, upd_ne (ne_of_none hb hdq)]
      exact hb
    refine ⟨p, dx, d, l, q, C, dq, d2, l2, _, _, st, rfl, hR.same s2, R, ne, .inr ⟨_, rfl⟩, hpq, hR2.obj, fun d' l' H' kp hR' => k q dq d' l' H' (fun b o hb => ?_) hq hR'⟩
    exact kp b o (ne_of_none hb hq) (s2 b o hb)
end
end BX
end
section
set_option Elab.async false
set_option linter.all false
set_option maxRecDepth 100000
set_option maxHeartbeats 4000000
/-! super().m(..) within a method of a class of the module -/
namespace BXU
open PySem PySem.Spec PyProof.Rows L2 ClX NdefX BX
/-! ### statements told under the frame's own code -/
structure PSA (X : Cx) (body : List Stmt) (st : Stmt) (t : TS) : Prop where
  run : ∀ (pins : List (Addr × Obj)) (s : Shared) (σ : L2.St) (H : Hp) (D : Ends), Inv X pins σ H s → t D σ H → _root_.PySem.wpAt (model X.prog X.w) X.A (.func body X.env) (exec st X.env) (SP X pins D) X.xe s
structure PSAs (X : Cx) (body : List Stmt) (st : List Stmt) (t : TS) : Prop where
  run : ∀ (pins : List (Addr × Obj)) (s : Shared) (σ : L2.St) (H : Hp) (D : Ends), Inv X pins σ H s → t D σ H → _root_.PySem.wpAt (model X.prog X.w) X.A (.func body X.env) (execs st X.env) (SP X pins D) X.xe s
section
variable {X : Cx} {body rest : List Stmt} {st : Stmt} {t u : TS}
theorem psa (h : PS X st t) : PSA X body st t := ⟨fun pins s σ H D I q => _root_.PySem.wpAt_of_wpAny (h.run pins s σ H D I q)⟩
theorem psas_cons (h1 : PSA X body st t) (h2 : PSAs X body rest u) : PSAs X body (st :: rest) (tSeq t u) := by
  refine ⟨fun pins s σ H D I h => ?_⟩
  refine ks_wpAt_execs_cons (ks_wpAt_mono (h1.run pins s σ H { D with nx := u D } I h) (fun f s1 q => ?_) fun _ _ x => x)
  cases f with
  | next =>
    obtain ⟨σ', H', I', q⟩ := q
    exact h2.run pins s1 σ' H' D I' q
  | ret v => exact q
  | brk => exact q
  | cont => exact q
theorem psas_one (h1 : PSA X body st t) : PSAs X body [st] t := by
  refine ⟨fun pins s σ H D I h => ?_⟩
  refine ks_wpAt_execs_cons (ks_wpAt_mono (h1.run pins s σ H D I h) (fun f s1 q => ?_) fun _ _ x => x)
  cases f with
  | next => exact _root_.PySem.wpAt_of_wpAny (wpAny_execs_nil q)
  | ret v => exact q
  | brk => exact q
  | cont => exact q
end
theorem atx_fnR {P : Program} {w : World} {K : PySem.W.Frag} {mg : Str → Option Value} {base : Heap} {k : Nat} {f : Addr} {sp : Sp} (G : AtX P w K mg base k f sp) : FnR P w K mg base (L2.CX P w) k f sp := by
  obtain ⟨fd, ps, F, kp, b⟩ := G.ex
  intro A outer s H us vs Q E hr e0 r h
  have hl : us.length = ps.length := by rw [← r.length]; exact F.len _ _ _ _ h
  have hb := b s us (e0.mod.kin.keeps fun b o e => (e0.bs b o e).1) (by rw [List.append_nil]; exact hl)
  rw [List.append_nil] at hb
  exact F.run A outer s H _ us vs Q E hr e0 hb r h
/-! ### what of the text is asked -/
/-- the function at f, whose closure is the cell cc of its class D; its code object cda -/
structure SupF (P : Program) (K : PySem.W.Frag) (x qual : Str) (st : Stmt) (f cda cc D : Addr) (fd : FuncData) : Prop where
  ex : ∃ (oc : Value) (od : Option Addr) (kV doc pm : Value) (an : Option Addr) (ct : Value) (osl : Array (Option Value)), fd = PySem.W.ksFn x qual (defArgs st) (defBody st) (defScope st) .none kV doc pm an (.ref cda) ct cc ∧ K.lookup f = some ⟨oc, od, .func fd, osl⟩
  co : PySem.W.codeIn K (.ref cda) qual = true
  file : ∃ (ccl : Value) (cdd : Option Addr) (vs : Array Value) (ccs : Array (Option Value)) (file : Str) (tf : Tok), K.lookup cda = some ⟨ccl, cdd, .fields vs, ccs⟩ ∧ vs[2]? = some (.str file tf) ∧ ((P.main.file : Str) == file) = true
  cell : ∃ (cl : Value) (cld : Option Addr) (csl : Array (Option Value)), K.lookup cc = some ⟨cl, cld, .cell (some (.ref D)), csl⟩
  kp : PySem.W.keepIn K (.ref f) = true
  ar : ∃ ar, ((defArgs st).posonlyargs ++ (defArgs st).args).head? = some ar ∧ ar.arg = "self"
/-- what of the classes: x's class C has D above it, m behind D is f2 -/
structure SupC (P : Program) (K : PySem.W.Frag) (mg : Str → Option Value) (C D : Addr) : Prop where
  cls : ∃ cd, PySem.W.clsIn K D = some cd
  sub : PySem.W.mroIn K C (.ref D) = some true
  op : PySem.W.nsIn K cStatics "thirdparty.any" = some none
  ng : mg "super" = none
  top : (P.main.scope.names.lookup ("super" : Str)).isSome = false
structure SupM (K : PySem.W.Frag) (C D : Addr) (m : Str) (f2 : Addr) : Prop where
  at_ : PySem.W.ks_superIn K C D m = some (some (.ref f2))
  ty : PySem.W.typeIn K (.ref f2) = some (.type "function")
  fi : PySem.W.fnIn K f2 = true
abbrev supN (x qual : Str) (st : Stmt) (cda cc : Addr) : NF := ⟨x, qual, defArgs st, defBody st, defScope st, [("__class__", cc)], cda⟩
/-- super().m(..): self's method of the next class -/
def tSup (i : Nat) (C : Addr) (sp : Sp) (E : XK) (ta : TA) : TS := fun D σ H => ∃ p dx fs, σ[i]? = some (some (.ref p)) ∧ H p = some (.ins C dx fs) ∧ ta σ H fun vs H2 => sp (.ref p :: vs) H2 (fun _ H3 => D.nx σ H3) E
section
variable {P : Program} {w : World} {K : PySem.W.Frag} {mg : Str → Option Value} {base : Heap} {N : List Str} {x qual : Str} {st : Stmt} {f cda cc D C f2 : Addr} {fd : FuncData} {A : Around} {outer : List Env} {s0 : Shared} {H0 : Hp} {E0 : XK}
abbrev supX (P : Program) (w : World) (K : PySem.W.Frag) (mg : Str → Option Value) (base : Heap) (N : List Str) (x qual : Str) (st : Stmt) (cda cc f : Addr) (A : Around) (outer : List Env) (s0 : Shared) (H0 : Hp) (E0 : XK) : Cx := ncx (L2.CX P w) P w K mg base N (supN x qual st cda cc) f A outer s0 H0 E0
theorem sup_base {m : Str} {p0 p1 : Pos} {body : List Stmt} {whole : Sem Value} {pins : List (Addr × Obj)} {σ : L2.St} {H : Hp} {s : Shared} {i : Nat} {p dx : Addr} {fs : List (Str × V)} {Q : Value → Shared → Prop} (F : SupF P K x qual st f cda cc D fd) (S : SupC P K mg C D) (hi : N[i]? = some "self")
    (hks : (defScope st).names.lookup ("super" : Str) = some .globalImplicit) (hkc : (defScope st).names.lookup ("__class__" : Str) = some .free) (hka : (defScope st).names.lookup ("self" : Str) = some .local) (hk : (defScope st).kind = .function) (hat : (m == ("__class__" : Str)) = false)
    (I : Inv (supX P w K mg base N x qual st cda cc f A outer s0 H0 E0) pins σ H s) (hs : σ[i]? = some (some (.ref p))) (hp : H p = some (.ins C dx fs))
    (h : ∀ so s', Inv (supX P w K mg base N x qual st cda cc f A outer s0 H0 E0) ((so, PySem.W.ks_superObj D p C) :: pins) σ H s' → Q (.ref so) s') :
    _root_.PySem.wpAt (model P w) (supX P w K mg base N x qual st cda cc f A outer s0 H0 E0).A (.func body (supX P w K mg base N x qual st cda cc f A outer s0 H0 E0).env) (attributeBase (.Call (.Name "super" p0) [] [] p1) m (supX P w K mg base N x qual st cda cc f A outer s0 H0 E0).env whole) Q (supX P w K mg base N x qual st cda cc f A outer s0 H0 E0).xe s := by
  have KX : K.In s.heap := I.kIn
  obtain ⟨oc, od, kV, doc, pm, an, ct, osl, rfl, lk⟩ := F.ex
  obtain ⟨ccl, cdd, vs, ccs, file, tf, hcode, hvs, hfile⟩ := F.file
  obtain ⟨cl, cld, csl, hcell⟩ := F.cell
  obtain ⟨ar, har, har2⟩ := F.ar
  obtain ⟨cdD, hD⟩ := S.cls
  obtain ⟨oD, hD1, hD2⟩ : ∃ oD, s.heap.get? D = some oD ∧ oD.data = .cls cdD := by
    unfold PySem.W.clsIn at hD
    split at hD
    · rename_i c d cd' sl ho
      cases hD
      exact ⟨_, KX _ _ ho, rfl⟩
    · cases hD
  refine ks_wpAt_super_base (env := (supX P w K mg base N x qual st cda cc f A outer s0 H0 E0).env) hks hkc hat rfl (KX _ _ lk) rfl har rfl (KX _ _ hcode) rfl hvs hfile S.top ?_
  obtain ⟨mb, hmb, hmbb⟩ := I.mod.blt
  refine PySem.W.ks_loadName_global hk hks (Calls.loadGlobal_builtin (env := (supX P w K mg base N x qual st cda cc f A outer s0 H0 E0).env) (I.mod.glob.keeps I.bk) S.ng (hmb.keeps I.bk) ((hmbb _ (by decide +kernel)).trans (by kernel_rfl)) ⟨rfl, ?_⟩)
  refine wpAny_loadName_free hk hkc rfl ⟨_, KX _ _ hcell, rfl⟩ ?_
  obtain ⟨ml, hns, hl⟩ := I.loc
  obtain ⟨u, ru, lu⟩ := hl i "self" (.ref p) hi hs (.inl hka)
  obtain rfl : u = Value.ref p := ru
  have hm : ml "self" = some (.ref p) := by
    rcases lu with ⟨_, z⟩ | ⟨z, _⟩
    · exact z
    · have : (defScope st).names.lookup ("self" : Str) = some .cell ∨ (defScope st).names.lookup ("self" : Str) = some .free := z
      rw [hka] at this
      rcases this with z | z <;> cases z
  rw [har2]
  refine wpAny_loadName_local hk hka hns hm ?_
  refine ks_wpAny_isType_cls hD1 hD2 ⟨rfl, ?_⟩
  obtain ⟨mA, O, _, _, _, _⟩ := ins_get I.hok hp
  obtain ⟨odd, J, _⟩ := O.look
  refine ks_wpAny_call_super hD1 hD2 J.at_ J.cls (fun c e => ?_) (PySem.W.looks_mroIn KX S.sub) (fun h' e k => ?_)
  · have := J.no
    unfold PySem.W.notCls at this
    rw [e] at this
    exact Bool.noConfusion this
  · exact h _ _ (pin_new (t' := s.toks) I k (Nat.le_refl _) e (fun v z => nomatch z))
theorem sup_meth {m : Str} {pl : Sem Bool} {pins : List (Addr × Obj)} {σ : L2.St} {H : Hp} {s : Shared} {p dx so : Addr} {fs : List (Str × V)} {Q : Value × List Value → Shared → Prop} {X : Cx} {E : Value → Shared → Prop} {A : Around} (S : SupC X.prog X.K X.mg C D) (M : SupM X.K C D m f2) (hat : (m == ("__class__" : Str)) = false)
    (I : Inv X ((so, PySem.W.ks_superObj D p C) :: pins) σ H s) (hp : H p = some (.ins C dx fs))
    (h : ∀ q s', X.base.get? q = none → Inv X ((q, PySem.W.methodObj (.ref f2) (.ref p)) :: pins) σ H s' → Q (.ref q, []) s') : wpAny (model X.prog X.w) A (getMethod (.ref so) m pl) Q E s := by
  have KX : X.K.In s.heap := I.kIn
  obtain ⟨mA, O, _, _, _, _⟩ := ins_get I.hok hp
  obtain ⟨odd, J, _⟩ := O.look
  have hm := M.at_
  cases hc : PySem.W.clsIn X.K C with
  | none => unfold PySem.W.ks_superIn at hm; rw [hc] at hm; cases hm
  | some cd =>
    unfold PySem.W.ks_superIn at hm
    rw [hc] at hm
    obtain ⟨of, hof, hofc⟩ : ∃ of, s.heap.get? f2 = some of ∧ of.cls = .type "function" := by
      have ht' : (X.K.lookup f2).map (·.cls) = some (.type "function") := M.ty
      cases z : X.K.lookup f2 with
      | none => rw [z] at ht'; cases ht'
      | some of => rw [z] at ht'; exact ⟨of, KX _ _ z, Option.some.inj ht'⟩
    refine ks_wpAny_getMethod_super (h := s.heap) (g := s.gens) (d := s.drawn) (t := s.toks) (os := s.os) (pin_at I) (PySem.W.looks_opaque KX S.op) (l₀ := cd.mro) ?_ rfl KX hm hof hofc (PySem.W.ks_ne KX J hc) hat ?_
    · exact fun A Q E s k q => wpAny_bind ((PySem.W.looks_clsIn KX hc) A _ E s k (wpAny_pure q))
    · exact h _ _ (base_none I (Nat.le_refl _)) (met_new (unpin I))

theorem psa_sup {m : Str} {p0 p1 apos pos spos : Pos} {e : Expr} {es : List Expr} {body : List Stmt} {i j k : Nat} {sp : Sp} {E : XK} {ta : TA} {pl : Sem Bool} (F : SupF P K x qual st f cda cc D fd) (S : SupC P K mg C D) (M : SupM K C D m f2) (G : AtX P w K mg base k f2 sp) (hi : N[i]? = some "self")
    (hks : (defScope st).names.lookup ("super" : Str) = some .globalImplicit) (hkc : (defScope st).names.lookup ("__class__" : Str) = some .free) (hka : (defScope st).names.lookup ("self" : Str) = some .local) (hk : (defScope st).kind = .function) (hat : (m == ("__class__" : Str)) = false)
    (hr : Room j (supX P w K mg base N x qual st cda cc f A outer s0 H0 E0).A) (hkj : k ≤ j) (hx : Passes (L2.CX P w) (supX P w K mg base N x qual st cda cc f A outer s0 H0 E0) E)
    (ha : PA (supX P w K mg base N x qual st cda cc f A outer s0 H0 E0) (e :: es) ta)
    (hst : starEach (e :: es) (supX P w K mg base N x qual st cda cc f A outer s0 H0 E0).env = (false, eval e (supX P w K mg base N x qual st cda cc f A outer s0 H0 E0).env) :: starEach es (supX P w K mg base N x qual st cda cc f A outer s0 H0 E0).env := by rfl) (hpl : (backTo pos (starEach es (supX P w K mg base N x qual st cda cc f A outer s0 H0 E0).env)).any (·.1) = false := by rfl)
    (hint : interactive (supX P w K mg base N x qual st cda cc f A outer s0 H0 E0).env = false := by rfl)
    (he : ∀ env : Env, eval (.Call (.Attribute (.Call (.Name "super" p0) [] [] p1) m apos) (e :: es) [] pos) env = (do
      let ov ← attributeBase (.Call (.Name "super" p0) [] [] p1) m env (eval (.Call (.Name "super" p0) [] [] p1) env)
      standAt apos.atName
      let (f, first) ← holding [ov] (getMethod ov m pl)
      callWith pos f first (backTo pos (starEach (e :: es) env)) []) := by intro env; rfl)
    (hsw : ∀ env : Env, swapsWith (.Call (.Attribute (.Call (.Name "super" p0) [] [] p1) m apos) (e :: es) [] pos) none spos.line env = pure false := by intro env; rfl) :
    PSA (supX P w K mg base N x qual st cda cc f A outer s0 H0 E0) body (.Expr (.Call (.Attribute (.Call (.Name "super" p0) [] [] p1) m apos) (e :: es) [] pos) spos) (tSup i C sp E ta) := by
  refine ⟨fun pins s σ H D' I h => ?_⟩
  obtain ⟨p, dx, fs, hs, hp, h⟩ := h
  refine ks_wpAt_Expr_any ?_ hint (hsw _)
  refine ks_wpAt_MethodCall (pl := pl) ?_ (he _)
  refine sup_base F S hi hks hkc hka hk hat I hs hp fun so s1 I1 => ?_
  refine sup_meth (X := supX P w K mg base N x qual st cda cc f A outer s0 H0 E0) S M hat I1 hp fun q s2 hb I2 => ?_
  refine callwith_cm I2 hb M.fi (thn (ha.run pos _ s2 σ H _ I2 h) fun us s3 ⟨vs, H3, I3, r, q3⟩ => ⟨⟨pin_at I3, I3.kIn⟩, ?_⟩) hst hpl
  refine thn (run_cm (C := p) (atx_fnR G) (hr.mono hkj) hx I3 r q3) fun u s4 ⟨v, H4, I4, rv, q4⟩ => ?_
  exact ⟨σ, H4, I4, q4⟩
theorem psa_sup0 {m : Str} {p0 p1 apos pos spos : Pos} {body : List Stmt} {i j k : Nat} {sp : Sp} {E : XK} {pl : Sem Bool} (F : SupF P K x qual st f cda cc D fd) (S : SupC P K mg C D) (M : SupM K C D m f2) (G : AtX P w K mg base k f2 sp) (hi : N[i]? = some "self")
    (hks : (defScope st).names.lookup ("super" : Str) = some .globalImplicit) (hkc : (defScope st).names.lookup ("__class__" : Str) = some .free) (hka : (defScope st).names.lookup ("self" : Str) = some .local) (hk : (defScope st).kind = .function) (hat : (m == ("__class__" : Str)) = false)
    (hr : Room j (supX P w K mg base N x qual st cda cc f A outer s0 H0 E0).A) (hkj : k ≤ j) (hx : Passes (L2.CX P w) (supX P w K mg base N x qual st cda cc f A outer s0 H0 E0) E)
    (hint : interactive (supX P w K mg base N x qual st cda cc f A outer s0 H0 E0).env = false := by rfl)
    (he : ∀ env : Env, eval (.Call (.Attribute (.Call (.Name "super" p0) [] [] p1) m apos) [] [] pos) env = (do
      let ov ← attributeBase (.Call (.Name "super" p0) [] [] p1) m env (eval (.Call (.Name "super" p0) [] [] p1) env)
      standAt apos.atName
      let (f, first) ← holding [ov] (getMethod ov m pl)
      callWith pos f first (backTo pos (starEach [] env)) []) := by intro env; rfl)
    (hsw : ∀ env : Env, swapsWith (.Call (.Attribute (.Call (.Name "super" p0) [] [] p1) m apos) [] [] pos) none spos.line env = pure false := by intro env; rfl) :
    PSA (supX P w K mg base N x qual st cda cc f A outer s0 H0 E0) body (.Expr (.Call (.Attribute (.Call (.Name "super" p0) [] [] p1) m apos) [] [] pos) spos) (tSup i C sp E tNil) := by
  refine ⟨fun pins s σ H D' I h => ?_⟩
  obtain ⟨p, dx, fs, hs, hp, h⟩ := h
  refine ks_wpAt_Expr_any ?_ hint (hsw _)
  refine ks_wpAt_MethodCall (pl := pl) ?_ (he _)
  refine sup_base F S hi hks hkc hka hk hat I hs hp fun so s1 I1 => ?_
  refine sup_meth (X := supX P w K mg base N x qual st cda cc f A outer s0 H0 E0) S M hat I1 hp fun q s2 hb I2 => ?_
  refine PySem.W.callWith_M0 ⟨pin_at I2, I2.kIn⟩ M.fi ?_
  refine thn (run_cm (C := p) (atx_fnR G) (hr.mono hkj) hx I2 .nil h) fun u s4 ⟨v, H4, I4, rv, q4⟩ => ?_
  exact ⟨σ, H4, I4, q4⟩

/-- THE RULE for such a def -/
theorem atS {ps : List Str} {k : Nat} {sp : Sp} (F : SupF P K x qual st f cda cc D fd) (S : NScope N ps ["__class__"] (defScope st))
    (hb : ∀ (kV doc pm : Value) (an : Option Addr) (ct : Value) (us : List Value), us.length = ps.length → bindArgs (PySem.W.ksFn x qual (defArgs st) (defBody st) (defScope st) .none kV doc pm an (.ref cda) ct cc) ⟨us, []⟩ = pure (ps.zip us))
    (len : ∀ vs H Q E, sp vs H Q E → vs.length = ps.length)
    (hbody : ∀ (A : Around) (outer : List Env) (s : Shared) (H : Hp) (vs : List V) (Q : VK) (E : XK), Room k (supX P w K mg base N x qual st cda cc f A outer s H E).A → Takes (supX P w K mg base N x qual st cda cc f A outer s H E) (fun cls d _ H => E cls d H) → sp vs H Q E →
      ∃ t, PSAs (supX P w K mg base N x qual st cda cc f A outer s H E) (defBody st) (defBody st) t ∧ t { nx := fun _ H' => Q .non H', rt := Q } (startF N vs [none]) H) : AtX P w K mg base (k + 1) f sp := by
  obtain ⟨oc, od, kV, doc, pm, an, ct, osl, hfd, lk⟩ := id F.ex
  obtain ⟨cl, cld, csl, hcell⟩ := id F.cell
  refine ⟨fd, ps, ⟨len, fun A outer s H args us vs Q E hr e0 hbi r hsp => ?_⟩, F.kp, ?_⟩
  · have hl := len _ _ _ _ hsp
    have KX : K.In s.heap := e0.mod.kin.keeps fun b o e => (e0.bs b o e).1
    have lim : s.heap.NoLimit := e0.mod.nolimit.keeps fun b o e => (e0.bs b o e).1
    subst hfd
    refine ks_codeAny_call_defAt (fd := PySem.W.ksFn x qual (defArgs st) (defBody st) (defScope st) .none kV doc pm an (.ref cda) ct cc) (body := defBody st) (binds := ps.zip us) hr.depth (KX _ _ lk) rfl lim (PySem.W.codeRec_of KX F.co) rfl hbi S.nocell (fun ⟨n, _⟩ hy => S.par n (List.of_mem_zip hy).1) (fun h₁ hns kp => ?_) S.co S.gen S.kind
    have C : CellsAt (supN x qual st cda cc).cl ["__class__"] [none] s.heap H := by
      have key : ∀ (y : Str) (c : Addr), (supN x qual st cda cc).cl.lookup y = some c → y = "__class__" ∧ c = cc := by
        intro y c e
        have e' : (if y == "__class__" then some cc else none) = some c := by
          rw [← e]
          show _ = List.lookup y [(("__class__" : Str), cc)]
          rw [List.lookup_cons]
          split <;> rename_i z <;> simp [z]
        by_cases z : y == "__class__"
        · rw [if_pos z] at e'
          cases e'
          exact ⟨eq_of_beq z, rfl⟩
        · rw [if_neg z] at e'
          cases e'
      refine ⟨rfl, fun y c e => ?_, fun a b c e1 e2 => (key a c e1).1.trans (key b c e2).1.symm, fun i y e => ?_⟩
      · obtain ⟨_, rfl⟩ := key y c e
        have hb' := e0.bs _ _ (e0.mod.kin _ _ hcell)
        exact ⟨hb'.2, _, ⟨_, hb'.1, rfl⟩⟩
      · match i, e with
        | 0, e =>
          cases e
          exact ⟨cc, by simp, fun v ev => by simp at ev⟩
        | (n + 1), e => cases e
    have I : Inv (supX P w K mg base N x qual st cda cc f A outer s H E) [] (startF N vs [none]) H { s with heap := h₁, toks := s.toks + (ps.zip us).length } := inv_startN S hr.hd e0 hl r C hns kp
    obtain ⟨t, ht, hq⟩ := hbody A outer s H vs Q E (hr.deeper _) (takes_of rfl rfl rfl rfl) hsp
    refine ks_wpAt_mono (ht.run [] _ (startF N vs [none]) H _ I hq) (fun fl s' hs => ?_) fun e s' hs => hs
    have fin : ∀ {σ' : L2.St} {H' : Hp} {v : V} {u : Value}, Inv (supX P w K mg base N x qual st cda cc f A outer s H E) [] σ' H' s' → L2.RelV v u → Q v H' → CE outer P w H s Q u s' :=
      fun {σ' H' v u} J rv q => ⟨v, H', J.os, J.bare, J.base, J.hok, rv, q⟩
    cases fl with
    | ret u =>
      obtain ⟨v, σ', H', J, rv, q⟩ := hs
      exact fin J rv q
    | next =>
      obtain ⟨σ', H', J, q⟩ := hs
      exact fin (v := V.non) (u := Value.none) J rfl q
    | brk =>
      obtain ⟨_, _, _, q⟩ := hs
      exact False.elim q
    | cont =>
      obtain ⟨_, _, _, q⟩ := hs
      exact False.elim q
  · subst hfd
    exact .all (hb kV doc pm an ct)
end
end BXU
end
section
set_option Elab.async false
set_option linter.all false
set_option maxRecDepth 100000
set_option maxHeartbeats 4000000
namespace BX
open PySem PySem.Spec PyProof.Rows L2 ClX NdefX BXU
/-! ### FixedRoom: put, join, __init__ -/
theorem put_non {K : PySem.W.Frag} {ad : Ad} {C : Addr} {fx : List (Str × V)} {H : Hp} {p dx : Addr} {Q : VK} {E : XK} {fix : Bool} {st : Rm} {u n : Str} {r : Rgn} (h : RmRes K ad C fx H p dx Q E (putM fix st u n r)) : RmRes K ad C fx H p dx (fun _ H' => Q .non H') E (putM fix st u n r) := by
  unfold putM at h ⊢
  split <;> rename_i z
  · rw [if_pos z] at h
    exact h
  · rw [if_neg z] at h
    exact h
theorem join_non {K : PySem.W.Frag} {ad : Ad} {C : Addr} {fx : List (Str × V)} {H : Hp} {p dx : Addr} {Q : VK} {E : XK} {fix : Bool} {st : Rm} {u n : Str} {r : Rgn} (h : RmRes K ad C fx H p dx Q E (joinM fix st u n r)) : RmRes K ad C fx H p dx (fun _ H' => Q .non H') E (joinM fix st u n r) := by
  unfold joinM at h ⊢
  cases g : getM st.kept n with
  | none =>
    rw [g] at h
    exact h
  | some k =>
    rw [g] at h
    dsimp only at h ⊢
    split <;> rename_i z
    · rw [if_pos z] at h
      exact h
    · rw [if_neg z] at h
      exact h
abbrev fiveC : List Str := ["self", "user", "name", "region", "__class__"]
theorem scFPut : NScope fiveC four ["__class__"] (defScope (mth sFix 3)) := nscope_by (by decide +kernel)
theorem scFJoin : NScope fiveC four ["__class__"] (defScope (mth sFix 4)) := nscope_by (by decide +kernel)
theorem scFInit : NScope ["self", "frame", "__class__"] ["self", "frame"] ["__class__"] (defScope (mth sFix 0)) := nscope_by (by decide +kernel)
section
variable {P : Program} {w : World} {K : PySem.W.Frag} {mg : Str → Option Value} {base : Heap} {f cda cc C f2 fC : Addr} {fd : FuncData} {ad : Ad}
theorem ok_fput (F : SupF P K "put" "FixedRoom.put" (mth sFix 3) f cda cc C fd) (S : SupC P K mg C C) (M : SupM K C C "put" f2) (G : AtX P w K mg base 10 f2 (spPut K ad C true)) : AtX P w K mg base 11 f (spPut K ad C true) := by
  refine atS F scFPut (fun _ _ _ _ _ us hl => match us, hl with | [_, _, _, _], _ => rfl) (fun vs H Q E h => ?_) (fun A outer s H vs Q E hr tk h => ?_)
  · obtain ⟨p, dx, d, l, fx, st, u, n, v, r, rfl, _⟩ := h
    rfl
  · obtain ⟨p, dx, d, l, fx, st, u, n, v, r, rfl, hR, wu, wn, hv, k⟩ := h
    refine ⟨_, psas_one (psa_sup (i := 0) F S M G (by rfl) (by decide +kernel) (by decide +kernel) (by decide +kernel) (by rfl) (by decide) hr (by omega) (passes_call tk fun _ _ _ _ z => z) (pa_cons (pv 1) (pa_cons (pv 2) (pa_cons (pv 3) pa_nil)))), ?_⟩
    exact ⟨p, dx, _, rfl, hR.at_.obj, _, rfl, _, rfl, _, rfl, p, dx, d, l, fx, st, u, n, v, r, rfl, hR, wu, wn, hv, put_non k⟩
theorem ok_fjoin (F : SupF P K "join" "FixedRoom.join" (mth sFix 4) f cda cc C fd) (S : SupC P K mg C C) (M : SupM K C C "join" f2) (G : AtX P w K mg base 10 f2 (spJoin K ad C true)) : AtX P w K mg base 11 f (spJoin K ad C true) := by
  refine atS F scFJoin (fun _ _ _ _ _ us hl => match us, hl with | [_, _, _, _], _ => rfl) (fun vs H Q E h => ?_) (fun A outer s H vs Q E hr tk h => ?_)
  · obtain ⟨p, dx, d, l, fx, st, u, n, v, r, rfl, _⟩ := h
    rfl
  · obtain ⟨p, dx, d, l, fx, st, u, n, v, r, rfl, hR, wu, wn, hv, k⟩ := h
    refine ⟨_, psas_one (psa_sup (i := 0) F S M G (by rfl) (by decide +kernel) (by decide +kernel) (by decide +kernel) (by rfl) (by decide) hr (by omega) (passes_call tk fun _ _ _ _ z => z) (pa_cons (pv 1) (pa_cons (pv 2) (pa_cons (pv 3) pa_nil)))), ?_⟩
    exact ⟨p, dx, _, rfl, hR.at_.obj, _, rfl, _, rfl, _, rfl, p, dx, d, l, fx, st, u, n, v, r, rfl, hR, wu, wn, hv, join_non k⟩

/-- a def that raises nothing (told under wants of exceptions) -/
theorem atx_at {k : Nat} {sp : Sp} (a : AtX P w K mg base k f sp) (h : ∀ vs H Q E, sp vs H Q E → sp vs H Q C8.E0) : At P w K mg base k f sp := by
  obtain ⟨fd, ps, F, kp, b⟩ := a.ex
  refine ⟨fd, ps, ⟨F.len, fun A outer s H args us vs Q E hr e0 hb r hs => codeAny_mono (F.run A outer s H args us vs Q C8.E0 hr e0 hb r (h _ _ _ _ hs)) fun res s' q => ?_⟩, kp, b⟩
  cases res with
  | error e =>
    obtain ⟨a, B, H', cls, d, _, _, _, _, _, _, _, z⟩ := q
    exact z.elim
  | ok fl => cases fl <;> exact q
theorem ok_finit (F : SupF P K "__init__" "FixedRoom.__init__" (mth sFix 0) f cda cc C fd) (S : SupC P K mg C C) (M : SupM K C C "__init__" f2) (R : RmC K C) (no : NoAttr K C "own_frame") (CB : C8.Cal P w K mg base 4 "check_box" (spChkB K) []) (G : At P w K mg base 1 f2 (spRmInit K ad.CR C)) : At P w K mg base 5 f (spFInit K ad.CR C) := by
  refine atx_at (atS F scFInit (fun _ _ _ _ _ us hl => match us, hl with | [_, _], _ => rfl) (fun vs H Q E h => ?_) (fun A outer s H vs Q E hr tk h => ?_)) fun _ _ _ _ z => z
  · obtain ⟨p, dx, t, rfl, _⟩ := h
    rfl
  · obtain ⟨p, dx, t, rfl, hp, ht, k⟩ := h
    refine ⟨_, psas_cons (psa (ps_expr (C8.pe_c CB hr (by omega) (by rfl) (pa_cons (pv 1) pa_nil))))
      (psas_cons (psa_sup0 (i := 0) F S M G.toX (by rfl) (by decide +kernel) (by decide +kernel) (by decide +kernel) (by rfl) (by decide) hr (by omega) passE0)
      (psas_one (psa (ps_fld (pv 0) (pv 1) rfl)))), ?_⟩
    refine ⟨_, rfl, t, b0, rfl, ht, by decide, by decide, fun H1 s1 => ⟨p, dx, _, rfl, s1 _ _ hp, p, dx, rfl, s1 _ _ hp, fun d l H2 kp r => ?_⟩⟩
    obtain ⟨⟨kvs, hd, hk⟩, xs, hl, hlog⟩ := r.ex
    cases hk
    cases hlog
    have hdp : d ≠ p := ne_of hd r.obj (by intro z; cases z)
    have hlp : l ≠ p := ne_of hl r.obj (by intro z; cases z)
    refine ⟨_, rfl, _, rfl, p, C, dx, _, rfl, r.obj, R.i.cl, no, by show 2 < 1000; decide, ?_⟩
    exact k d l _ (fun b o hb e => by rw [upd_ne hb]; exact kp b o hb (s1 b o e)) ⟨upd_same, .inr ⟨_, rfl⟩, ⟨[], by rw [upd_ne hdp]; exact hd, .nil⟩, [], by rw [upd_ne hlp]; exact hl, .nil⟩
end
end BX
end
section
set_option Elab.async false
set_option linter.all false
set_option maxRecDepth 100000
set_option maxHeartbeats 4000000
/-! try .. except X as n .. except Y: clauses with and without names -/
namespace BXT
open PySem PySem.Spec PyProof.Rows L2
abbrev Cls1 := Value × Option Nat × (Addr → Value → Option Addr → TS)
def goneD (i : Nat) (D : Ends) : Ends := { nx := fun σ' H' => D.nx (σ'.set i none) H', rt := D.rt, bk := fun σ' H' => D.bk (σ'.set i none) H', ct := fun σ' H' => D.ct (σ'.set i none) H' }
def runC (o : Option Nat) (ts : Addr → Value → Option Addr → TS) (a : Addr) (cls : Value) (d : Option Addr) (D : Ends) (σ : L2.St) (H : Hp) : Prop := match o with
  | none => ts a cls d D σ H
  | some i => ts a cls d (goneD i D) (σ.set i (some (.ref a))) H
/-- what the clauses wish of an exception of the body, one after the other -/
def wManyA (K : PySem.W.Frag) (Wout : WX) (D : Ends) : List Cls1 → WX
  | [] => Wout
  | (c, o, ts) :: r => fun cls d σ H => ∃ b, PySem.W.exmOne K cls c = some b ∧ (b = true → ∀ a, H a = none → runC o ts a cls d D σ H) ∧ (b = false → wManyA K Wout D r cls d σ H)
inductive HdsA (X : Cx) : List ExceptHandler → List Cls1 → Prop
  | nil : HdsA X [] []
  | cons {x : Str} {c : Value} {ts : Addr → Value → Option Addr → TS} {b₀ : Stmt} {suite : List Stmt} {np pos' : Pos} {hds : List ExceptHandler} {l : List Cls1} (hc : Names X x c)
      (hsu : ∀ (a : Addr) (oe : Obj) (cls : Value) (d : Option Addr) (pn : List (Addr × Obj)), Zc cls d oe → (∃ vs, oe.data = .fields vs) → PSs (X.suite a ((a, oe) :: pn)) (b₀ :: suite) (ts a cls d)) (r : HdsA X hds l) :
      HdsA X (.ExceptHandler (some (.Name x np)) none (b₀ :: suite) pos' :: hds) ((c, none, ts) :: l)
  | consAs {x n : Str} {i : Nat} {c : Value} {ts : Addr → Value → Option Addr → TS} {b₀ : Stmt} {suite : List Stmt} {np pos' : Pos} {hds : List ExceptHandler} {l : List Cls1} (hc : Names X x c) (hi : X.N[i]? = some n) (hln : X.env.kindOf n = some .local)
      (hsu : ∀ (a : Addr) (oe : Obj) (cls : Value) (d : Option Addr) (pn : List (Addr × Obj)), Zc cls d oe → (∃ vs, oe.data = .fields vs) → PSs (X.suite a ((a, oe) :: pn)) (b₀ :: suite) (ts a cls d)) (r : HdsA X hds l) :
      HdsA X (.ExceptHandler (some (.Name x np)) (some n) (b₀ :: suite) pos' :: hds) ((c, some i, ts) :: l)
section
variable {X : Cx} {body : List Stmt} {h₀ : ExceptHandler} {hds : List ExceptHandler} {l : List Cls1} {pos : Pos} {tb : WX → TS} {Wout : WX}
theorem ps_try_A (hs : X.stack = X.env :: X.outer) (hf : X.env.frame = some X.env.locals) (hN : X.N.Nodup) (tk : Takes X Wout)
    (hb : ∀ (W : WX) (pn : List (Addr × Obj)) (xe : Value → Shared → Prop), Takes (X.tr pn xe) W → PassesOwn (model X.prog X.w) X.A X.env xe → PSs (X.tr pn xe) body (tb W))
    (hh : HdsA X (h₀ :: hds) l) : PS X (.Try body (h₀ :: hds) [] [] pos) (fun D σ H => tb (wManyA X.K Wout D l) D σ H) := by
  refine ⟨fun pins s σ H D I h => ?_⟩
  have ok := I.ok
  have hfr : X.A.frames = some (X.env :: X.outer) := by rw [ok.frames, hs]
  refine wpAny_Try_except ?_
  refine wpAny_mono ((hb (wManyA X.K Wout D l) (X.pn ++ pins) (fun e s₁ => wpAny (model X.prog X.w) X.A (noteFrame e X.env) (fun _ s₂ => wpAny (model X.prog X.w) X.A (setFlight e none) (fun _ s₃ =>
    wpAny (model X.prog X.w) X.A (handleBy e X.env (h₀ :: hds)) (SP X pins D) X.xe s₃) X.xe s₂) X.xe s₁) (fun u s' xx => ?_) PassesOwn.looking).run [] s σ H D (I.toTry _) h) (fun f s1 hsp => ?_) (fun e s1 he => he)
  · -- the catch
    obtain ⟨a, B, sI, pins', σ', H', cls, d, rfl, J', nb, up, sky, na, os, ag, w⟩ := xx
    have J : Inv X pins σ' H' sI := J'.ofTry ok
    have sky' : Sky B (X.env :: X.outer) a (Zc cls d) X.env.locals s'.heap := by rw [← hs]; exact sky
    show wpAny (model X.prog X.w) X.A (noteFrame (.ref a) X.env) _ _ _
    refine Sky.land Zc.steady hfr hf sky' fun h3 fl3 up3 => ?_
    have J3 : Inv X pins σ' H' { s' with heap := h3 } := J.landed nb fl3.1 (up.trans up3) os ag
    obtain ⟨oe3, vs3, he3, hz3, hd3⟩ := fl3.there
    have notFr : ∀ {h : Heap} {o : Obj} {vs : Array Value}, h.FunFrames B (X.env :: X.outer) → h.get? a = some o → o.data = .fields vs → a ∉ frs (X.env :: X.outer) := fun {h o vs} ff e dd hm => by
      obtain ⟨_, o', e', hnf⟩ := ff.mem hm
      rw [e] at e'; cases e'
      exact hnf _ dd
    have nfr := notFr fl3.2.2.1 he3 hd3
    have nL : a ≠ X.env.locals := fun z => nfr (List.mem_filterMap.mpr ⟨X.env, List.mem_cons_self, by rw [hf, z]⟩)
    have nF : a ∉ X.fs := fun hm => by
      obtain ⟨e, he, q⟩ := List.mem_filterMap.mp hm
      exact nfr (List.mem_filterMap.mpr ⟨e, List.mem_cons_of_mem _ he, q⟩)
    have S3 := J3.suite he3 hd3 na nL nF
    have LT : PySem.W.Looks (model X.prog X.w) h3 (typeOf (.ref a)) cls := fun A Q E s k q => wpAny_typeOf_ref (k _ _ he3) (by rw [hz3.1]; exact q)
    have test : ∀ {x : Str} {c : Value} {np : Pos} {Q : Value → Shared → Prop} {E : Value → Shared → Prop}, Names X x c → Q c { s' with heap := h3 } → wpAny (model X.prog X.w) (X.A.mark (some (.ref a))) (eval (.Name x np) X.env) Q E { s' with heap := h3 } := fun {x c np Q E} hc q => by
      obtain ⟨hg, hdbg, hm | ⟨hm, hv, hnn⟩⟩ := hc
      · exact ld_glob (X := X.suite a ((a, oe3) :: (X.pn ++ pins))) S3 hg hm q hdbg
      · exact ld_blt (X := X.suite a ((a, oe3) :: (X.pn ++ pins))) S3 hg hm hv q hnn hdbg
    have go : ∀ {hds' : List ExceptHandler} {l' : List Cls1}, HdsA X hds' l' → wManyA X.K Wout D l' cls d σ' H' →
        wpAny (model X.prog X.w) X.A (handleBy (.ref a) X.env hds') (SP X pins D) X.xe { s' with heap := h3 } := by
      intro hds' l' hk
      induction hk with
      | nil =>
        intro w
        refine wpAny_handleBy_nil ?_
        obtain ⟨k1, k2, k3, oe, vs, T, oT, ts', he, hz, hd, h1, hr⟩ := id fl3
        unfold PySem.passOn
        refine wpAny_bind (wpAny_field he hd h1 ?_)
        rw [if_neg (show ¬ ((Value.ref T == Value.none) = true) from by simp)]
        have fin : wpAny (model X.prog X.w) X.A (setFlight (.ref a) X.env.frame) (fun _ s4 => wpAny (model X.prog X.w) X.A (throw (.ref a) : Sem Flow) (SP X pins D) X.xe s4) X.xe { s' with heap := h3 } := by
          rw [hf]
          refine HandSPX.setFlight_upZ fl3 fun h4 hh4 up4 => wpAny_throw (tk _ _ ?_)
          exact ⟨a, B, sI, pins, σ', H', cls, d, rfl, J, nb, (up.trans up3).trans up4, .inr (.inr (by rw [hs]; exact hh4)), na, os, ag, w⟩
        first
          | exact wpAny_bind (wpAny_pure (wpAny_bind fin))
          | exact wpAny_bind fin
      | @cons x c ts b₀ suite np pos' hds2 l2 hc hsu r ih =>
        intro w
        obtain ⟨b, hb1, hyes, hno⟩ := w
        refine wpAny_handleBy_cons (codeAny_handlers_test ?_) (by intro q; cases q)
        have LM := PySem.W.exm_one (M := model X.prog X.w) (J3.kIn) LT hb1
        refine test hc (LM.here ?_)
        cases b with
        | true =>
          refine codeAny_handlers_suite ?_
          refine HandSPX.lands_againZ fl3 fun h4 fl4 up4 => ?_
          have J4 : Inv X pins σ' H' { s' with heap := h4 } := J.landed nb fl4.1 ((up.trans up3).trans up4) os ag
          obtain ⟨oe4, vs4, he4, hz4, hd4⟩ := fl4.there
          have S4 := J4.suite he4 hd4 na nL nF
          refine wpAny_mono ((hsu a oe4 cls d (X.pn ++ pins) hz4 ⟨_, hd4⟩).run [] _ _ H' _ S4 (hyes rfl a na)) (fun f s6 hsp => ?_) (fun _ _ z => False.elim z)
          cases f with
          | next =>
            obtain ⟨σ6, H6, S6, q6⟩ := hsp
            exact ⟨_, _, S6.unsuite ok, q6⟩
          | brk =>
            obtain ⟨σ6, H6, S6, q6⟩ := hsp
            exact ⟨_, _, S6.unsuite ok, q6⟩
          | cont =>
            obtain ⟨σ6, H6, S6, q6⟩ := hsp
            exact ⟨_, _, S6.unsuite ok, q6⟩
          | ret u =>
            obtain ⟨v6, σ6, H6, S6, r6, q6⟩ := hsp
            exact ⟨_, _, _, S6.unsuite ok, r6, q6⟩
        | false =>
          show wpAny _ X.A (handleBy (.ref a) X.env hds2) _ _ _
          exact ih (hno rfl)
      | @consAs x n i c ts b₀ suite np pos' hds2 l2 hc hi hln hsu r ih =>
        intro w
        obtain ⟨b, hb1, hyes, hno⟩ := w
        refine wpAny_handleBy_cons (codeAny_handlers_test ?_) (by intro q; cases q)
        have LM := PySem.W.exm_one (M := model X.prog X.w) (J3.kIn) LT hb1
        refine test hc (LM.here ?_)
        cases b with
        | true =>
          refine codeAny_handlers_suite_as ?_
          refine HandSPX.lands_againZ fl3 fun h4 fl4 up4 => ?_
          have J4 : Inv X pins σ' H' { s' with heap := h4 } := J.landed nb fl4.1 ((up.trans up3).trans up4) os ag
          obtain ⟨oe4, vs4, he4, hz4, hd4⟩ := fl4.there
          have S4 := J4.suite he4 hd4 na nL nF
          have hloc : Loc X.env.scope n := .inl hln
          refine store_ok (X := X.suite a ((a, oe4) :: (X.pn ++ pins))) (v := .ref a) S4 hN hi hloc rfl (fun s5 S5 => ?_) (.inr hln)
          refine wpAny_mono ((hsu a oe4 cls d (X.pn ++ pins) hz4 ⟨_, hd4⟩).run [] s5 _ H' _ S5 (hyes rfl a na)) (fun f s6 hsp => ?_) (fun _ _ z => False.elim z)
          have end_ : ∀ {σ6 : L2.St} {H6 : Hp} {Q : Shared → Prop}, Inv (X.suite a ((a, oe4) :: (X.pn ++ pins))) [] σ6 H6 s6 → (∀ s7, Inv X pins (σ6.set i none) H6 s7 → Q s7) →
              wpAny (model X.prog X.w) X.A (do bindName X.env n .none; unbindBehindTheSuite X.env n pos') (fun _ s7 => Q s7) X.xe s6 := fun {σ6 H6 Q} S6 hq => gone_ok (S6.unsuite ok) hN hi hln hq
          cases f with
          | next =>
            obtain ⟨σ6, H6, S6, q6⟩ := hsp
            exact end_ S6 fun s7 J7 => ⟨_, _, J7, q6⟩
          | brk =>
            obtain ⟨σ6, H6, S6, q6⟩ := hsp
            exact end_ S6 fun s7 J7 => ⟨_, _, J7, q6⟩
          | cont =>
            obtain ⟨σ6, H6, S6, q6⟩ := hsp
            exact end_ S6 fun s7 J7 => ⟨_, _, J7, q6⟩
          | ret u =>
            obtain ⟨v6, σ6, H6, S6, r6, q6⟩ := hsp
            exact end_ S6 fun s7 J7 => ⟨_, _, _, J7, r6, q6⟩
        | false =>
          show wpAny _ X.A (handleBy (.ref a) X.env hds2) _ _ _
          exact ih (hno rfl)
    exact go hh w
  · cases f with
    | next =>
      obtain ⟨σ', H', J', q⟩ := hsp
      exact wpAny_execs_nil ⟨σ', H', J'.ofTry ok, q⟩
    | brk =>
      obtain ⟨σ', H', J', q⟩ := hsp
      exact ⟨σ', H', J'.ofTry ok, q⟩
    | cont =>
      obtain ⟨σ', H', J', q⟩ := hsp
      exact ⟨σ', H', J'.ofTry ok, q⟩
    | ret u =>
      obtain ⟨v, σ', H', J', r, q⟩ := hsp
      exact ⟨v, σ', H', J'.ofTry ok, r, q⟩
end
end BXT
end
section
set_option Elab.async false
set_option linter.all false
set_option maxRecDepth 100000
set_option maxHeartbeats 4000000
/-! == and != by an own __eq__ (!= by object's), the right one first where it is of a subclass -/
namespace PySem.W
open PySem PySem.Spec PyProof.Rows PySem.Calls
section
variable {prog : Program} {w : World} {A : Around} {E : Value → Shared → Prop} {s : Shared} {K : Frag} {x C y D f : Addr} {ox oy : Obj} {od od2 : Option Obj} {b tb : Value}
theorem bxc_left {op : CmpOp} {Q : Value → Shared → Prop} (hu : A.units < cLine) (X : K.In s.heap) (I : InstAt s.heap x ox C od) (hb : Looks (model prog w) s.heap (typeOf b) tb) (hn : notFirst K C tb = true)
    (one : wpAny (model prog w) A (tryCompare (.ref x) (cmpInfo op).2.1 b) (fun r s' => ∃ v, r = some v ∧ Q v s') E s) : wpAny (model prog w) A (richCompare op (.ref x) b) Q E s := by
  unfold richCompare
  simp only [oneThing_ref]
  refine wpAny_holding (wpAny_bind (wpAny_cRoomFor hu ?_))
  refine wpAny_bind (I.type.here (wpAny_bind (hb.here ?_)))
  split
  · rename_i q
    have e : subIn K tb (.ref C) = some false := by
      rcases Bool.or_eq_true_iff.mp hn with e | e
      · rw [beq_iff_eq.mp e] at q; simp at q
      · exact beq_iff_eq.mp e
    refine wpAny_bind ((looks_subIn X e).here ?_)
    simp only [Bool.false_eq_true, if_false]
    refine wpAny_bind (wpAny_mono one (fun r s' z => ?_) fun _ _ e => e)
    obtain ⟨v, rfl, hq⟩ := z
    exact wpAny_pure hq
  · refine wpAny_bind (wpAny_pure ?_)
    simp only [Bool.false_eq_true, if_false]
    refine wpAny_bind (wpAny_mono one (fun r s' z => ?_) fun _ _ e => e)
    obtain ⟨v, rfl, hq⟩ := z
    exact wpAny_pure hq
theorem bxc_right {op : CmpOp} {Q : Value → Shared → Prop} (hu : A.units < cLine) (X : K.In s.heap) (I : InstAt s.heap x ox C od) (J : InstAt s.heap y oy D od2) (hne : D ≠ C) (hsub : subIn K (.ref D) (.ref C) = some true)
    (one : wpAny (model prog w) A (tryCompare (.ref y) (cmpInfo op).2.2 (.ref x)) (fun r s' => ∃ v, r = some v ∧ Q v s') E s) : wpAny (model prog w) A (richCompare op (.ref x) (.ref y)) Q E s := by
  unfold richCompare
  simp only [oneThing_ref]
  refine wpAny_holding (wpAny_bind (wpAny_cRoomFor hu ?_))
  refine wpAny_bind (I.type.here (wpAny_bind (J.type.here ?_)))
  rw [if_pos (show (Value.ref C != Value.ref D) = true by
    rw [bne_iff_ne]
    intro z
    exact hne (by injection z with z; exact z.symm))]
  refine wpAny_bind ((looks_subIn X hsub).here ?_)
  rw [if_pos rfl]
  refine wpAny_bind (wpAny_mono one (fun r s' z => ?_) fun _ _ e => e)
  obtain ⟨v, rfl, hq⟩ := z
  first
    | exact wpAny_bind (wpAny_rule (wpAny_pure hq))
    | exact wpAny_rule (wpAny_pure hq)
theorem bxc_eq {Q : Value → Shared → Prop} (X : K.In s.heap) (I : InstAt s.heap x ox C od) (hs : findIn K (.ref C) "__eq__" = some (some (.ref f))) (hf : isFn K (.ref f) = true)
    (h : wpAny (model prog w) A (call (.ref f) [.ref x, b]) (CmpBack Q) E s) : wpAny (model prog w) A (tryCompare (.ref x) "__eq__" b) (fun r s' => ∃ v, r = some v ∧ Q v s') E s := by
  unfold tryCompare
  refine wpAny_bind (ifBound_K X I hs hf (wpAny_mono h (fun v s' hv => ?_) fun _ _ e => e))
  cases v <;> first | exact hv.elim | exact wpAny_pure ⟨_, rfl, hv⟩
theorem bxc_bound {name : Str} {id : String} {args : List Value} {Q : Option Value → Shared → Prop} (X : K.In s.heap) (I : InstAt s.heap x ox C od) (hs : findIn K (.ref C) name = some (some (.builtin id)))
    (hb : ∀ self, bindSpecial (.builtin id) self = pure (.builtin id, [self])) (h : wpAny (model prog w) A (call (.builtin id) (.ref x :: args)) (fun v => Q (some v)) E s) : wpAny (model prog w) A (callSpecialIfBound? (.ref x) name args) Q E s := by
  simp only [callSpecialIfBound?, bindSpecialIfBound?]
  refine wpAny_holding (wpAny_bind (wpAny_bind (wpAny_bind (I.type.here ((looks_findIn X hs).here ?_)))))
  refine wpAny_bind (wpAny_askSetting (wpAny_ite ?_))
  have fin : wpAny (model prog w) A (call (.builtin id) ([.ref x] ++ args) >>= fun v => pure (some v)) Q E s := wpAny_bind (wpAny_mono h (fun v s' h' => wpAny_pure h') fun _ _ h' => h')
  split
  · exact wpAny_bind ((Looks.of_pure (hb _)).here (wpAny_pure (by exact fin)))
  · exact wpAny_tryCatch (wpAny_bind ((Looks.of_pure (hb _)).here (wpAny_pure (by exact fin))))
open Builtin in
theorem bxc_ne {Q : Value → Shared → Prop} (hu : A.in1.units < cLine) (X : K.In s.heap) (I : InstAt s.heap x ox C od) (hn : findIn K (.ref C) "__ne__" = some (some (.builtin "object.__ne__"))) (hm : mroIn K C (.type "object") = some true)
    (hs : findIn K (.ref C) "__eq__" = some (some (.ref f))) (hf : isFn K (.ref f) = true)
    (h : wpAny (model prog w) A.in1 (call (.ref f) [.ref x, b]) (fun v s' => ∃ c, v = .bool c ∧ Q (.bool (!c)) s') E s) : wpAny (model prog w) A (tryCompare (.ref x) "__ne__" b) (fun r s' => ∃ v, r = some v ∧ Q v s') E s := by
  unfold tryCompare
  refine wpAny_bind (bxc_bound X I hn PySem.F.slot_object_ne.bind ?_)
  refine wpAny_call (codeAny_call_builtin PySem.F.slot_object_ne.plain PySem.F.entry_object_ne (check_slot (i := "object.__ne__") (owner := "object") (n := "__ne__") (by decide +kernel) (by decide +kernel) (I.type.andThen (looks_mroIn X hm)) (PySem.F.args_object_ne_2 _ _) ?_))
  unfold Builtin.«object.__ne__»
  refine wpAny_bind (m := slotArgs "__ne__" 1 _) (wpAny_pure ?_)
  refine wpAny_bind (m := cRoomFor _ _) (wpAny_cRoomFor hu ?_)
  refine wpAny_bind (m := callSpecialIfBound? (.ref x) (Str.ofString "__eq__") _) (ifBound_K X I hs hf (wpAny_mono h (fun r s' hq => ?_) fun _ _ y => y))
  obtain ⟨c, rfl, hq⟩ := hq
  refine wpAny_bind (wpAny_truthy_bool ?_)
  first
    | exact wpAny_pure (wpAny_pure ⟨_, rfl, hq⟩)
    | exact wpAny_pure ⟨_, rfl, hq⟩
    | exact ⟨_, rfl, wpAny_pure ⟨_, rfl, hq⟩⟩
end
end PySem.W
namespace BX
open PySem PySem.Spec PyProof.Rows L2 ClX
section
variable {X : Cx} {pins : List (Addr × Obj)} {σ : L2.St} {H : Hp} {s : Shared} {k : Nat} {C D f : Addr} {sp : Sp}
/-- the right operand does not come first -/
inductive Rgt (K : PySem.W.Frag) (C : Addr) (H : Hp) : V → Prop
  | ins {b D dy : Addr} {gs : List (Str × V)} (e : H b = some (.ins D dy gs)) (n : PySem.W.notFirst K C (.ref D) = true) : Rgt K C H (.ref b)
  | lst {b : Addr} {xs : List V} (e : H b = some (.lst xs)) (n : PySem.W.notFirst K C (.type "list") = true) : Rgt K C H (.ref b)
theorem Rgt.looks {y : V} {v : Value} (I : Inv X pins σ H s) (r : Rgt X.K C H y) (rv : RelV y v) : ∃ tb, PySem.W.Looks (model X.prog X.w) s.heap (typeOf v) tb ∧ PySem.W.notFirst X.K C tb = true := by
  cases r with
  | ins e n =>
    cases rv
    obtain ⟨od, J⟩ := ins_inst I e
    exact ⟨_, J.type, n⟩
  | lst e n =>
    cases rv
    obtain ⟨_, its, kk, _, ho⟩ := I.hok _ _ e
    exact ⟨.type "list", fun A Q E s k q => wpAny_typeOf_ref (k _ _ ho) q, n⟩
def rCmp (K : PySem.W.Frag) (C : Addr) (sp : Sp) (neg : Bool) : R2 := fun x y H Q => ∃ a dx fs, x = .ref a ∧ H a = some (.ins C dx fs) ∧ Rgt K C H y ∧ sp [x, y] H (fun v H' => ∃ c, v = .bl c ∧ Q (.bl (c != neg)) H') C8.E0
def rCmpR (C D : Addr) (sp : Sp) (neg : Bool) : R2 := fun x y H Q => ∃ a dx fs b dy gs, x = .ref a ∧ y = .ref b ∧ H a = some (.ins C dx fs) ∧ H b = some (.ins D dy gs) ∧ sp [y, x] H (fun v H' => ∃ c, v = .bl c ∧ Q (.bl (c != neg)) H') C8.E0
/-- the class's own __eq__, object's __ne__ -/
structure EqC (K : PySem.W.Frag) (C f : Addr) : Prop where
  eq : PySem.W.findIn K (.ref C) "__eq__" = some (some (.ref f))
  fn : PySem.W.isFn K (.ref f) = true
  ne : PySem.W.findIn K (.ref C) "__ne__" = some (some (.builtin "object.__ne__"))
  ob : PySem.W.mroIn K C (.type "object") = some true
theorem ret_eq {Q : VK} {v : Value} {s' : Shared} (h : EP X pins σ (fun v H' => ∃ c, v = .bl c ∧ Q (.bl (c != false)) H') v s') : PySem.W.CmpBack (EP X pins σ Q) v s' := by
  obtain ⟨z, H', I', r, c, rfl, q⟩ := h
  obtain rfl : v = Value.bool c := r
  rw [Bool.bne_false] at q
  exact ⟨.bl c, H', I', rfl, q⟩
theorem ret_ne {Q : VK} {v : Value} {s' : Shared} (h : EP X pins σ (fun v H' => ∃ c, v = .bl c ∧ Q (.bl (c != true)) H') v s') : ∃ c, v = .bool c ∧ EP X pins σ Q (.bool (!c)) s' := by
  obtain ⟨z, H', I', r, c, rfl, q⟩ := h
  obtain rfl : v = Value.bool c := r
  rw [Bool.bne_true] at q
  exact ⟨c, rfl, .bl (!c), H', I', rfl, q⟩
theorem op_rEq (F : At X.prog X.w X.K X.mg X.base k f sp) (hr : Room (k + 1) X.A) (T : EqC X.K C f) : OpR X (compareOp .Eq) (rCmp X.K C sp false) := by
  intro pins s σ H x y u v Q I rx ry h
  obtain ⟨a, dx, fs, rfl, ha, hb, q⟩ := h
  cases rx
  obtain ⟨od, J⟩ := ins_inst I ha
  obtain ⟨tb, L, n⟩ := hb.looks I ry
  exact PySem.W.bxc_left (op := .Eq) hr.units0 I.kIn J L n (PySem.W.bxc_eq I.kIn J T.eq T.fn (thn (run_at (us := [.ref a, v]) (vs := [.ref a, y]) F (hr.mono (Nat.le_succ k)) I (.cons rfl (.cons ry .nil)) q) fun v s' h' => ret_eq h'))
theorem op_rNe (F : At X.prog X.w X.K X.mg X.base k f sp) (hr : Room (k + 1) X.A) (T : EqC X.K C f) : OpR X (compareOp .NotEq) (rCmp X.K C sp true) := by
  intro pins s σ H x y u v Q I rx ry h
  obtain ⟨a, dx, fs, rfl, ha, hb, q⟩ := h
  cases rx
  obtain ⟨od, J⟩ := ins_inst I ha
  obtain ⟨tb, L, n⟩ := hb.looks I ry
  exact PySem.W.bxc_left (op := .NotEq) hr.units0 I.kIn J L n (PySem.W.bxc_ne hr.in1.units0 I.kIn J T.ne T.ob T.eq T.fn (thn (run_in1 (us := [.ref a, v]) (vs := [.ref a, y]) F hr I (.cons rfl (.cons ry .nil)) q) fun v s' h' => ret_ne h'))
theorem op_rEqR (F : At X.prog X.w X.K X.mg X.base k f sp) (hr : Room (k + 1) X.A) (T : EqC X.K D f) (hne : D ≠ C) (hs : PySem.W.subIn X.K (.ref D) (.ref C) = some true) : OpR X (compareOp .Eq) (rCmpR C D sp false) := by
  intro pins s σ H x y u v Q I rx ry h
  obtain ⟨a, dx, fs, b, dy, gs, rfl, rfl, ha, hb, q⟩ := h
  cases rx
  cases ry
  obtain ⟨od, J⟩ := ins_inst I ha
  obtain ⟨od2, J2⟩ := ins_inst I hb
  exact PySem.W.bxc_right (op := .Eq) hr.units0 I.kIn J J2 hne hs (PySem.W.bxc_eq I.kIn J2 T.eq T.fn (thn (run_at (us := [.ref b, .ref a]) (vs := [.ref b, .ref a]) F (hr.mono (Nat.le_succ k)) I (.cons rfl (.cons rfl .nil)) q) fun v s' h' => ret_eq h'))
theorem op_rNeR (F : At X.prog X.w X.K X.mg X.base k f sp) (hr : Room (k + 1) X.A) (T : EqC X.K D f) (hne : D ≠ C) (hs : PySem.W.subIn X.K (.ref D) (.ref C) = some true) : OpR X (compareOp .NotEq) (rCmpR C D sp true) := by
  intro pins s σ H x y u v Q I rx ry h
  obtain ⟨a, dx, fs, b, dy, gs, rfl, rfl, ha, hb, q⟩ := h
  cases rx
  cases ry
  obtain ⟨od, J⟩ := ins_inst I ha
  obtain ⟨od2, J2⟩ := ins_inst I hb
  exact PySem.W.bxc_right (op := .NotEq) hr.units0 I.kIn J J2 hne hs (PySem.W.bxc_ne hr.in1.units0 I.kIn J2 T.ne T.ob T.eq T.fn (thn (run_in1 (us := [.ref b, .ref a]) (vs := [.ref b, .ref a]) F hr I (.cons rfl (.cons rfl .nil)) q) fun v s' h' => ret_ne h'))
end
end BX
end
section
set_option Elab.async false
set_option linter.all false
set_option maxRecDepth 100000
set_option maxHeartbeats 4000000
namespace BX
open PySem PySem.Spec PyProof.Rows L2 ClX LamX
/-! ### what stays: all but p and the tables of code objects -/
structure St (T : List (Addr × Str)) (p : Addr) (H H' : Hp) : Prop where
  kp : ∀ b o, b ≠ p → (∀ ps, o ≠ .tbl ps) → H b = some o → H' b = some o
  tb : Tabs T H → Tabs T H'
structure Sn (T : List (Addr × Str)) (H H' : Hp) : Prop where
  kp : ∀ b o, (∀ ps, o ≠ .tbl ps) → H b = some o → H' b = some o
  tb : Tabs T H → Tabs T H'
/-- p is no table and no code object -/
def Pl (H : Hp) (p : Addr) : Prop := ∀ o, H p = some o → (∀ ps, o ≠ .tbl ps) ∧ ∀ phi, o ≠ .ext phi
theorem pl_ins {H : Hp} {p C dx : Addr} {fs : List (Str × V)} (h : H p = some (.ins C dx fs)) : Pl H p := fun o e => by rw [h] at e; cases e; exact ⟨(fun _ z => nomatch z), fun _ z => nomatch z⟩
theorem pl_lst {H : Hp} {p : Addr} {xs : List V} (h : H p = some (.lst xs)) : Pl H p := fun o e => by rw [h] at e; cases e; exact ⟨(fun _ z => nomatch z), fun _ z => nomatch z⟩
theorem pl_none {H : Hp} {p : Addr} (h : H p = none) : Pl H p := fun o e => by rw [h] at e; cases e
section
variable {T : List (Addr × Str)} {p q : Addr} {H H1 H2 H' : Hp}
theorem tabs_kp (k : Kp p H H') (n : Pl H p) (t : Tabs T H) : Tabs T H' := fun x hx => by
  obtain ⟨ps, h1, h2, h3⟩ := t x hx
  refine ⟨ps, k _ _ (fun z => ?_) h1, h2, fun pos cv hc => ?_⟩
  · rw [z] at h1; exact (n _ h1).1 ps rfl
  · obtain ⟨c, e1, e2⟩ := h3 pos cv hc
    refine ⟨c, e1, k _ _ (fun z => ?_) e2⟩
    rw [z] at e2
    unfold CodeO at e2
    exact (n _ e2).2 _ rfl
theorem St.of (k : Kp p H H') (n : Pl H p) : St T p H H' := ⟨fun b o h1 _ h => k b o h1 h, tabs_kp k n⟩
theorem Sn.of (s : Same H H') : Sn T H H' := ⟨fun b o _ h => s b o h, fun t => t.ext s⟩
theorem Sn.refl (H : Hp) : Sn T H H := ⟨fun _ _ _ h => h, fun t => t⟩
theorem Sn.trans (a : Sn T H H1) (b : Sn T H1 H2) : Sn T H H2 := ⟨fun c o n h => b.kp c o n (a.kp c o n h), fun t => b.tb (a.tb t)⟩
theorem St.refl (p : Addr) (H : Hp) : St T p H H := ⟨fun _ _ _ _ h => h, fun t => t⟩
theorem St.trans (a : St T p H H1) (b : St T p H1 H2) : St T p H H2 := ⟨fun c o m n h => b.kp c o m n (a.kp c o m n h), fun t => b.tb (a.tb t)⟩
theorem Sn.st (a : Sn T H H') : St T p H H' := ⟨fun b o _ n h => a.kp b o n h, a.tb⟩
/-- p is as before -/
theorem St.back (a : St T p H H') (h : ∀ o, H p = some o → H' p = some o) : Sn T H H' := ⟨fun b o n e => by
  by_cases z : b = p
  · rw [z] at e ⊢; exact h o e
  · exact a.kp b o z n e, a.tb⟩
/-- p was new -/
theorem St.new (s : Sn T H H1) (a : St T p H1 H') (h : H p = none) : Sn T H H' := ⟨fun b o n e => a.kp b o (ne_of_none e h) n (s.kp b o n e), fun t => a.tb (s.tb t)⟩
theorem Sn.ofE (e : ExtN H H') (t : Tabs T H') : Sn T H H' := ⟨fun b o n h => e b o h n, fun _ => t⟩
theorem Sn.kr {CR : Addr} (a : Sn T H H') : Kr CR H H' := ⟨⟨fun b xs h => a.kp b _ (fun _ z => nomatch z) h, fun b o xs h => a.kp b _ (fun _ z => nomatch z) h⟩, fun x dx fs h => a.kp x _ (fun _ z => nomatch z) h⟩
theorem St.kr {C CR dx : Addr} {fs : List (Str × V)} (a : St T p H H') (hp : H p = some (.ins C dx fs)) (ne : C ≠ CR) : Kr CR H H' :=
  ⟨⟨fun b xs h => a.kp b _ (ne_of h hp (by intro q; cases q)) (fun _ z => nomatch z) h, fun b o xs h => a.kp b _ (ne_of h hp (by intro q; cases q)) (fun _ z => nomatch z) h⟩, fun x dx fs h => a.kp x _ (ne_of h hp (by intro q; cases q; exact ne rfl)) (fun _ z => nomatch z) h⟩
theorem St.krL {CR : Addr} {ys : List V} (a : St T p H H') (hp : H p = some (.lst ys)) : Kr CR H H' :=
  ⟨⟨fun b xs h => a.kp b _ (ne_of h hp (by intro q; cases q)) (fun _ z => nomatch z) h, fun b o xs h => a.kp b _ (ne_of h hp (by intro q; cases q)) (fun _ z => nomatch z) h⟩, fun x dx fs h => a.kp x _ (ne_of h hp (by intro q; cases q)) (fun _ z => nomatch z) h⟩
theorem St.ins {C dx : Addr} {fs : List (Str × V)} (a : St T p H H') (h : H q = some (.ins C dx fs)) (n : q ≠ p) : H' q = some (.ins C dx fs) := a.kp q _ n (fun _ z => nomatch z) h
theorem St.lst {xs : List V} (a : St T p H H') (h : H q = some (.lst xs)) (n : q ≠ p) : H' q = some (.lst xs) := a.kp q _ n (fun _ z => nomatch z) h
theorem Sn.lst {xs : List V} (a : Sn T H H') (h : H q = some (.lst xs)) : H' q = some (.lst xs) := a.kp q _ (fun _ z => nomatch z) h
theorem Sn.ins {C dx : Addr} {fs : List (Str × V)} (a : Sn T H H') (h : H q = some (.ins C dx fs)) : H' q = some (.ins C dx fs) := a.kp q _ (fun _ z => nomatch z) h
theorem Sn.seqL {K : PySem.W.Frag} {xs : List V} (a : Sn T H H') (h : SqL K H q xs) : SqL K H' q xs := by
  rcases h with (h | ⟨o, h⟩) | h
  · exact .inl (.inl (a.lst h))
  · exact .inl (.inr ⟨o, a.kp _ _ (fun _ z => nomatch z) h⟩)
  · exact .inr h
theorem St.seqL {K : PySem.W.Frag} {xs : List V} (a : St T p H H') (n : q ≠ p) (h : SqL K H q xs) : SqL K H' q xs := by
  rcases h with (h | ⟨o, h⟩) | h
  · exact .inl (.inl (a.lst h n))
  · exact .inl (.inr ⟨o, a.kp _ _ n (fun _ z => nomatch z) h⟩)
  · exact .inr h
end
theorem RoomAt.st {T : List (Addr × Str)} {K : PySem.W.Frag} {CR C C' q dq : Addr} {gs fx : List (Str × V)} {H H' : Hp} {p dx d l : Addr} {st : Rm} (r : RoomAt K CR C fx H p dx d l st) (a : St T q H H') (hq : H q = some (.ins C' dq gs)) (ne : C' ≠ CR) (hpq : p ≠ q) : RoomAt K CR C fx H' p dx d l st := by
  obtain ⟨⟨kvs, hd, hk⟩, xs, hl, hlog⟩ := r.ex
  exact ⟨a.ins r.obj hpq, r.fxo, ⟨kvs, a.kp d _ (ne_of hd hq (by intro z; cases z)) (fun _ z => nomatch z) hd, hk.kr (a.kr hq ne)⟩, xs, a.lst hl (ne_of hl hq (by intro z; cases z)), hlog.kr (a.kr hq ne)⟩
theorem RoomAt.sn {T : List (Addr × Str)} {K : PySem.W.Frag} {CR C : Addr} {fx : List (Str × V)} {H H' : Hp} {p dx d l : Addr} {st : Rm} (r : RoomAt K CR C fx H p dx d l st) (a : Sn T H H') : RoomAt K CR C fx H' p dx d l st := by
  obtain ⟨⟨kvs, hd, hk⟩, xs, hl, hlog⟩ := r.ex
  exact ⟨a.ins r.obj, r.fxo, ⟨kvs, a.kp d _ (fun _ z => nomatch z) hd, hk.kr a.kr⟩, xs, a.lst hl, hlog.kr a.kr⟩
theorem RegAt.sn {T : List (Addr × Str)} {K : PySem.W.Frag} {CR : Addr} {H H' : Hp} {v : V} {r : Rgn} (a : Sn T H H') (h : RegAt K CR H v r) : RegAt K CR H' v r := h.kr a.kr
/-! ### any of several readings -/
theorem pe_any {X : Cx} {ι : Type} {e : Expr} {t : ι → TE} (h : ∀ i, PE X e (t i)) : PE X e (fun σ H Q => ∃ i, t i σ H Q) := ⟨fun pins s σ H Q I ⟨i, q⟩ => (h i).run pins s σ H Q I q⟩
/-! ### pools -/
abbrev sPool : Stmt := topS 51
abbrev sTake : Stmt := topS 52
abbrev sLRegion : Stmt := topS 53
abbrev sLRow : Stmt := topS 54
def PoolAt (H : Hp) (q : Addr) : Prop := ∃ c s : Int, H q = some (.lst [.int c, .int s]) ∧ 0 ≤ s ∧ s < 2147483648
theorem PoolAt.same {H H' : Hp} {q : Addr} (s : Same H H') (h : PoolAt H q) : PoolAt H' q := by obtain ⟨c, z, e, r⟩ := h; exact ⟨c, z, s _ _ e, r⟩
theorem PoolAt.lst {H : Hp} {q : Addr} (h : PoolAt H q) : ∃ xs, H q = some (.lst xs) := by obtain ⟨c, z, e, r⟩ := h; exact ⟨_, e⟩
/-- a room's things are not the pool -/
theorem pool_room {K : PySem.W.Frag} {CR C : Addr} {fx : List (Str × V)} {H H' : Hp} {p dx d l q : Addr} {st : Rm} (h : PoolAt H q) (r : RoomAt K CR C fx H p dx d l st) (k : Kp q H H') : RoomAt K CR C fx H' p dx d l st := by
  obtain ⟨c, z, e, _⟩ := h
  obtain ⟨⟨kvs, hd, hk⟩, xs, hl, hlog⟩ := r.ex
  have no : ∀ {log : List Ent}, LogAt K CR H [.int c, .int z] log → False := fun h => by
    cases h with
    | cons a _ => obtain ⟨_, _, y, _⟩ := a; cases y
  have hlq : l ≠ q := fun y => by
    subst y
    rw [e] at hl
    cases hl
    exact no hlog
  have kr : Kr CR H H' := (St.of (T := []) k (pl_lst e)).krL e
  exact ⟨k p _ (ne_of r.obj e (by intro z; cases z)) r.obj, r.fxo, ⟨kvs, k d _ (ne_of hd e (by intro z; cases z)) hd, hk.kr kr⟩, xs, k l _ hlq hl, hlog.kr kr⟩
def spPool (K : PySem.W.Frag) : Sp := fun vs H Q _ => ∃ (l : Addr) (ns : List Int) (j : Nat), vs = [.ref l, .int (j : Int)] ∧ SqL K H l (ns.map V.int) ∧ j ≤ 3 ∧ ∀ q H', Same H H' → H q = none → PoolAt H' q → Q (.ref q) H'
abbrev nPool : List Str := ["_law_script", "_law_k", "_law_cell", "_law_seed"]
theorem scPool : FnScope nPool ["_law_script", "_law_k"] (defScope sPool) := C8.fnScope_by (by decide +kernel)
def spTake : Sp := fun vs H Q _ => ∃ (q : Addr) (n : Int), vs = [.ref q, .int n] ∧ PoolAt H q ∧ 0 < n ∧ n ≤ 100 ∧ ∀ (v : Nat) H', Kp q H H' → PoolAt H' q → (v : Int) < n → Q (.int v) H'
abbrev nTake : List Str := ["_law_pool_here", "_law_sides", "_law_found"]
theorem scTake : FnScope nTake ["_law_pool_here", "_law_sides"] (defScope sTake) := C8.fnScope_by (by decide +kernel)
theorem sm_abs {i : Int} (h1 : 0 ≤ i) (h2 : i < 2147483648 * 8) : -(2 ^ 64) < i ∧ i < 2 ^ 64 := by omega
section
variable {P : Program} {w : World} {K : PySem.W.Frag} {mg : Str → Option Value} {base : Heap} {f : Addr} {fd : FuncData}
theorem ok_pool (F : FnQ K "_law_pool" "_law_pool" sPool f fd) (B : Bt mg) : At P w K mg base 1 f (spPool K) := by
  refine atP F scPool (fun _ _ _ _ _ _ us hl => match us, hl with | [_, _], _ => rfl) (fun vs H Q E h => ?_) (fun cdv A outer s H vs Q E hr h => ?_)
  · obtain ⟨l, ns, j, rfl, _⟩ := h
    rfl
  · obtain ⟨l, ns, j, rfl, hl, hj, k⟩ := h
    refine ⟨_, pss_cons (ps_set (i := 2) scPool.nd rfl (Or.inl rfl) pe_int)
      (C8.pss_cut (ps_if (pt_cmpR op_lt (pv 1) (pe_callB call_len_seq (by rfl) B.len (by decide +kernel) (pa_cons (pv 0) pa_nil)) (nomark _)) (pss_one (ps_set (i := 2) scPool.nd rfl (Or.inl rfl) (pe_ix ix_list (pv 0) (pv 1) (fun _ _ => rfl)))) pss_nil)
      (pss_cons (ps_set (i := 3) scPool.nd rfl (Or.inl rfl) (pe_op op_mod (pe_op op_mul (pe_op op_add (pe_op op_add (pe_op op_mod (pv 2) pe_int) (pe_op op_mul (pe_op op_mul pe_int (pv 1)) (pv 1))) pe_int) pe_int) pe_int))
      (C8.pss_cut (ps_if (pt_cmpR op_lt (pv 2) (pe_op op_pow pe_int pe_int) (nomark _)) (pss_one (ps_set (i := 2) scPool.nd rfl (Or.inl rfl) pe_int)) pss_nil)
      (pss_one (ps_ret (pe_lst (pa_cons (pv 2) (pa_cons (pe_op op_add (pe_op op_mod (pe_op op_mul (pv 3) (pv 3)) pe_int) pe_int) pa_nil)))))))), ?_⟩
    refine ⟨fun σ' H' => H' = H ∧ ∃ c : Int, σ' = [some (.ref l), some (.int (j : Int)), some (.int c), none], ?_, ?_⟩
    · refine ⟨_, rfl, _, rfl, l, _, rfl, .inl hl, _, _, rfl, rfl, _, rfl, ?_⟩
      refine ite2 (fun hc => ?_) (fun _ => ⟨rfl, 0, rfl⟩)
      have hc := of_decide_eq_true hc
      rw [List.length_map] at hc
      have hj : j < ns.length := by omega
      refine ⟨_, rfl, _, rfl, l, _, (j : Int), _, rfl, rfl, hl, atI_nat (v := V.int ns[j]) (by rw [List.getElem?_map, List.getElem?_eq_getElem hj]; rfl), rfl, ns[j], rfl⟩
    · rintro σ' H' ⟨rfl, c, rfl⟩
      have h1 : 0 ≤ c % 2147483629 := Int.emod_nonneg _ (by decide)
      have h2 : c % 2147483629 < 2147483629 := Int.emod_lt_of_pos _ (by decide)
      have j1 : 7919 * (j : Int) ≤ 23757 := by omega
      have j2 : 0 ≤ 7919 * (j : Int) * (j : Int) ∧ 7919 * (j : Int) * (j : Int) ≤ 71271 := by
        have : j = 0 ∨ j = 1 ∨ j = 2 ∨ j = 3 := by omega
        rcases this with rfl | rfl | rfl | rfl <;> decide
      refine ⟨_, rfl, _, _, rfl, rfl, by show (0 : Int) < 2147483629; decide, _, rfl, _, _, rfl, rfl, .inl ⟨by decide, by decide⟩, _, rfl, _, _, rfl, rfl, .inr ⟨by omega, by omega⟩, _, _, rfl, rfl, _, _, rfl, rfl, _, _, rfl, rfl, .inr ⟨by decide, by decide⟩, _, _, rfl, rfl, by show (0 : Int) < 2147483647; decide, ?_⟩
      obtain ⟨z, hz⟩ : ∃ z, z = (c % 2147483629 + 7919 * (j : Int) * (j : Int) + 13) * 48271 % 2147483647 := ⟨_, rfl⟩
      have z1 : 0 ≤ z := by rw [hz]; exact Int.emod_nonneg _ (by decide)
      have z2 : z < 2147483647 := by rw [hz]; exact Int.emod_lt_of_pos _ (by decide)
      refine ⟨fun σ' H1 => H1 = H' ∧ ∃ c : Int, σ' = [some (.ref l), some (.int (j : Int)), some (.int c), some (.int z)], ?_, ?_⟩
      · refine ⟨_, rfl, _, _, rfl, rfl, ⟨by decide, by decide, by decide⟩, _, _, rfl, rfl, _, rfl, ?_⟩
        exact ite2 (fun _ => ⟨rfl, 0, by rw [hz]; rfl⟩) (fun _ => ⟨rfl, c, by rw [hz]; rfl⟩)
      · rintro σ' H1 ⟨rfl, c, rfl⟩
        refine ⟨_, rfl, _, rfl, _, rfl, _, _, rfl, rfl, .inl ⟨by omega, by omega⟩, _, _, rfl, rfl, by show (0 : Int) < 2147483587; decide, _, _, rfl, rfl, by show 2 ≤ sizeLine; decide, fun p hp => ?_⟩
        have y1 : 0 ≤ z * z % 2147483587 := Int.emod_nonneg _ (by decide)
        have y2 : z * z % 2147483587 < 2147483587 := Int.emod_lt_of_pos _ (by decide)
        exact k p _ (Same.upd1 hp) hp ⟨c, _, upd_same, by omega, by omega⟩
theorem ok_take (F : FnQ K "_law_take" "_law_take" sTake f fd) : At P w K mg base 1 f spTake := by
  refine atP F scTake (fun _ _ _ _ _ _ us hl => match us, hl with | [_, _], _ => rfl) (fun vs H Q E h => ?_) (fun cdv A outer s H vs Q E hr h => ?_)
  · obtain ⟨q, n, rfl, _⟩ := h
    rfl
  · obtain ⟨q, n, rfl, ⟨c, z, hq, z1, z2⟩, n1, n2, k⟩ := h
    refine ⟨_, pss_cons (ps_if (pt_cmpR op_gt (pe_ix ix_list (pv 0) pe_int (fun _ _ => rfl)) pe_int (nomark _))
        (pss_cons (ps_set (i := 2) scTake.nd rfl (Or.inl rfl) (pe_op op_mod (pe_ix ix_list (pv 0) pe_int (fun _ _ => rfl)) (pv 1)))
        (pss_cons (ps_asg (pe_op op_fdiv (pe_ix ix_list (pv 0) pe_int (fun _ _ => rfl)) (pv 1)) (pg_sub (pv 0) pe_int set_list))
        (pss_one (ps_ret (pv 2))))) pss_nil)
      (pss_cons (ps_asg (pe_op op_mod (pe_op op_add (pe_op op_mul (pe_ix ix_list (pv 0) pe_int (fun _ _ => rfl)) pe_int) pe_int) pe_int) (pg_sub (pv 0) pe_int set_list))
      (pss_one (ps_ret (pe_op op_mod (pe_op op_fdiv (pe_op op_mod (pe_op op_mul (pe_ix ix_list (pv 0) pe_int (fun _ _ => rfl)) (pe_ix ix_list (pv 0) pe_int (fun _ _ => rfl))) pe_int) pe_int) (pv 1))))), ?_⟩
    have a0 : ∀ {x y : V}, atI [x, y] (0 : Int) = some x := fun {x y} => rfl
    have a1 : ∀ {x y : V}, atI [x, y] (1 : Int) = some y := fun {x y} => rfl
    refine ⟨_, rfl, q, _, _, _, rfl, rfl, SqL.of hq, a0, _, _, rfl, rfl, _, rfl, ?_⟩
    refine ite2 (fun hc => ?_) (fun _ => ?_)
    · have e1 : 0 ≤ c % n := Int.emod_nonneg _ (by omega)
      have e2 : c % n < n := Int.emod_lt_of_pos _ n1
      refine ⟨_, rfl, q, _, _, _, rfl, rfl, SqL.of hq, a0, _, rfl, _, _, rfl, rfl, n1, _, rfl, q, _, _, _, rfl, rfl, SqL.of hq, a0, _, rfl, _, _, rfl, rfl, ⟨n1, by omega⟩, _, rfl, q, _, _, 0, rfl, rfl, hq, rfl, _, rfl, ?_⟩
      have h := k (c % n).toNat _ ((Kp.refl q H).upd (o := .lst [.int (c / n), .int z])) ⟨_, _, upd_same, z1, z2⟩ (by omega)
      rw [Int.toNat_of_nonneg e1] at h
      exact h
    · have y1 : 0 ≤ (z * 48271 + 11) % 2147483647 := Int.emod_nonneg _ (by decide)
      have y2 : (z * 48271 + 11) % 2147483647 < 2147483647 := Int.emod_lt_of_pos _ (by decide)
      have hq2 : upd H q (.lst [.int c, .int ((z * 48271 + 11) % 2147483647)]) q = some (.lst [.int c, .int ((z * 48271 + 11) % 2147483647)]) := upd_same
      have h := fun v => k v _ ((Kp.refl q H).upd (o := .lst [.int c, .int ((z * 48271 + 11) % 2147483647)])) ⟨_, _, upd_same, y1, by omega⟩
      refine ⟨_, rfl, q, _, _, _, rfl, rfl, SqL.of hq, a1, _, _, rfl, rfl, .inr ⟨by decide, by decide⟩, _, _, rfl, rfl, _, _, rfl, rfl, by show (0 : Int) < 2147483647; decide, _, rfl, q, _, _, 1, rfl, rfl, hq, rfl, ?_⟩
      refine ⟨_, rfl, q, _, _, _, rfl, rfl, SqL.of hq2, a1, _, rfl, q, _, _, _, rfl, rfl, SqL.of hq2, a1, _, _, rfl, rfl, .inl ⟨by omega, by omega⟩, _, _, rfl, rfl, by show (0 : Int) < 2147483629; decide, _, _, rfl, rfl, ⟨by decide, by decide⟩, _, rfl, _, _, rfl, rfl, n1, ?_⟩
      obtain ⟨y, hy⟩ : ∃ y, y = (z * 48271 + 11) % 2147483647 := ⟨_, rfl⟩
      rw [← hy] at h y1 y2
      have e1 : 0 ≤ y * y % 2147483629 / 64 % n := Int.emod_nonneg _ (by omega)
      have e2 : y * y % 2147483629 / 64 % n < n := Int.emod_lt_of_pos _ n1
      have h2 := h (y * y % 2147483629 / 64 % n).toNat (by omega)
      rw [Int.toNat_of_nonneg e1] at h2
      rw [hy] at h2
      exact h2
end
end BX
end
section
set_option Elab.async false
set_option linter.all false
set_option maxRecDepth 100000
set_option maxHeartbeats 4000000
namespace BX
open PySem PySem.Spec PyProof.Rows L2 ClX
/-! ### the law's rows, plainly -/
def nm4 : List Str := ["a", "b", "cc", "eightabc"]
def nm5 : List Str := ["a", "b", "cc", "eightabc", "other"]
def us3 : List Str := ["ann", "bob", "eve"]
inductive Kd where
  | put
  | join
  | cut
inductive Row where
  | undo (u : Str)
  | drop (u n : Str)
  | reg (k : Kd) (u n : Str) (r : Rgn)
def stepM (fix : Bool) (st : Rm) : Row → Out
  | .undo u => undoM st u
  | .drop u n => dropM st u n
  | .reg .put u n r => putM fix st u n r
  | .reg .join u n r => joinM fix st u n r
  | .reg .cut u n r => cutM st u n r
def afterM (st : Rm) : Out → Rm
  | .told _ s => s
  | _ => st
def nextM (fix : Bool) (st : Rm) (row : Row) : Rm := afterM st (stepM fix st row)
def sayV : Out → List V
  | .told v _ => [.str "told", oV v]
  | .name n => [.str "name", .str n]
  | .blocked n => [.str "blocked", .str n]
  | .nothing => [.str "nothing", .non]
  | .outside n => [.str "outside", .str n]
def oD : Option Str → PyData
  | none => .none
  | some n => .str n
def sayD : Out → PyData
  | .told v _ => .list [.str "told", oD v]
  | .name n => .list [.str "name", .str n]
  | .blocked n => .list [.str "blocked", .str n]
  | .nothing => .list [.str "nothing", .none]
  | .outside n => .list [.str "outside", .str n]
def runM (fix : Bool) (st : Rm) (rows : List Row) : Rm := rows.foldl (nextM fix) st
def outsM (fix : Bool) : Rm → List Row → List Out
  | _, [] => []
  | st, r :: rows => stepM fix st r :: outsM fix (nextM fix st r) rows
theorem runM_app (fix : Bool) (st : Rm) (a b : List Row) : runM fix st (a ++ b) = runM fix (runM fix st a) b := List.foldl_append
theorem outsM_app (fix : Bool) : ∀ (st : Rm) (a b : List Row), outsM fix st (a ++ b) = outsM fix st a ++ outsM fix (runM fix st a) b
  | _, [], _ => rfl
  | st, r :: a, b => by
    show stepM fix st r :: outsM fix (nextM fix st r) (a ++ b) = _
    rw [outsM_app fix _ a b]
    rfl
theorem outsM_len (fix : Bool) : ∀ (st : Rm) (a : List Row), (outsM fix st a).length = a.length
  | _, [] => rfl
  | st, r :: a => congrArg (· + 1) (outsM_len fix _ a)
theorem outsM_snoc (fix : Bool) (st : Rm) (a : List Row) (r : Row) : outsM fix st (a ++ [r]) = outsM fix st a ++ [stepM fix (runM fix st a) r] := outsM_app fix st a [r]
theorem runM_snoc (fix : Bool) (st : Rm) (a : List Row) (r : Row) : runM fix st (a ++ [r]) = nextM fix (runM fix st a) r := runM_app fix st a [r]
def rowN : Row → Prop
  | .undo u => u ∈ us3
  | .drop u n => u ∈ us3 ∧ n ∈ nm4
  | .reg _ u n _ => u ∈ us3 ∧ n ∈ nm4
/-- a good state -/
structure Gd (NS : List Str) (fix : Bool) (n : Nat) (st : Rm) : Prop where
  nd : (st.kept.map (·.1)).Nodup
  ns : ∀ e ∈ st.kept, e.1 ∈ NS
  ins : ∀ e ∈ st.kept, okIn fix e.2 = true
  ln : ∀ e ∈ st.log, e.name ∈ NS ∧ ∀ r, e.before = some r → okIn fix r = true
  ll : st.log.length ≤ n
theorem getM_mem : ∀ {l : List (Str × Rgn)} {n : Str} {r : Rgn}, getM l n = some r → (n, r) ∈ l := by
  intro l n r h
  unfold getM at h
  obtain ⟨e, he, q⟩ := Option.map_eq_some_iff.mp h
  have h1 := List.find?_some he
  have h2 := List.mem_of_find?_eq_some he
  have h3 : e.1 = n := of_decide_eq_true h1
  rw [← h3, ← q]
  exact h2
theorem getM_of {l : List (Str × Rgn)} {n : Str} {r : Rgn} (nd : (l.map (·.1)).Nodup) (h : (n, r) ∈ l) : getM l n = some r := by
  obtain ⟨i, hi, e⟩ := List.mem_iff_getElem.mp h
  exact getM_at nd (i := i) (by rw [List.getElem?_eq_getElem hi, e])
theorem getM_isSome {l : List (Str × Rgn)} {n : Str} (h : n ∈ l.map (·.1)) : ∃ r, getM l n = some r := by
  cases e : getM l n with
  | some r => exact ⟨r, rfl⟩
  | none =>
    obtain ⟨p, hp, q⟩ := List.mem_map.mp h
    unfold getM at e
    have := List.find?_eq_none.mp (Option.map_eq_none_iff.mp e) p hp
    exact absurd (decide_eq_true q) this
theorem setM_names (l : List (Str × Rgn)) (n : Str) (o : Option Rgn) : (setM l n o).map (·.1) = (l.map (·.1)).filter (fun m => !decide (m = n)) ++ (match o with | some _ => [n] | none => []) := by
  unfold setM
  rw [List.map_append, List.filter_map]
  cases o <;> rfl
theorem setM_nd {l : List (Str × Rgn)} {n : Str} {o : Option Rgn} (nd : (l.map (·.1)).Nodup) : ((setM l n o).map (·.1)).Nodup := by
  rw [setM_names]
  refine List.nodup_append.mpr ⟨nd.filter _, ?_, ?_⟩
  · cases o <;> simp
  · intro a ha b hb
    have h1 := (List.mem_filter.mp ha).2
    cases o with
    | none => simp at hb
    | some r =>
      have hb : b = n := by simpa using hb
      subst hb
      intro z
      subst z
      simp at h1
theorem setM_mem {l : List (Str × Rgn)} {n : Str} {o : Option Rgn} {e : Str × Rgn} (h : e ∈ setM l n o) : (e ∈ l ∧ e.1 ≠ n) ∨ (e.1 = n ∧ o = some e.2) := by
  unfold setM at h
  rcases List.mem_append.mp h with h | h
  · obtain ⟨h1, h2⟩ := List.mem_filter.mp h
    exact .inl ⟨h1, by simpa using h2⟩
  · cases o with
    | none => simp at h
    | some r =>
      have h : e = (n, r) := by simpa using h
      subst h
      exact .inr ⟨rfl, rfl⟩
section
variable {NS : List Str} {fix : Bool} {n m : Nat} {st : Rm}
theorem Gd.mono (g : Gd NS fix n st) (h : n ≤ m) : Gd NS fix m st := ⟨g.nd, g.ns, g.ins, g.ln, Nat.le_trans g.ll h⟩
theorem Gd.get (g : Gd NS fix n st) {x : Str} {r : Rgn} (h : getM st.kept x = some r) : okIn fix r = true := g.ins _ (getM_mem h)
theorem Gd.replace (g : Gd NS fix n st) {u wd x : Str} {o : Option Rgn} (hx : x ∈ NS) (ho : ∀ r, o = some r → okIn fix r = true) : Gd NS fix (n + 1) (replaceM st u wd x o) := by
  refine ⟨setM_nd g.nd, fun e he => ?_, fun e he => ?_, fun e he => ?_, ?_⟩
  · rcases setM_mem he with ⟨h, _⟩ | ⟨h, _⟩
    · exact g.ns e h
    · rw [h]; exact hx
  · rcases setM_mem he with ⟨h, _⟩ | ⟨_, h⟩
    · exact g.ins e h
    · exact ho _ h
  · have he : e ∈ st.log ++ [⟨u, wd, x, getM st.kept x⟩] := he
    rcases List.mem_append.mp he with he | he
    · exact g.ln e he
    · have he : e = ⟨u, wd, x, getM st.kept x⟩ := by simpa using he
      subst he
      exact ⟨hx, fun r h => g.get h⟩
  · show (st.log ++ [_]).length ≤ n + 1
    rw [List.length_append]
    exact Nat.add_le_add_right g.ll 1
theorem Gd.undo (g : Gd NS fix n st) (u : Str) : Gd NS fix (n + 1) (afterM st (undoM st u)) := by
  unfold undoM
  split
  · exact g.mono (Nat.le_succ n)
  · rename_i i _
    split
    · exact g.mono (Nat.le_succ n)
    · rename_i e he
      have hm : e ∈ st.log := List.mem_of_getElem? he
      split
      · exact g.mono (Nat.le_succ n)
      · refine ⟨setM_nd g.nd, fun a ha => ?_, fun a ha => ?_, fun a ha => ?_, ?_⟩
        · rcases setM_mem ha with ⟨h, _⟩ | ⟨h, _⟩
          · exact g.ns a h
          · rw [h]; exact (g.ln e hm).1
        · rcases setM_mem ha with ⟨h, _⟩ | ⟨_, h⟩
          · exact g.ins a h
          · exact (g.ln e hm).2 _ h
        · have ha : a ∈ st.log.take i ++ st.log.drop (i + 1) := ha
          rcases List.mem_append.mp ha with ha | ha
          · exact g.ln a (List.mem_of_mem_take ha)
          · exact g.ln a (List.mem_of_mem_drop ha)
        · show (st.log.take i ++ st.log.drop (i + 1)).length ≤ n + 1
          rw [List.length_append, List.length_take, List.length_drop]
          have := g.ll
          omega
theorem Gd.next (g : Gd NS fix n st) {row : Row} (h : rowN row) (hs : ∀ x ∈ nm4, x ∈ NS) : Gd NS fix (n + 1) (nextM fix st row) := by
  unfold nextM
  have g1 := g.mono (Nat.le_succ n)
  cases row with
  | undo u => exact g.undo u
  | drop u x =>
    show Gd NS fix (n + 1) (afterM st (dropM st u x))
    unfold dropM
    split
    · exact g1
    · exact g.replace (hs _ h.2) (fun r z => by cases z)
  | reg k u x r =>
    cases k with
    | put =>
      show Gd NS fix (n + 1) (afterM st (putM fix st u x r))
      unfold putM
      split
      · rename_i q
        exact g.replace (hs _ h.2) (fun r z => by cases z; exact q)
      · exact g1
    | join =>
      show Gd NS fix (n + 1) (afterM st (joinM fix st u x r))
      unfold joinM
      split
      · exact g1
      · split
        · rename_i q
          exact g.replace (hs _ h.2) (fun r z => by cases z; exact q)
        · exact g1
    | cut =>
      show Gd NS fix (n + 1) (afterM st (cutM st u x r))
      unfold cutM
      split
      · exact g1
      · rename_i k0 hk
        refine g.replace (hs _ h.2) (fun r' z => ?_)
        cases z
        have := g.get hk
        cases fix with
        | false => rfl
        | true => exact within_minus this
theorem Gd.run (hs : ∀ x ∈ nm4, x ∈ NS) : ∀ {rows : List Row} {n : Nat} {st : Rm}, Gd NS fix n st → (∀ r ∈ rows, rowN r) → Gd NS fix (n + rows.length) (runM fix st rows)
  | [], _, _, g, _ => g
  | r :: rows, n, st, g, h => by
    have g1 := g.next (h r List.mem_cons_self) hs
    have g2 := Gd.run hs g1 (rows := rows) fun x hx => h x (List.mem_cons_of_mem _ hx)
    rw [List.length_cons]
    have e : n + (rows.length + 1) = n + 1 + rows.length := by omega
    rw [e]
    exact g2
end
theorem Gd.init (NS : List Str) (fix : Bool) : Gd NS fix 0 ⟨[], []⟩ := ⟨.nil, by simp, by simp, by simp, Nat.le_refl _⟩
theorem nodup_len : ∀ {l m : List Str}, l.Nodup → (∀ x ∈ l, x ∈ m) → l.length ≤ m.length
  | [], _, _, _ => Nat.zero_le _
  | x :: l, m, nd, h => by
    rw [List.nodup_cons] at nd
    have hx := h x List.mem_cons_self
    have h1 : l.length ≤ (m.erase x).length := nodup_len nd.2 fun y hy => by
      have hne : y ≠ x := fun z => nd.1 (z ▸ hy)
      exact (List.mem_erase_of_ne hne).mpr (h y (List.mem_cons_of_mem _ hy))
    have h2 := List.length_erase_of_mem hx
    have h3 : 0 < m.length := List.length_pos_of_mem hx
    rw [List.length_cons]
    omega
theorem Gd.lk {NS : List Str} {fix : Bool} {n : Nat} {st : Rm} (g : Gd NS fix n st) : st.kept.length ≤ NS.length := by
  have := nodup_len g.nd (m := NS) fun x hx => by
    obtain ⟨e, he, q⟩ := List.mem_map.mp hx
    rw [← q]
    exact g.ns e he
  rw [List.length_map] at this
  exact this
/-! ### the plain room -/
def regOf (kept : List (Str × Rgn)) (n : Str) : Rgn := (getM kept n).getD ([], false)
def rgsM (kept : List (Str × Rgn)) : List Rgn := (namesM kept).map (regOf kept)
def plainM (kept : List (Str × Rgn)) (ns : List Str) : List (Str × Rgn) := ns.map fun n => (n, regOf kept n)
theorem plain_names (kept : List (Str × Rgn)) (ns : List Str) : (plainM kept ns).map (·.1) = ns := by
  unfold plainM
  rw [List.map_map]
  exact List.map_id' ns
theorem names_nd {kept : List (Str × Rgn)} (nd : (kept.map (·.1)).Nodup) : (namesM kept).Nodup := (namesM_perm kept).nodup_iff.mpr nd
theorem names_mem {kept : List (Str × Rgn)} {n : Str} (h : n ∈ namesM kept) : ∃ r, getM kept n = some r ∧ regOf kept n = r := by
  obtain ⟨r, hr⟩ := getM_isSome ((namesM_perm kept).mem_iff.mp h)
  exact ⟨r, hr, by unfold regOf; rw [hr]; rfl⟩
theorem plain_get {kept : List (Str × Rgn)} {ns : List Str} {n : Str} (nd : ns.Nodup) (h : n ∈ ns) : getM (plainM kept ns) n = some (regOf kept n) := by
  refine getM_of (by rw [plain_names]; exact nd) ?_
  exact List.mem_map.mpr ⟨n, h, rfl⟩
theorem eqKept_of {a b : List (Str × Rgn)} (h1 : a.length = b.length) (h2 : ∀ e ∈ a, getM b e.1 = some e.2) : eqKept a b = true := by
  unfold eqKept
  rw [decide_eq_true h1, Bool.true_and]
  refine List.all_eq_true.mpr fun e he => ?_
  unfold hasM
  rw [h2 e he]
  exact decide_eq_true rfl
theorem eqKept_ne {a b : List (Str × Rgn)} {n : Str} {r t : Rgn} (h : (n, r) ∈ a) (h2 : getM b n = some t) (ne : r ≠ t) : eqKept a b = false := by
  unfold eqKept
  rw [Bool.and_eq_false_iff]
  refine .inr (List.all_eq_false.mpr ⟨_, h, ?_⟩)
  unfold hasM
  rw [h2]
  simpa using ne
theorem eqKept_len {a b : List (Str × Rgn)} (h : a.length ≠ b.length) : eqKept a b = false := by
  unfold eqKept
  rw [decide_eq_false h, Bool.false_and]
theorem eqKept_refl {a : List (Str × Rgn)} (nd : (a.map (·.1)).Nodup) : eqKept a a = true := eqKept_of rfl fun e he => getM_of nd he
section
variable {kept : List (Str × Rgn)}
theorem plain_len : (plainM kept (namesM kept)).length = kept.length := by
  unfold plainM
  rw [List.length_map, namesM_len]
theorem plain_eq (nd : (kept.map (·.1)).Nodup) : eqKept (plainM kept (namesM kept)) kept = true := by
  refine eqKept_of plain_len fun e he => ?_
  obtain ⟨n, hn, q⟩ := List.mem_map.mp he
  subst q
  obtain ⟨r, h1, h2⟩ := names_mem hn
  show getM kept n = some (regOf kept n)
  rw [h1, h2]
theorem plain_eq' (nd : (kept.map (·.1)).Nodup) : eqKept kept (plainM kept (namesM kept)) = true := by
  refine eqKept_of plain_len.symm fun e he => ?_
  have hn : e.1 ∈ namesM kept := (namesM_perm kept).mem_iff.mpr (List.mem_map.mpr ⟨e, he, rfl⟩)
  rw [plain_get (names_nd nd) hn]
  unfold regOf
  rw [getM_of nd (n := e.1) (r := e.2) he]
  rfl
theorem turned_ne (r : Rgn) : turned r ≠ r := fun z => by
  have := congrArg Prod.snd z
  unfold turned at this
  cases r with
  | mk f b => cases b <;> cases this
theorem setM_get {l : List (Str × Rgn)} {n : Str} {r : Rgn} (nd : (l.map (·.1)).Nodup) : getM (setM l n (some r)) n = some r := by
  refine getM_of (setM_nd nd) ?_
  unfold setM
  exact List.mem_append_right _ (by simp)
theorem setM_has {l : List (Str × Rgn)} {n : Str} {r : Rgn} : (n, r) ∈ setM l n (some r) := by
  unfold setM
  exact List.mem_append_right _ (by simp)
theorem unlike1 (nd : (kept.map (·.1)).Nodup) {n : Str} (h : n ∈ namesM kept) : eqKept (setM (plainM kept (namesM kept)) n (some (turned (regOf kept n)))) kept = false := by
  obtain ⟨r, h1, h2⟩ := names_mem h
  rw [h2]
  exact eqKept_ne setM_has h1 (turned_ne r)
theorem unlike2 (nd : (kept.map (·.1)).Nodup) {n : Str} (h : n ∈ namesM kept) : eqKept kept (setM (plainM kept (namesM kept)) n (some (turned (regOf kept n)))) = false := by
  obtain ⟨r, h1, h2⟩ := names_mem h
  rw [h2]
  exact eqKept_ne (getM_mem h1) (setM_get (by rw [plain_names]; exact names_nd nd)) (turned_ne r).symm
theorem unlike3 (nd : (kept.map (·.1)).Nodup) {n : Str} (h : n ∈ namesM kept) : eqKept (setM (plainM kept (namesM kept)) n (some (turned (regOf kept n)))) (plainM kept (namesM kept)) = false :=
  eqKept_ne setM_has (plain_get (names_nd nd) h) (turned_ne _)
theorem setM_new {l : List (Str × Rgn)} {n : Str} {r : Rgn} (h : n ∉ l.map (·.1)) : setM l n (some r) = l ++ [(n, r)] := by
  unfold setM
  rw [List.filter_eq_self.mpr]
  intro e he
  have : e.1 ≠ n := fun z => h (List.mem_map.mpr ⟨e, he, z⟩)
  simpa using this
theorem other1 (hn : ∀ e ∈ kept, e.1 ∈ nm4) : (setM (plainM kept (namesM kept)) "other" (some ([], false))).length ≠ kept.length := by
  rw [setM_new, List.length_append, plain_len]
  · show kept.length + 1 ≠ kept.length
    omega
  · rw [plain_names]
    intro h
    obtain ⟨e, he, q⟩ := List.mem_map.mp ((namesM_perm kept).mem_iff.mp h)
    have := hn e he
    rw [q] at this
    exact absurd this (by decide)
/-- a name is added -/
theorem plain_snoc {ns : List Str} {i : Nat} {n : Str} (nd : ns.Nodup) (h : ns[i]? = some n) : setM (plainM kept (ns.take i)) n (some (regOf kept n)) = plainM kept (ns.take (i + 1)) := by
  have hi := (List.getElem?_eq_some_iff.mp h).1
  have e : ns[i] = n := (List.getElem?_eq_some_iff.mp h).2
  have et : ns.take (i + 1) = ns.take i ++ [n] := by rw [List.take_succ, h]; rfl
  rw [setM_new, et]
  · unfold plainM
    rw [List.map_append]
    rfl
  · rw [plain_names]
    intro hm
    obtain ⟨j, hj, q⟩ := List.mem_iff_getElem.mp hm
    rw [List.length_take] at hj
    rw [List.getElem_take] at q
    have := (List.getElem_inj nd).mp (q.trans e.symm)
    omega
end
end BX
end
section
set_option Elab.async false
set_option linter.all false
set_option maxRecDepth 100000
set_option maxHeartbeats 4000000
/-! functions and lambdas as in BxLam; what is raised is wished for at the slots of the caller -/
namespace BXL
open PySem PySem.Spec PyProof.Rows L2 LamX NdefX BX
section
variable {X : Cx} {i j k n : Nat} {a : Str} {f c' : Addr} {q : Str} {sp : Sp} {W : WX} {p1 p2 : Pos}
theorem run_actsS {pins : List (Addr × Obj)} {σ : L2.St} {H : Hp} {s : Shared} {us : List Value} {vs : List V} {Q : VK} (Ac : Acts X.prog X.w X.K X.mg X.base k X.outer X.s_0 X.H_0 f c' q n sp) (hex : X.ex = []) (hr : Room j X.A) (hk : k ≤ j) (tk : Takes X W) (I : Inv X pins σ H s)
    (hc : H c' = some (CodeO c' q)) (hu : us.length = n) (r : Vals vs us) (h : sp vs H Q (WE W σ)) : wpAny (model X.prog X.w) X.A (call (.ref f) us) (EP X pins σ Q) X.xe s := by
  have un : Un X.fs [] X.H_0 H X.s_0.heap s.heap := by rw [← hex]; exact I.base
  refine wpAny_call (codeAny_mono (Ac.run X.A X.stack s H us vs Q (WE W σ) (hr.mono hk) I.env0 un hc hu r h) fun r s' hq => ?_)
  cases r with
  | error e => exact passAt tk σ pins H s e s' I hq
  | ok fl =>
    cases fl with
    | ret u => exact I.after hq
    | next => exact False.elim hq
    | brk => exact False.elim hq
    | cont => exact False.elim hq
def tActsS (i : Nat) (f c' : Addr) (q : Str) (sp : Sp) (W : WX) : TE := fun σ H Q => σ[i]? = some (some (.ref f)) ∧ H c' = some (CodeO c' q) ∧ sp [] H Q (WE W σ)
theorem pe_acts0S (Ac : Acts X.prog X.w X.K X.mg X.base k X.outer X.s_0 X.H_0 f c' q 0 sp) (hex : X.ex = []) (hr : Room j X.A) (hk : k ≤ j) (tk : Takes X W) (hN : X.N[i]? = some a) (hv : Vis X.env.scope a)
    (hd : (a == ("__debug__" : Str)) = false := by decide) (hcd : (a == ("__classdict__" : Str)) = false := by decide) :
    PE X (.Call (.Name a p1) [] [] p2) (tActsS i f c' q sp W) := by
  refine ⟨fun pins s σ H Q I h => ?_⟩
  obtain ⟨hs, hc, ht⟩ := h
  refine wpAny_Call_Name_kw (thn ((pe_var (pos := p1) hN hv hd hcd).run pins s σ H (fun v H1 => v = .ref f ∧ H1 = H) I ⟨.ref f, hs, rfl, rfl⟩) fun u s1 ⟨v, H1, I1, r1, q1⟩ => ?_)
  obtain ⟨ev, eH⟩ := q1
  subst ev
  rw [eH] at I1
  obtain rfl : u = Value.ref f := r1
  refine PySem.W.callWith_F0 (first := []) (acts_at Ac hex I1) ?_
  show wpAny _ _ (call (.ref f) []) _ _ _
  exact run_actsS Ac hex hr hk tk I1 hc rfl .nil ht
end
section
variable {X : Cx} {T : List (Addr × Str)} {scope : Scope} {N ps fr : List Str} {js : List Nat} {k kl : Nat} {params : Arguments} {body : Expr} {lpos : Pos} {tb : XK → TE} {W : WX}
def tLamAS (T : List (Addr × Str)) (q : Str) (N : List Str) (js : List Nat) (tb : XK → TE) (sp : SpA) (vs0 : List V) (W : WX) : TE := fun σ H Q => Tabs T H ∧ ∀ (lf lc : Addr) (H1 : Hp), ExtN H H1 → Tabs T H1 → H1 lc = some (CodeO lc q) →
  sp lf lc q (fun vs H' Q' E' => tb E' (startF N vs (js.map (slotAt σ))) H' Q') (vs0 ++ [.ref lf]) H1 Q (WE W σ)
theorem pe_lamgS {x : Str} {g : Addr} {j : Nat} {sp : SpA} {p pos : Pos} (G : OkA X.prog X.w X.K X.mg X.base k (kl + 1) ps.length g 1 sp) (hm : X.mg x = some (.ref g)) (hg : Gl X x) (hr : Room j X.A) (hk : k ≤ j) (tk : Takes X W) (L : LamT X T scope N ps fr js) (hdef : defaultsOf params X.env = ([], []))
    (hbind : ∀ (q : Str) (cl : List (Str × Addr)) (pm cv ctv : Value) (us : List Value), us.length = ps.length → bindArgs (PySem.W.kla_fn "<lambda>" q params body scope cl pm cv ctv) ⟨us, []⟩ = pure (ps.zip us))
    (hbody : ∀ (cl : List (Str × Addr)) (c' f : Addr) (A : Around) (outer : List Env) (s : Shared) (H : Hp) (E : XK), Room kl (A.deeper (envF (lamF (X.env.qual ++ "<lambda>") params scope cl c') f s.heap.objs.size)) → Takes (ncx (L2.CX X.prog X.w) X.prog X.w X.K X.mg X.base N (lamF (X.env.qual ++ "<lambda>") params scope cl c') f A outer s H E) (fun cls d _ H => E cls d H) →
      PE (ncx (L2.CX X.prog X.w) X.prog X.w X.K X.mg X.base N (lamF (X.env.qual ++ "<lambda>") params scope cl c') f A outer s H E) body (tb E))
    (hdb : (x == ("__debug__" : Str)) = false := by decide) : PE X (.Call (.Name x p) [.Lambda params body scope lpos] [] pos) (tLamAS T (X.env.qual ++ "<lambda>") N js tb sp [] W) := by
  refine ⟨fun pins s σ H Q I h => ?_⟩
  obtain ⟨hT, h⟩ := h
  refine wpAny_Call_Name_kw (ld_glob I hg hm ?_ hdb)
  refine PySem.W.callWith_K (h₀ := X.base) I.ok.mod.kin G.kp ?_ (by rfl) (by rfl)
  show wpAny _ _ (spliced ((false, eval (.Lambda params body scope lpos) X.env) :: backTo pos (starEach [] X.env))) _ _ s
  refine Calls.spliced_cons (lam_arg I L hT hdef hbind hbody fun lf lc H1 s' I1 eN T1 hco Ac => ?_)
  refine Calls.spliced_nil ⟨I1.kIn, ?_⟩
  show wpAny _ _ (call (.ref g) [.ref lf]) _ _ _
  refine wpAny_call (codeAny_mono (G.run X.A X.stack s' H1 [.ref lf] [.ref lf] Q (WE W σ) lf lc _ _ (hr.mono hk) I1.env0 rfl (.cons rfl .nil) Ac (h lf lc H1 eN T1 hco)) fun r s2 hq => ?_)
  cases r with
  | error e => exact passAt tk σ pins H1 s' e s2 I1 hq
  | ok fl =>
    cases fl with
    | ret u => exact I1.after hq
    | next => exact False.elim hq
    | brk => exact False.elim hq
    | cont => exact False.elim hq
def tLamMS (T : List (Addr × Str)) (q : Str) (N : List Str) (js : List Nat) (tb : XK → TE) (C : Addr) (m : Str) (sp : SpA) (ta : TE) (W : WX) : TE := fun σ H Q => ta σ H fun x H1 => ∃ a dx fs, x = .ref a ∧ H1 a = some (.ins C dx fs) ∧ fs.lookup m = none ∧ tLamAS T q N js tb sp [.ref a] W σ H1 Q
theorem pe_lammS {m : Str} {g C : Addr} {j : Nat} {sp : SpA} {apos pos : Pos} {o : Expr} {ta : TE} {pl : Sem Bool} (G : OkA X.prog X.w X.K X.mg X.base k (kl + 1) ps.length g 2 sp) (he : PE X o ta) (c : Cls X.K C) (me : Meth X.K C m g) (hr : Room j X.A) (hk : k ≤ j) (tk : Takes X W) (L : LamT X T scope N ps fr js) (hdef : defaultsOf params X.env = ([], []))
    (hbind : ∀ (q : Str) (cl : List (Str × Addr)) (pm cv ctv : Value) (us : List Value), us.length = ps.length → bindArgs (PySem.W.kla_fn "<lambda>" q params body scope cl pm cv ctv) ⟨us, []⟩ = pure (ps.zip us))
    (hbody : ∀ (cl : List (Str × Addr)) (c' f : Addr) (A : Around) (outer : List Env) (s : Shared) (H : Hp) (E : XK), Room kl (A.deeper (envF (lamF (X.env.qual ++ "<lambda>") params scope cl c') f s.heap.objs.size)) → Takes (ncx (L2.CX X.prog X.w) X.prog X.w X.K X.mg X.base N (lamF (X.env.qual ++ "<lambda>") params scope cl c') f A outer s H E) (fun cls d _ H => E cls d H) →
      PE (ncx (L2.CX X.prog X.w) X.prog X.w X.K X.mg X.base N (lamF (X.env.qual ++ "<lambda>") params scope cl c') f A outer s H E) body (tb E))
    (ht : eval (.Call (.Attribute o m apos) [.Lambda params body scope lpos] [] pos) X.env = (do
      let ov ← eval o X.env
      standAt apos.atName
      let (f, first) ← holding [ov] (getMethod ov m pl)
      callWith pos f first (backTo pos (starEach [.Lambda params body scope lpos] X.env)) (backToKw pos (keywordEach [] X.env))) := by rfl) :
    PE X (.Call (.Attribute o m apos) [.Lambda params body scope lpos] [] pos) (tLamMS T (X.env.qual ++ "<lambda>") N js tb C m sp ta W) := by
  refine ⟨fun pins s σ H Q I h => ?_⟩
  refine PySem.W.methodCall_KW (pl := pl) (thn (he.run pins s σ H _ I h) fun u s1 ⟨x, H0, I0, rx, a, dx, fs, ex, ea, l, hT, h0⟩ => ?_) ht
  subst ex
  obtain rfl : u = Value.ref a := rx
  refine getmeth_ok I0 ea c me l ?_
  refine PySem.W.callWith_K (first := [.ref a]) (h₀ := X.base) I.ok.mod.kin me.kp ?_ (by rfl) (by rfl)
  show wpAny _ _ (spliced ((false, eval (.Lambda params body scope lpos) X.env) :: backTo pos (starEach [] X.env))) _ _ s1
  refine Calls.spliced_cons (lam_arg I0 L hT hdef hbind hbody fun lf lc H1 s' I1 eN T1 hco Ac => ?_)
  refine Calls.spliced_nil ⟨I1.kIn, ?_⟩
  show wpAny _ _ (call (.ref g) [.ref a, .ref lf]) _ _ _
  refine wpAny_call (codeAny_mono (G.run X.A X.stack s' H1 [.ref a, .ref lf] [.ref a, .ref lf] Q (WE W σ) lf lc _ _ (hr.mono hk) I1.env0 rfl (.cons rfl (.cons rfl .nil)) Ac (h0 lf lc H1 eN T1 hco)) fun r s2 hq => ?_)
  cases r with
  | error e => exact passAt tk σ pins H1 s' e s2 I1 hq
  | ok fl =>
    cases fl with
    | ret u => exact I1.after hq
    | next => exact False.elim hq
    | brk => exact False.elim hq
    | cont => exact False.elim hq
end
end BXL
end
section
set_option Elab.async false
set_option linter.all false
set_option maxRecDepth 100000
set_option maxHeartbeats 4000000
namespace BX
open PySem PySem.Spec PyProof.Rows L2 ClX LamX
/-! ### regions and rows out of a pool -/
/-- what the law's defs use of the regions -/
structure RgK (P : Program) (w : World) (K : PySem.W.Frag) (mg : Str → Option Value) (base : Heap) (CR : Addr) where
  G : RegC K mg CR
  sf : PySem.W.selfFirst K CR = true
  fO : Addr
  hO : At P w K mg base 5 fO (spUni K CR)
  mO : Meth K CR "__or__" fO
  fI : Addr
  hI : At P w K mg base 4 fI (spTurn K CR)
  mI : Meth K CR "__invert__" fI
  mc : Value
  cr : CRead K CR mc
  fE : Addr
  pE : Addr
  hE : At P w K mg base 3 fE (spREmp K CR)
  sm : SMet K CR mc "empty" pE fE
  fOf : Addr
  pOf : Addr
  hOf : FnR P w K mg base C8.CX0 5 fOf (spOf K CR)
  cm : CMet K CR mc "of" pOf fOf
  fW : Addr
  hW : At P w K mg base 6 fW (spWith K CR)
  mW : Meth K CR "within" fW
  fQ : Addr
  hQ : At P w K mg base 1 fQ (spREq K CR)
  sQ : PySem.W.findIn K (.ref CR) "__eq__" = some (some (.ref fQ))
  fnQ : PySem.W.isFn K (.ref fQ) = true
theorem kq_kr {CR q : Addr} {H H' : Hp} (h : PoolAt H q) (k : Kp q H H') : Kr CR H H' := by
  obtain ⟨c, z, e, _⟩ := h
  exact (St.of (T := []) k (pl_lst e)).krL e
def spLRegion (K : PySem.W.Frag) (CR : Addr) : Sp := fun vs H Q _ => ∃ q : Addr, vs = [.ref q] ∧ PoolAt H q ∧ ∀ z r H', Kp q H H' → PoolAt H' q → RegAt K CR H' z r → Q z H'
abbrev nLReg : List Str := ["_law_pool_here", "_law_found", "_law_turn", "_law_x", "_law_y"]
theorem scLReg : FnScope nLReg ["_law_pool_here"] (defScope sLRegion) := C8.fnScope_by (by decide +kernel)
def Kd.str : Kd → Str
  | .put => "put"
  | .join => "join"
  | .cut => "cut"
def RowAt (K : PySem.W.Frag) (CR : Addr) (H : Hp) (v : V) : Row → Prop
  | .undo u => ∃ t, v = .ref t ∧ H t = some (.tup [.str "undo", .str u])
  | .drop u n => ∃ t, v = .ref t ∧ H t = some (.tup [.str "drop", .str u, .str n])
  | .reg k u n r => ∃ t z, v = .ref t ∧ H t = some (.tup [.str k.str, .str u, .str n, z]) ∧ RegAt K CR H z r
theorem RowAt.kr {K : PySem.W.Frag} {CR : Addr} {H H' : Hp} {v : V} {row : Row} (s : Kr CR H H') (h : RowAt K CR H v row) : RowAt K CR H' v row := by
  cases row with
  | undo u => obtain ⟨t, e, h⟩ := h; exact ⟨t, e, s.tk.tup _ _ h⟩
  | drop u n => obtain ⟨t, e, h⟩ := h; exact ⟨t, e, s.tk.tup _ _ h⟩
  | reg k u n r => obtain ⟨t, z, e, h, hz⟩ := h; exact ⟨t, z, e, s.tk.tup _ _ h, hz.kr s⟩
def spLRow (K : PySem.W.Frag) (CR : Addr) : Sp := fun vs H Q _ => ∃ q : Addr, vs = [.ref q] ∧ PoolAt H q ∧ ∀ z row H', Kp q H H' → PoolAt H' q → RowAt K CR H' z row → rowN row → Q z H'
abbrev nLRow : List Str := ["_law_pool_here", "_law_word", "_law_user", "_law_name"]
theorem scLRow : FnScope nLRow ["_law_pool_here"] (defScope sLRow) := C8.fnScope_by (by decide +kernel)
theorem pick {ws : List Str} {v : Nat} (h : (v : Int) < ws.length) : ∃ x ∈ ws, atI (ws.map V.str) (v : Int) = some (.str x) := by
  have h : v < ws.length := by omega
  exact ⟨ws[v], List.getElem_mem h, atI_nat (by rw [List.getElem?_map, List.getElem?_eq_getElem h]; rfl)⟩
def wds7 : List Str := ["put", "put", "join", "cut", "drop", "undo", "undo"]
section
variable {P : Program} {w : World} {K : PySem.W.Frag} {mg : Str → Option Value} {base : Heap} {f CR : Addr} {fd : FuncData}
theorem ok_lregion (F : FnQ K "_law_region" "_law_region" sLRegion f fd) (B : Bt mg) (R : RgK P w K mg base CR) (CT : C8.Cal P w K mg base 1 "_law_take" spTake []) : At P w K mg base 6 f (spLRegion K CR) := by
  refine atP F scLReg (fun _ _ _ _ _ _ us hl => match us, hl with | [_], _ => rfl) (fun vs H Q E h => ?_) (fun cdv A outer s H vs Q E hr h => ?_)
  · obtain ⟨q, rfl, _⟩ := h
    rfl
  · obtain ⟨q, rfl, hq, k⟩ := h
    refine ⟨_, pss_cons (ps_set (i := 1) scLReg.nd rfl (Or.inl rfl) (pe_sm0 R.hE hr (by omega) (pe_glob (v := .ref CR) (by rfl) R.G.g rfl) R.cr R.sm))
      (pss_cons (ps_for PassesOwn.never rfl (pi_range1 (by rfl) B.range (pa_cons (C8.pe_c CT hr (by omega) (by rfl) (pa_cons (pv 0) (pa_cons pe_int pa_nil))) pa_nil)) (pg_name (i := 2) scLReg.nd rfl (Or.inl rfl))
        (pss_cons (ps_par (i := 3) (j := 4) rfl scLReg.nd rfl rfl (by decide) rfl rfl (pa_cons (C8.pe_c CT hr (by omega) (by rfl) (pa_cons (pv 0) (pa_cons pe_int pa_nil))) (pa_cons (C8.pe_c CT hr (by omega) (by rfl) (pa_cons (pv 0) (pa_cons pe_int pa_nil))) pa_nil)) (by rfl))
        (pss_one (ps_set (i := 1) scLReg.nd rfl (Or.inl rfl) (pe_op (op_own R.hO (hr.mono (by omega)) R.sf R.mO) (pv 1)
          (pe_cmeth (E := C8.E0) (pe_glob (v := .ref CR) (by rfl) R.G.g rfl) R.cr R.cm R.hOf (hr.mono (by omega)) C8.pass0
            (pa_cons (pe_tup (pa_cons (pv 3) (pa_cons (pv 4) (pa_cons (pe_op op_add (pe_op op_add (pv 3) pe_int) (C8.pe_c CT hr (by omega) (by rfl) (pa_cons (pv 0) (pa_cons pe_int pa_nil)))) (pa_cons (pe_op op_add (pe_op op_add (pv 4) pe_int) (C8.pe_c CT hr (by omega) (by rfl) (pa_cons (pv 0) (pa_cons pe_int pa_nil)))) pa_nil))))) pa_nil)))))))
      (pss_one (ps_ret (pe_ifExp (pt_cmpR op_eq (C8.pe_c CT hr (by omega) (by rfl) (pa_cons (pv 0) (pa_cons pe_int pa_nil))) pe_int (nomark _)) (pe_un (un_own R.hI (hr.mono (by omega)) R.mI) (pv 1)) (pv 1))))), ?_⟩
    refine ⟨rfl, rfl, fun z H1 s1 hz => ?_⟩
    refine ⟨_, rfl, q, 4, rfl, hq.same s1, by decide, by decide, fun v H2 k2 p2 hv => ?_⟩
    refine ⟨_, rfl, by omega, by omega, ?_⟩
    have k02 : Kp q H H2 := (Kp.of s1).trans k2
    refine walkF (walk_range (lo := 0) (n := (v : Int).toNat)) (fun i σ H' => ∃ (y : V) (r : Rgn) (x2 x3 x4 : Option V), σ = [some (.ref q), some y, x2, x3, x4] ∧ Kp q H H' ∧ PoolAt H' q ∧ RegAt K CR H' y r) ⟨z, _, none, none, none, rfl, k02, p2, hz.kr (kq_kr (hq.same s1) k2)⟩ (fun _ _ _ _ _ => trivial) ?_ ?_
    · rintro i y σ H3 H4 hi ⟨y1, r, x2, x3, x4, rfl, k3, p3, hr3⟩ ⟨rfl, rfl⟩
      refine ⟨_, rfl, q, 5, rfl, p3, by decide, by decide, fun vx H5 k5 p5 hvx => ?_⟩
      refine ⟨_, rfl, q, 5, rfl, p5, by decide, by decide, fun vy H6 k6 p6 hvy => ?_⟩
      refine ⟨_, _, rfl, ?_⟩
      refine ⟨_, rfl, rfl, _, rfl, _, rfl, _, rfl, _, _, rfl, rfl, _, rfl, q, 3, rfl, p6, by decide, by decide, fun vw H7 k7 p7 hvw => ?_⟩
      refine ⟨_, _, rfl, rfl, _, rfl, _, _, rfl, rfl, _, rfl, q, 3, rfl, p7, by decide, by decide, fun vh H8 k8 p8 hvh => ?_⟩
      refine ⟨_, _, rfl, rfl, by show 4 ≤ sizeLine; decide, fun t ht => ?_⟩
      have s9 : Same H8 (upd H8 t (.tup [.int (vx : Int), .int (vy : Int), .int ((vx : Int) + 1 + (vw : Int)), .int ((vy : Int) + 1 + (vh : Int))])) := Same.upd1 ht
      refine ⟨t, ((vx : Int), (vy : Int), (vx : Int) + 1 + (vw : Int), (vy : Int) + 1 + (vh : Int)), rfl, SqT.of upd_same, ?_, fun z2 H10 s10 hz2 => ?_⟩
      · constructor <;> first | (show (_ : Int) ≤ _ ∧ (_ : Int) ≤ _; constructor <;> dsimp only <;> omega) | (dsimp only; omega)
      have k38 : Kp q H4 H8 := k5.trans (k6.trans (k7.trans k8))
      have s810 : Same H8 H10 := s9.trans s10
      have hr10 : RegAt K CR H10 y1 r := (hr3.kr (kq_kr p3 k38)).same s810
      obtain ⟨xa, dxa, fva, rfl, hxa, hfa⟩ := id hr10
      obtain ⟨xb, dxb, fvb, rfl, hxb, hfb⟩ := id hz2
      refine ⟨xa, xb, dxa, dxb, _, _, rfl, rfl, hxa, hxb, V.ref xa, V.ref xb, _, _, rfl, hr10, hz2, fun y3 H11 s11 hy3 => ?_⟩
      have s811 : Same H8 H11 := s810.trans s11
      exact ⟨y3, _, _, _, _, rfl, k3.trans (k38.trans (Kp.of s811)), p8.same s811, hy3⟩
    · rintro σ H3 ⟨y1, r, x2, x3, x4, rfl, k3, p3, hr3⟩
      refine ⟨_, rfl, q, 8, rfl, p3, by decide, by decide, fun v3 H4 k4 p4 hv3 => ?_⟩
      have hr4 := hr3.kr (kq_kr (CR := CR) p3 k4)
      refine ⟨rfl, _, rfl, ?_⟩
      refine ite2 (fun _ => ?_) (fun _ => ?_)
      · obtain ⟨xa, dxa, fva, rfl, hxa, hfa⟩ := id hr4
        exact ⟨_, rfl, xa, dxa, _, rfl, hxa, V.ref xa, r, rfl, hr4, fun z5 H5 s5 hz5 => k z5 _ H5 (k3.trans (k4.trans (Kp.of s5))) (p4.same s5) hz5⟩
      · exact ⟨_, rfl, k _ _ H4 (k3.trans k4) p4 hr4⟩
theorem ok_lrow (F : FnQ K "_law_row" "_law_row" sLRow f fd) (CT : C8.Cal P w K mg base 1 "_law_take" spTake []) (CG : C8.Cal P w K mg base 6 "_law_region" (spLRegion K CR) []) : At P w K mg base 7 f (spLRow K CR) := by
  refine atP F scLRow (fun _ _ _ _ _ _ us hl => match us, hl with | [_], _ => rfl) (fun vs H Q E h => ?_) (fun cdv A outer s H vs Q E hr h => ?_)
  · obtain ⟨q, rfl, _⟩ := h
    rfl
  · obtain ⟨q, rfl, hq, k⟩ := h
    refine ⟨_, pss_cons (ps_set (i := 1) scLRow.nd rfl (Or.inl rfl) (pe_ix ix_list (pe_lst (pa_cons pe_str (pa_cons pe_str (pa_cons pe_str (pa_cons pe_str (pa_cons pe_str (pa_cons pe_str (pa_cons pe_str pa_nil)))))))) (C8.pe_c CT hr (by omega) (by rfl) (pa_cons (pv 0) (pa_cons pe_int pa_nil))) (fun _ _ => rfl)))
      (pss_cons (ps_par (i := 2) (j := 3) rfl scLRow.nd rfl rfl (by decide) rfl rfl (pa_cons (pe_ix ix_list (pe_lst (pa_cons pe_str (pa_cons pe_str (pa_cons pe_str pa_nil)))) (C8.pe_c CT hr (by omega) (by rfl) (pa_cons (pv 0) (pa_cons pe_int pa_nil))) (fun _ _ => rfl))
        (pa_cons (pe_ix ix_list (pe_lst (pa_cons pe_str (pa_cons pe_str (pa_cons pe_str (pa_cons pe_str pa_nil))))) (C8.pe_c CT hr (by omega) (by rfl) (pa_cons (pv 0) (pa_cons pe_int pa_nil))) (fun _ _ => rfl)) pa_nil)) (by rfl))
      (pss_cons (ps_if (pt_cmpR op_eq (pv 1) pe_str (nomark _)) (pss_one (ps_ret (pe_tup (pa_cons (pv 1) (pa_cons (pv 2) pa_nil))))) pss_nil)
      (pss_one (ps_ret (pe_ifExp (pt_cmpR op_eq (pv 1) pe_str (nomark _)) (pe_tup (pa_cons (pv 1) (pa_cons (pv 2) (pa_cons (pv 3) pa_nil)))) (pe_tup (pa_cons (pv 1) (pa_cons (pv 2) (pa_cons (pv 3) (pa_cons (C8.pe_c CG hr (by omega) (by rfl) (pa_cons (pv 0) pa_nil)) pa_nil)))))))))), ?_⟩
    have nq : ∀ {H1 : Hp} {l : Addr}, PoolAt H1 q → H1 l = none → l ≠ q := fun {H1 l} p e z => by
      obtain ⟨_, _, e2, _⟩ := p
      rw [z, e2] at e
      cases e
    refine ⟨by show 7 ≤ sizeLine; decide, fun l1 hl1 => ⟨_, rfl, q, 7, rfl, hq.same (Same.upd1 hl1), by decide, by decide, fun v1 H1 k1 p1 hv1 => ?_⟩⟩
    obtain ⟨wd, hwd, ewd⟩ := pick (ws := wds7) (v := v1) hv1
    refine ⟨l1, wds7.map V.str, _, _, rfl, rfl, SqL.of (k1 l1 _ (nq hq hl1) (by exact upd_same)), ewd, ?_⟩
    have k01 : Kp q H H1 := (Kp.of (Same.upd1 hl1)).trans k1
    refine ⟨by show 3 ≤ sizeLine; decide, fun l2 hl2 => ⟨_, rfl, q, 3, rfl, p1.same (Same.upd1 hl2), by decide, by decide, fun v2 H2 k2 p2 hv2 => ?_⟩⟩
    obtain ⟨u, hu, eu⟩ := pick (ws := us3) (v := v2) hv2
    refine ⟨l2, us3.map V.str, _, _, rfl, rfl, SqL.of (k2 l2 _ (nq p1 hl2) (by exact upd_same)), eu, ?_⟩
    have k02 : Kp q H H2 := k01.trans ((Kp.of (Same.upd1 hl2)).trans k2)
    refine ⟨by show 4 ≤ sizeLine; decide, fun l3 hl3 => ⟨_, rfl, q, 4, rfl, p2.same (Same.upd1 hl3), by decide, by decide, fun v3 H3 k3 p3 hv3 => ?_⟩⟩
    obtain ⟨n, hn, en⟩ := pick (ws := nm4) (v := v3) hv3
    refine ⟨l3, nm4.map V.str, _, _, rfl, rfl, SqL.of (k3 l3 _ (nq p2 hl3) (by exact upd_same)), en, ?_⟩
    have k03 : Kp q H H3 := k02.trans ((Kp.of (Same.upd1 hl3)).trans k3)
    refine ⟨_, _, rfl, _, rfl, rfl, _, rfl, ?_⟩
    have cases5 : wd = "undo" ∨ wd = "drop" ∨ ∃ kd : Kd, wd = kd.str ∧ wd ≠ "undo" ∧ wd ≠ "drop" := by
      unfold wds7 at hwd
      simp only [List.mem_cons, List.not_mem_nil, or_false] at hwd
      rcases hwd with rfl | rfl | rfl | rfl | rfl | rfl | rfl
      · exact .inr (.inr ⟨.put, rfl, by decide, by decide⟩)
      · exact .inr (.inr ⟨.put, rfl, by decide, by decide⟩)
      · exact .inr (.inr ⟨.join, rfl, by decide, by decide⟩)
      · exact .inr (.inr ⟨.cut, rfl, by decide, by decide⟩)
      · exact .inr (.inl rfl)
      · exact .inl rfl
      · exact .inl rfl
    have dec : ∀ {a b : Str}, decide (V.str a = V.str b) = decide (a = b) := fun {a b} => by
      rw [Bool.eq_iff_iff, decide_eq_true_iff, decide_eq_true_iff]
      exact ⟨fun z => by cases z; rfl, fun z => by rw [z]⟩
    rw [dec]
    rcases cases5 with rfl | rfl | ⟨kd, e, n1, n2⟩
    · refine iteT ⟨_, rfl, _, rfl, by show 2 ≤ sizeLine; decide, fun t ht => ?_⟩
      exact k _ (.undo u) _ (k03.trans (Kp.of (Same.upd1 ht))) (p3.same (Same.upd1 ht)) ⟨t, rfl, upd_same⟩ hu
    · refine iteF ⟨_, rfl, rfl, _, rfl, ?_⟩
      rw [dec]
      refine iteT ⟨_, rfl, _, rfl, _, rfl, by show 3 ≤ sizeLine; decide, fun t ht => ?_⟩
      exact k _ (.drop u n) _ (k03.trans (Kp.of (Same.upd1 ht))) (p3.same (Same.upd1 ht)) ⟨t, rfl, upd_same⟩ ⟨hu, hn⟩
    · rw [decide_eq_false n1]
      refine iteF ⟨_, rfl, rfl, _, rfl, ?_⟩
      rw [dec, decide_eq_false n2]
      refine iteF ⟨_, rfl, _, rfl, _, rfl, _, rfl, q, rfl, p3, fun z r H4 k4 p4 hz => ⟨by show 4 ≤ sizeLine; decide, fun t ht => ?_⟩⟩
      exact k _ (.reg kd u n r) _ (k03.trans (k4.trans (Kp.of (Same.upd1 ht)))) (p4.same (Same.upd1 ht)) ⟨t, z, rfl, by rw [← e]; exact upd_same, hz.same (Same.upd1 ht)⟩ ⟨hu, hn⟩
end
end BX
end
section
set_option Elab.async false
set_option linter.all false
set_option maxRecDepth 100000
set_option maxHeartbeats 4000000
namespace BX
open PySem PySem.Spec PyProof.Rows L2 ClX LamX BXW BXL BXG
abbrev sAct : Stmt := topS 57
abbrev sTold : Stmt := topS 58
abbrev sLTried : Stmt := topS 60
/-! ### a room's methods, of the class at C -/
structure RmK (P : Program) (w : World) (K : PySem.W.Frag) (mg : Str → Option Value) (base : Heap) (ad : Ad) (CM CT C : Addr) (fix : Bool) where
  R : RmC K C
  ne : C ≠ ad.CR
  fPut : Addr
  hPut : AtX P w K mg base 11 fPut (spPut K ad C fix)
  mPut : Meth K C "put" fPut
  fJoin : Addr
  hJoin : AtX P w K mg base 11 fJoin (spJoin K ad C fix)
  mJoin : Meth K C "join" fJoin
  fCut : Addr
  hCut : AtX P w K mg base 10 fCut (spCut K ad C fix)
  mCut : Meth K C "cut" fCut
  fDrop : Addr
  hDrop : AtX P w K mg base 10 fDrop (spDrop K ad C fix)
  mDrop : Meth K C "drop" fDrop
  fUndo : Addr
  hUndo : AtX P w K mg base 10 fUndo (spUndo K ad C fix)
  mUndo : Meth K C "undo" fUndo
  fRgn : Addr
  hRgn : AtX P w K mg base 4 fRgn (spRgn K ad.CR C ad.CN)
  mRgn : Meth K C "region" fRgn
  fNm : Addr
  dNm : FuncData
  hNm : GFn P w K mg base 1 fNm dNm ["self"] (spNmG K ad.CR C)
  hNm1 : G1Fn P w K mg base 1 fNm dNm ["self"] (spNm1 K ad.CR C)
  bNm : Binds K dNm ["self"] []
  mNm : Meth K C "names" fNm
  fLog : Addr
  hLog : At P w K mg base 1 fLog (spLog K ad.CR C)
  mLog : Meth K C "log" fLog
  fWh : Addr
  pWh : Addr
  hWh : At P w K mg base 6 fWh (spWhole K ad.CR C)
  mWh : PropOf K C "whole" pWh fWh
  fTr : Addr
  hTr : ∀ k kl, 4 ≤ k → kl ≤ k → OkA P w K mg base (k + 1) kl 1 fTr 2 (spTried K C CT)
  mTr : Meth K C "tried" fTr
  fCp : Addr
  hCp : At P w K mg base 7 fCp (spCopy K ad C fix)
  mCp : Meth K C "copy" fCp
  fLen : Addr
  hLen : At P w K mg base 1 fLen (spRmLen K ad.CR C)
  mLen : Meth K C "__len__" fLen
  fEq : Addr
  hEq : At P w K mg base 3 fEq (spRmEq K ad.CR CM C)
  tEq : EqC K C fEq
def spAct (K : PySem.W.Frag) (ad : Ad) (cf : Bool → Addr) : Sp := fun vs H Q E => ∃ (fix : Bool) (p dx d l : Addr) (fx : List (Str × V)) (st : Rm) (v : V) (row : Row), vs = [.ref p, v] ∧ RmIn K ad (cf fix) fix fx H p dx d l st ∧ RowAt K ad.CR H v row ∧ rowN row ∧
  RmRes K ad (cf fix) fx H p dx Q E (stepM fix st row)
abbrev nAct : List Str := ["_law_room", "_law_row_here"]
theorem scAct : FnScope nAct nAct (defScope sAct) := C8.fnScope_by (by decide +kernel)
theorem okW_us : ∀ u ∈ us3, okW u = true := by decide +kernel
theorem okW_nm : ∀ u ∈ nm4, okW u = true := by decide +kernel
section
variable {P : Program} {w : World} {K : PySem.W.Frag} {mg : Str → Option Value} {base : Heap} {f CM CT : Addr} {fd : FuncData} {ad : Ad} {cf : Bool → Addr}
theorem ok_act (F : FnQ K "_law_act" "_law_act" sAct f fd) (MK : ∀ fix, RmK P w K mg base ad CM CT (cf fix) fix) : AtX P w K mg base 12 f (spAct K ad cf) := by
  refine atR F scAct (fun _ _ _ _ _ _ us hl => match us, hl with | [_, _], _ => rfl) (fun vs H Q E h => ?_) (fun cdv A outer s H vs Q E hr tk h => ?_)
  · obtain ⟨fix, p, dx, d, l, fx, st, v, row, rfl, _⟩ := h
    rfl
  · obtain ⟨fix, p, dx, d, l, fx, st, v, row, rfl, hR, hv, hn, k⟩ := h
    have M := MK fix
    have ps := passes_call tk (E := E) (fun _ _ _ _ z => z)
    refine ⟨_, pss_cons (ps_if (pt_cmpR op_eq (pe_ix ix_tup (pv 1) pe_int (fun _ _ => rfl)) pe_str (nomark _)) (pss_one (ps_ret (pe_mtX M.hPut M.R.i.cl M.mPut hr (by omega) ps (pv 0) (pa_cons (pe_ix ix_tup (pv 1) pe_int (fun _ _ => rfl)) (pa_cons (pe_ix ix_tup (pv 1) pe_int (fun _ _ => rfl)) (pa_cons (pe_ix ix_tup (pv 1) pe_int (fun _ _ => rfl)) pa_nil)))))) pss_nil)
      (pss_cons (ps_if (pt_cmpR op_eq (pe_ix ix_tup (pv 1) pe_int (fun _ _ => rfl)) pe_str (nomark _)) (pss_one (ps_ret (pe_mtX M.hJoin M.R.i.cl M.mJoin hr (by omega) ps (pv 0) (pa_cons (pe_ix ix_tup (pv 1) pe_int (fun _ _ => rfl)) (pa_cons (pe_ix ix_tup (pv 1) pe_int (fun _ _ => rfl)) (pa_cons (pe_ix ix_tup (pv 1) pe_int (fun _ _ => rfl)) pa_nil)))))) pss_nil)
      (pss_cons (ps_if (pt_cmpR op_eq (pe_ix ix_tup (pv 1) pe_int (fun _ _ => rfl)) pe_str (nomark _)) (pss_one (ps_ret (pe_mtX M.hCut M.R.i.cl M.mCut hr (by omega) ps (pv 0) (pa_cons (pe_ix ix_tup (pv 1) pe_int (fun _ _ => rfl)) (pa_cons (pe_ix ix_tup (pv 1) pe_int (fun _ _ => rfl)) (pa_cons (pe_ix ix_tup (pv 1) pe_int (fun _ _ => rfl)) pa_nil)))))) pss_nil)
      (pss_one (ps_ret (pe_ifExp (pt_cmpR op_eq (pe_ix ix_tup (pv 1) pe_int (fun _ _ => rfl)) pe_str (nomark _)) (pe_mtX M.hDrop M.R.i.cl M.mDrop hr (by omega) ps (pv 0) (pa_cons (pe_ix ix_tup (pv 1) pe_int (fun _ _ => rfl)) (pa_cons (pe_ix ix_tup (pv 1) pe_int (fun _ _ => rfl)) pa_nil)))
        (pe_mtX M.hUndo M.R.i.cl M.mUndo hr (by omega) ps (pv 0) (pa_cons (pe_ix ix_tup (pv 1) pe_int (fun _ _ => rfl)) pa_nil))))))), ?_⟩
    have hobj := hR.at_.obj
    have nat : ∀ {m : Str}, (m == ("kept" : Str)) = false → (m == ("calls" : Str)) = false → (m == ("own_frame" : Str)) = false → (roomF d l fx).lookup m = none := fun h1 h2 h3 => hR.at_.fxo.look h1 h2 h3
    cases row with
    | undo u =>
      obtain ⟨t, rfl, ht⟩ := hv
      have T := SqT.of (K := K) ht
      refine ⟨_, rfl, t, _, _, _, rfl, rfl, T, rfl, rfl, _, rfl, iteF ?_⟩
      refine ⟨_, rfl, t, _, _, _, rfl, rfl, T, rfl, rfl, _, rfl, iteF ?_⟩
      refine ⟨_, rfl, t, _, _, _, rfl, rfl, T, rfl, rfl, _, rfl, iteF ?_⟩
      refine ⟨_, rfl, t, _, _, _, rfl, rfl, T, rfl, rfl, _, rfl, iteF ?_⟩
      exact ⟨_, rfl, p, dx, _, rfl, hobj, nat (by decide) (by decide) (by decide), _, rfl, t, _, _, _, rfl, rfl, T, rfl, p, dx, d, l, fx, st, u, rfl, hR, okW_us u hn, k⟩
    | drop u n =>
      obtain ⟨t, rfl, ht⟩ := hv
      have T := SqT.of (K := K) ht
      refine ⟨_, rfl, t, _, _, _, rfl, rfl, T, rfl, rfl, _, rfl, iteF ?_⟩
      refine ⟨_, rfl, t, _, _, _, rfl, rfl, T, rfl, rfl, _, rfl, iteF ?_⟩
      refine ⟨_, rfl, t, _, _, _, rfl, rfl, T, rfl, rfl, _, rfl, iteF ?_⟩
      refine ⟨_, rfl, t, _, _, _, rfl, rfl, T, rfl, rfl, _, rfl, iteT ?_⟩
      exact ⟨_, rfl, p, dx, _, rfl, hobj, nat (by decide) (by decide) (by decide), _, rfl, t, _, _, _, rfl, rfl, T, rfl, _, rfl, t, _, _, _, rfl, rfl, T, rfl, p, dx, d, l, fx, st, u, n, rfl, hR, okW_us u hn.1, okW_nm n hn.2, k⟩
    | reg kd u n r =>
      obtain ⟨t, z, rfl, ht, hz⟩ := hv
      have T := SqT.of (K := K) ht
      cases kd with
      | put =>
        refine ⟨_, rfl, t, _, _, _, rfl, rfl, T, rfl, rfl, _, rfl, iteT ?_⟩
        exact ⟨_, rfl, p, dx, _, rfl, hobj, nat (by decide) (by decide) (by decide), _, rfl, t, _, _, _, rfl, rfl, T, rfl, _, rfl, t, _, _, _, rfl, rfl, T, rfl, _, rfl, t, _, _, _, rfl, rfl, T, rfl, p, dx, d, l, fx, st, u, n, z, r, rfl, hR, okW_us u hn.1, okW_nm n hn.2, hz, k⟩
      | join =>
        refine ⟨_, rfl, t, _, _, _, rfl, rfl, T, rfl, rfl, _, rfl, iteF ?_⟩
        refine ⟨_, rfl, t, _, _, _, rfl, rfl, T, rfl, rfl, _, rfl, iteT ?_⟩
        exact ⟨_, rfl, p, dx, _, rfl, hobj, nat (by decide) (by decide) (by decide), _, rfl, t, _, _, _, rfl, rfl, T, rfl, _, rfl, t, _, _, _, rfl, rfl, T, rfl, _, rfl, t, _, _, _, rfl, rfl, T, rfl, p, dx, d, l, fx, st, u, n, z, r, rfl, hR, okW_us u hn.1, okW_nm n hn.2, hz, k⟩
      | cut =>
        refine ⟨_, rfl, t, _, _, _, rfl, rfl, T, rfl, rfl, _, rfl, iteF ?_⟩
        refine ⟨_, rfl, t, _, _, _, rfl, rfl, T, rfl, rfl, _, rfl, iteF ?_⟩
        refine ⟨_, rfl, t, _, _, _, rfl, rfl, T, rfl, rfl, _, rfl, iteT ?_⟩
        exact ⟨_, rfl, p, dx, _, rfl, hobj, nat (by decide) (by decide) (by decide), _, rfl, t, _, _, _, rfl, rfl, T, rfl, _, rfl, t, _, _, _, rfl, rfl, T, rfl, _, rfl, t, _, _, _, rfl, rfl, T, rfl, p, dx, d, l, fx, st, u, n, z, r, rfl, hR, okW_us u hn.1, okW_nm n hn.2, hz, k⟩
end
end BX
end
section
set_option Elab.async false
set_option linter.all false
set_option maxRecDepth 100000
set_option maxHeartbeats 4000000
namespace BX
open PySem PySem.Spec PyProof.Rows L2 ClX LamX BXW BXL BXG BXT NdefX
def lq (qual : Str) : Str := qual ++ ".<locals>." ++ "<lambda>"
structure LTab (base : Heap) (mg : Str → Option Value) (T : List (Addr × Str)) (code : Value) (qual : Str) : Prop where
  ex : ∃ c P, TabB base mg c P ∧ code = .ref c ∧ (P, lq qual) ∈ T ∧ ∀ p ∈ T, p.1 = P → p.2 = lq qual
section
variable {P : Program} {w : World} {K : PySem.W.Frag} {mg : Str → Option Value} {base : Heap} {k : Nat} {f : Addr} {sp : Sp}
/-- a def whose code object is told -/
theorem atL {x qual : Str} {st : Stmt} {fd : FuncData} {N ps : List Str} (F : FnQ K x qual st f fd) (S : FnScope N ps (defScope st))
    (hb : ∀ (kV doc pm : Value) (an : Option Addr) (cdv ct : Value) (us : List Value), us.length = ps.length → bindArgs (PySem.W.fnOf x qual (defArgs st) (defBody st) (defScope st) .none kV doc pm an cdv ct) ⟨us, []⟩ = pure (ps.zip us))
    (len : ∀ vs H Q E, sp vs H Q E → vs.length = ps.length)
    (hbody : ∀ (A : Around) (outer : List Env) (s : Shared) (H : Hp) (vs : List V) (Q : VK) (E : XK), Room k (A.deeper (envOfC qual (defScope st) s.heap.objs.size f fd.code)) → Takes (cxX P w K mg base N qual (defScope st) f fd.code A outer s H E) (fun cls d _ H => E cls d H) → sp vs H Q E →
      ∃ t, PSs (cxX P w K mg base N qual (defScope st) f fd.code A outer s H E) (defBody st) t ∧ t { nx := fun _ H' => Q .non H', rt := Q } (L2.start N vs) H) : AtX P w K mg base (k + 1) f sp := by
  refine ⟨fd, ps, ⟨len, fun A outer s H args us vs Q E hr e0 bs r hsp => ?_⟩, F.kp, F.bindsN hb⟩
  obtain ⟨oc, od, dV, kV, doc, pm, an, cdv, ct, osl, rfl, lk, hcd, _, _⟩ := F.ex
  exact run_ofS lk hcd S hr e0 bs r (len _ _ _ _ hsp) fun hr' => hbody A outer s H vs Q E hr' (takes_of rfl rfl rfl rfl) hsp
end
/-- the exceptions' classes -/
structure ExK (K : PySem.W.Frag) (mg : Str → Option Value) (ad : Ad) : Prop where
  gN : mg "NoName" = some (.ref ad.CN)
  gB : mg "Blocked" = some (.ref ad.CB)
  gL : mg "NothingLeft" = some (.ref ad.CL)
  gO : mg "Outside" = some (.ref ad.CO)
  fN : XfC K ad.CN
  vN : PySem.W.findIn K (.ref ad.CN) "value" = some none
  fB : XfC K ad.CB
  vB : PySem.W.findIn K (.ref ad.CB) "value" = some none
  fO : XfC K ad.CO
  vO : PySem.W.findIn K (.ref ad.CO) "value" = some none
  NN : PySem.W.exmOne K (.ref ad.CN) (.ref ad.CN) = some true
  BN : PySem.W.exmOne K (.ref ad.CB) (.ref ad.CN) = some false
  LN : PySem.W.exmOne K (.ref ad.CL) (.ref ad.CN) = some false
  ON : PySem.W.exmOne K (.ref ad.CO) (.ref ad.CN) = some false
  BB : PySem.W.exmOne K (.ref ad.CB) (.ref ad.CB) = some true
  LB : PySem.W.exmOne K (.ref ad.CL) (.ref ad.CB) = some false
  OB : PySem.W.exmOne K (.ref ad.CO) (.ref ad.CB) = some false
  LL : PySem.W.exmOne K (.ref ad.CL) (.ref ad.CL) = some true
  OL : PySem.W.exmOne K (.ref ad.CO) (.ref ad.CL) = some false
  OO : PySem.W.exmOne K (.ref ad.CO) (.ref ad.CO) = some true
/-! ### told -/
def newL (Q : VK) (xs : List V) (H1 : Hp) : Prop := ∀ z, H1 z = none → Q (.ref z) (upd H1 z (.lst xs))
def toldX (ad : Ad) (Q : VK) (E : XK) (cls : Value) (d : Option Addr) (H1 : Hp) : Prop :=
  (cls = .ref ad.CN ∧ ∃ dd v, d = some dd ∧ H1 dd = some (.xd (xvF v)) ∧ newL Q [.str "name", v] H1) ∨ (cls = .ref ad.CB ∧ ∃ dd v, d = some dd ∧ H1 dd = some (.xd (xvF v)) ∧ newL Q [.str "blocked", v] H1) ∨
  (cls = .ref ad.CL ∧ newL Q [.str "nothing", .non] H1) ∨ (cls = .ref ad.CO ∧ E cls d H1)
def spTold (ad : Ad) : SpA := fun lf lc q spl vs H Q E => vs = [.ref lf] ∧ H lc = some (CodeO lc q) ∧ ∀ (Qd : VK) (Ed : XK), (∀ v H1, newL Q [.str "told", v] H1 → Qd v H1) → (∀ cls d H1, toldX ad Q E cls d H1 → Ed cls d H1) → spl [] H Qd Ed
abbrev nTold : List Str := ["_law_door", "_law_kept", "e"]
theorem scTold : FnScope nTold ["_law_door"] (defScope sTold) := C8.fnScope_by (by decide +kernel)
theorem xv_look {v : V} : (xvF v).lookup ("value" : Str) = some v := rfl
section
variable {P : Program} {w : World} {K : PySem.W.Frag} {mg : Str → Option Value} {base : Heap} {f CM CT : Addr} {fd : FuncData} {ad : Ad} {cf : Bool → Addr} {T : List (Addr × Str)}
theorem ok_told {k kl : Nat} (F : FnQ K "_law_told" "_law_told" sTold f fd) (X : ExK K mg ad) (hkl : kl ≤ k) : OkA P w K mg base (k + 1) kl 0 f 1 (spTold ad) := by
  refine okA_of (N := nTold) (ps := ["_law_door"]) F scTold (fun _ _ _ _ _ _ us hl => match us, hl with | [_], _ => rfl) (fun A outer s H vs Q E lf lc q spl hr tk Ac h => ?_)
  obtain ⟨rfl, hlc, h⟩ := h
  refine ⟨_, pss_cons (ps_set (i := 1) scTold.nd rfl (Or.inl rfl) pe_non)
    (pss_cons (ps_try_A rfl rfl scTold.nd tk (fun W pn xe tk' _ => pss_one (ps_set (i := 1) scTold.nd rfl (Or.inl rfl) (pe_lst (pa_cons pe_str (pa_cons (pe_acts0S (i := 0) Ac rfl hr hkl tk' rfl (Or.inl rfl)) pa_nil)))))
      (.consAs (i := 2) (c := .ref ad.CN) ⟨by rfl, by decide, .inl X.gN⟩ rfl rfl (fun a oe cls d pn hz hf => pss_one (ps_set (i := 1) scTold.nd rfl (Or.inl rfl) (pe_lst (pa_cons pe_str (pa_cons (pe_xf X.fN X.vN hz hf (pv 2)) pa_nil)))))
      (.consAs (i := 2) (c := .ref ad.CB) ⟨by rfl, by decide, .inl X.gB⟩ rfl rfl (fun a oe cls d pn hz hf => pss_one (ps_set (i := 1) scTold.nd rfl (Or.inl rfl) (pe_lst (pa_cons pe_str (pa_cons (pe_xf X.fB X.vB hz hf (pv 2)) pa_nil)))))
      (.cons (c := .ref ad.CL) ⟨by rfl, by decide, .inl X.gL⟩ (fun a oe cls d pn hz hf => pss_one (ps_set (i := 1) scTold.nd rfl (Or.inl rfl) (pe_lst (pa_cons pe_str (pa_cons pe_non pa_nil))))) .nil))))
    (pss_one (ps_ret (pv 1)))), ?_⟩
  refine ⟨rfl, hlc, h _ _ (fun v H1 n => ?_) (fun cls d H1 tx => ?_)⟩
  · exact ⟨by show 2 ≤ sizeLine; decide, fun z hz => ⟨_, rfl, n z hz⟩⟩
  · rcases tx with ⟨rfl, dd, v, rfl, hd, n⟩ | ⟨rfl, dd, v, rfl, hd, n⟩ | ⟨rfl, n⟩ | ⟨rfl, e⟩
    · refine ⟨true, X.NN, fun _ a _ => ?_, fun z => nomatch z⟩
      exact ⟨_, rfl, rfl, rfl, dd, _, v, rfl, hd, xv_look, by show 2 ≤ sizeLine; decide, fun z hz => ⟨_, rfl, n z hz⟩⟩
    · refine ⟨false, X.BN, (fun z => nomatch z), fun _ => ⟨true, X.BB, fun _ a _ => ?_, fun z => nomatch z⟩⟩
      exact ⟨_, rfl, rfl, rfl, dd, _, v, rfl, hd, xv_look, by show 2 ≤ sizeLine; decide, fun z hz => ⟨_, rfl, n z hz⟩⟩
    · refine ⟨false, X.LN, (fun z => nomatch z), fun _ => ⟨false, X.LB, (fun z => nomatch z), fun _ => ⟨true, X.LL, fun _ a _ => ?_, fun z => nomatch z⟩⟩⟩
      exact ⟨by show 2 ≤ sizeLine; decide, fun z hz => ⟨_, rfl, n z hz⟩⟩
    · exact ⟨false, X.ON, (fun z => nomatch z), fun _ => ⟨false, X.OB, (fun z => nomatch z), fun _ => ⟨false, X.OL, (fun z => nomatch z), fun _ => e⟩⟩⟩
end
/-! ### tried -/
/-- no list stands there -/
def NL (H : Hp) (l : Addr) : Prop := ∀ xs, H l ≠ some (.lst xs)
def spLTried (K : PySem.W.Frag) (ad : Ad) (cf : Bool → Addr) (T : List (Addr × Str)) : Sp := fun vs H Q _ => ∃ (fix : Bool) (p dx d l : Addr) (fx : List (Str × V)) (st : Rm) (v : V) (row : Row), vs = [.ref p, v] ∧ RmIn K ad (cf fix) fix fx H p dx d l st ∧ RowAt K ad.CR H v row ∧ rowN row ∧ Tabs T H ∧
  ∀ d' l' z H', St T p H H' → RoomAt K ad.CR (cf fix) fx H' p dx d' l' (nextM fix st row) → H' z = some (.lst (sayV (stepM fix st row))) → (l' = l ∨ NL H l') → Q (.ref z) H'
abbrev nLTried : List Str := ["_law_room", "_law_row_here", "_law_kept", "e"]
theorem scLTried : FnScope nLTried ["_law_room", "_law_row_here"] (defScope sLTried) := C8.fnScope_by (by decide +kernel)
/-- the lambdas of the text -/
def lamSc : Expr → Scope
  | .Lambda _ _ sc _ => sc
  | _ => defScope (topS 0)
def arg0 : Expr → Expr
  | .Call _ (a :: _) _ _ => a
  | e => e
def asgV : Stmt → Expr
  | .Assign _ e _ => e
  | .Expr e _ => e
  | _ => .Constant .none 0 ⟨0, 0, 0, 0⟩
def tryB : Stmt → List Stmt
  | .Try b _ _ _ _ => b
  | _ => []
def nth (l : List Stmt) (i : Nat) : Stmt := l.getD i (.Pass ⟨0, 0, 0, 0⟩)
def lamLT : Expr := arg0 (asgV (nth (tryB (nth (defBody sLTried) 1)) 0))
abbrev two2 : List Str := ["_law_room", "_law_row_here"]
theorem ndLT : ndefB (defScope sLTried) (lamSc lamLT) two2 = true := by decide +kernel
theorem scLT : NScope two2 [] two2 (lamSc lamLT) := nscope_by (by decide +kernel)
theorem RmIn.sn {T : List (Addr × Str)} {K : PySem.W.Frag} {ad : Ad} {C : Addr} {fix : Bool} {fx : List (Str × V)} {H H' : Hp} {p dx d l : Addr} {st : Rm} (r : RmIn K ad C fix fx H p dx d l st) (s : Sn T H H') : RmIn K ad C fix fx H' p dx d l st := ⟨r.at_.sn s, r.fxa.tk (Kr.tk (CR := 0) s.kr), r.nd, r.lk, r.ll⟩
section
variable {P : Program} {w : World} {K : PySem.W.Frag} {mg : Str → Option Value} {base : Heap} {f fA fT CM CT : Addr} {fd : FuncData} {ad : Ad} {cf : Bool → Addr} {T : List (Addr × Str)}
theorem ok_ltried (F : FnQ K "_law_tried" "_law_tried" sLTried f fd) (X : ExK K mg ad) (LT : LTab base mg T fd.code "_law_tried") (hA : AtX P w K mg base 12 fA (spAct K ad cf)) (mA : mg "_law_act" = some (.ref fA)) (hT : OkA P w K mg base 14 13 0 fT 1 (spTold ad)) (mT : mg "_law_told" = some (.ref fT)) :
    At P w K mg base 15 f (spLTried K ad cf T) := by
  refine atx_at (atL F scLTried (fun _ _ _ _ _ _ us hl => match us, hl with | [_, _], _ => rfl) (fun vs H Q E h => ?_) (fun A outer s H vs Q E hr tk h => ?_)) fun _ _ _ _ z => z
  · obtain ⟨fix, p, dx, d, l, fx, st, v, row, rfl, _⟩ := h
    rfl
  · obtain ⟨fix, p, dx, d, l, fx, st, v, row, rfl, hR, hv, hn, hT0, k⟩ := h
    obtain ⟨c, PT, TB, hcode, hm, hu⟩ := LT.ex
    refine ⟨_, pss_cons (ps_set (i := 2) scLTried.nd rfl (Or.inl rfl) pe_non)
      (pss_cons (ps_try_A (tb := fun W => tAsg (tLamAS T (lq "_law_tried") two2 [0, 1] (fun E => tCall (spAct K ad cf) [] E (tCons (tVar 0) (tCons (tVar 1) tNil))) (spTold ad) [] W) (gName 2)) rfl rfl scLTried.nd tk (fun W pn xe tk' _ => pss_one (ps_set (i := 2) scLTried.nd rfl (Or.inl rfl)
          (pe_lamgS (T := T) (N := two2) (ps := []) (fr := two2) (js := [0, 1]) (kl := 12) (tb := fun E => tCall (spAct K ad cf) [] E (tCons (tVar 0) (tCons (tVar 1) tNil))) hT mT (by rfl) hr (by omega) tk' ⟨⟨c, PT, TB, hcode, hm, hu⟩, ndLT, scLT, rfl⟩ rfl (fun _ _ _ _ _ us hl => match us, hl with | [], _ => rfl)
            (fun cl c' f A outer s H E hr tk => pe_cX hA mA hr (by omega) (by rfl) (passes_call tk fun _ _ _ _ z => z) (pa_cons (pv 0) (pa_cons (pv 1) pa_nil))))))
        (.consAs (i := 3) (c := .ref ad.CO) ⟨by rfl, by decide, .inl X.gO⟩ rfl rfl (fun a oe cls d pn hz hf => pss_one (ps_set (i := 2) scLTried.nd rfl (Or.inl rfl) (pe_lst (pa_cons pe_str (pa_cons (pe_xf X.fO X.vO hz hf (pv 3)) pa_nil))))) .nil))
      (pss_one (ps_ret (pv 2)))), ?_⟩
    refine ⟨hT0, fun lf lc H1 eN T1 hlc => ⟨rfl, hlc, fun Qd Ed hQ hE => ⟨_, rfl, _, rfl, ?_⟩⟩⟩
    have s01 : Sn T H H1 := Sn.ofE eN T1
    have hR1 := hR.sn s01
    refine ⟨fix, p, dx, d, l, fx, st, v, row, rfl, hR1, hv.kr s01.kr, hn, ?_⟩
    have fin : ∀ (d' l' z : Addr) (H2 : Hp) (xs : List V) (s2 : Rm), St T p H H2 → RoomAt K ad.CR (cf fix) fx H2 p dx d' l' s2 → nextM fix st row = s2 → sayV (stepM fix st row) = xs → H2 z = none → (l' = l ∨ NL H l') → Q (.ref z) (upd H2 z (.lst xs)) := fun d' l' z H2 xs s2 a r e1 e2 hz fr => by
      subst e1 e2
      exact k d' l' z _ (a.trans (Sn.of (Same.upd1 hz)).st) (r.same (Same.upd1 hz)) upd_same fr
    unfold nextM at fin
    cases hst : stepM fix st row with
    | told v st' =>
      rw [hst] at fin
      intro d' l' H2 kp fr r2
      refine hQ _ _ fun z hz => ⟨_, rfl, fin d' l' z H2 _ _ (s01.st.trans (St.of kp (pl_ins hR1.at_.obj))) r2 rfl rfl hz (.inr fun xs w => by have w2 := s01.lst w; rw [fr] at w2; cases w2)⟩
    | name n =>
      rw [hst] at fin
      intro dd H2 s2 hd
      exact hE _ _ _ (.inl ⟨rfl, dd, _, rfl, hd, fun z hz => ⟨_, rfl, fin d l z H2 _ _ (s01.st.trans (Sn.of s2).st) (hR1.at_.same s2) rfl rfl hz (.inl rfl)⟩⟩)
    | blocked n =>
      rw [hst] at fin
      intro dd H2 s2 hd
      exact hE _ _ _ (.inr (.inl ⟨rfl, dd, _, rfl, hd, fun z hz => ⟨_, rfl, fin d l z H2 _ _ (s01.st.trans (Sn.of s2).st) (hR1.at_.same s2) rfl rfl hz (.inl rfl)⟩⟩))
    | nothing =>
      rw [hst] at fin
      intro H2 s2
      exact hE _ _ _ (.inr (.inr (.inl ⟨rfl, fun z hz => ⟨_, rfl, fin d l z H2 _ _ (s01.st.trans (Sn.of s2).st) (hR1.at_.same s2) rfl rfl hz (.inl rfl)⟩⟩)))
    | outside n =>
      rw [hst] at fin
      intro dd H2 s2 hd
      refine hE _ _ _ (.inr (.inr (.inr ⟨rfl, true, X.OO, fun _ a _ => ?_, fun z => nomatch z⟩)))
      exact ⟨_, rfl, rfl, rfl, dd, _, _, rfl, hd, xv_look, by show 2 ≤ sizeLine; decide, fun z hz => ⟨_, rfl, fin d l z H2 _ _ (s01.st.trans (Sn.of s2).st) (hR1.at_.same s2) rfl rfl hz (.inl rfl)⟩⟩
end
end BX
end
section
set_option Elab.async false
set_option linter.all false
set_option maxRecDepth 100000
set_option maxHeartbeats 4000000
namespace BX
open PySem PySem.Spec PyProof.Rows L2 ClX LamX BXW BXL BXG BXT NdefX
abbrev sLState : Stmt := topS 61
abbrev sActed : Stmt := topS 62
/-- a state as the law reads it -/
def StateAt (K : PySem.W.Frag) (CR : Addr) (H : Hp) (v : V) (st : Rm) : Prop := ∃ (s l1 l2 l3 : Addr) (rs ls : List V) (z : V), v = .ref s ∧ H s = some (.lst [.ref l1, .ref l2, .ref l3, .int (st.kept.length : Nat), z]) ∧
  H l1 = some (.lst (nmV st.kept)) ∧ H l2 = some (.lst rs) ∧ Paired (RegAt K CR H) rs (rgsM st.kept) ∧ H l3 = some (.lst ls) ∧ DpAll K H ls (logD st.log) ∧ RegAt K CR H z (wholeM st.kept)
theorem tup_log : ∀ log : List Ent, tupAll (logD log) = true
  | [] => rfl
  | e :: log => by
    show (true && tupAll (logD log)) = true
    rw [tup_log log]; rfl
/-- all that is tracked but the tables stays -/
structure StK (CR : Addr) (H H' : Hp) : Prop where
  kr : Kr CR H H'
  ls : ∀ b xs, H b = some (.lst xs) → H' b = some (.lst xs)
theorem Sn.stk {T : List (Addr × Str)} {CR : Addr} {H H' : Hp} (a : Sn T H H') : StK CR H H' := ⟨a.kr, fun _ _ h => a.lst h⟩
theorem St.stk {T : List (Addr × Str)} {C CR dx p : Addr} {fs : List (Str × V)} {H H' : Hp} (a : St T p H H') (hp : H p = some (.ins C dx fs)) (ne : C ≠ CR) : StK CR H H' := ⟨a.kr hp ne, fun b xs h => a.lst h (ne_of h hp (by intro z; cases z))⟩
theorem StK.trans {CR : Addr} {H H1 H2 : Hp} (a : StK CR H H1) (b : StK CR H1 H2) : StK CR H H2 := ⟨a.kr.trans b.kr, fun c xs h => b.ls c xs (a.ls c xs h)⟩
theorem StK.of {CR : Addr} {H H' : Hp} (s : Same H H') : StK CR H H' := ⟨Kr.of s, fun _ _ h => s _ _ h⟩
theorem StateAt.stk {K : PySem.W.Frag} {CR : Addr} {H H' : Hp} {v : V} {st : Rm} (a : StK CR H H') (h : StateAt K CR H v st) : StateAt K CR H' v st := by
  obtain ⟨s, l1, l2, l3, rs, ls, z, e, h1, h2, h3, h4, h5, h6, h7⟩ := h
  exact ⟨s, l1, l2, l3, rs, ls, z, e, a.ls _ _ h1, a.ls _ _ h2, a.ls _ _ h3, Paired.mapP h4 fun _ _ q => q.kr a.kr, a.ls _ _ h5, DpAll.tk a.kr.tk _ _ (tup_log _) h6, h7.kr a.kr⟩
def spLState (K : PySem.W.Frag) (ad : Ad) (cf : Bool → Addr) : Sp := fun vs H Q _ => ∃ (fix : Bool) (p dx d l : Addr) (fx : List (Str × V)) (st : Rm), vs = [.ref p] ∧ RoomAt K ad.CR (cf fix) fx H p dx d l st ∧ (st.kept.map (·.1)).Nodup ∧ st.kept.length ≤ 20 ∧ st.log.length ≤ 500 ∧
  ∀ v H', Same H H' → StateAt K ad.CR H' v st → Q v H'
abbrev nLState : List Str := ["_law_room", "_law_name"]
theorem scLState : FnScope nLState ["_law_room"] (defScope sLState) := C8.fnScope_by (by decide +kernel)
theorem pe_propA {X : Cx} {k j : Nat} {C p g : Addr} {m : Str} {sp : Sp} {e : Expr} {ta : TE} {pos : Pos} (he : PE X e ta) (c : Cls X.K C) (hp : PropOf X.K C m p g) (F : At X.prog X.w X.K X.mg X.base k g sp) (hr : Room j X.A) (hk : k + 1 ≤ j)
    (hab : attributeBase e m X.env (eval e X.env) = eval e X.env) : PE X (.Attribute e m pos) (tProp C sp [] C8.E0 ta) := by
  obtain ⟨fd, ps, F, kp, b⟩ := F.ex
  exact pe_prop he c hp F (hr.mono hk) b .nil C8.pass0 hab
section
variable {P : Program} {w : World} {K : PySem.W.Frag} {mg : Str → Option Value} {base : Heap} {f CM CT : Addr} {fd : FuncData} {ad : Ad} {cf : Bool → Addr} {T : List (Addr × Str)}
theorem ok_lstate (F : FnQ K "_law_state" "_law_state" sLState f fd) (B : Bt mg) (MK : ∀ fix, RmK P w K mg base ad CM CT (cf fix) fix) : At P w K mg base 8 f (spLState K ad cf) := by
  refine atP F scLState (fun _ _ _ _ _ _ us hl => match us, hl with | [_], _ => rfl) (fun vs H Q E h => ?_) (fun cdv A outer s H vs Q E hr h => ?_)
  · obtain ⟨fix, p, dx, d, l, fx, st, rfl, _⟩ := h
    rfl
  · obtain ⟨fix, p, dx, d, l, fx, st, rfl, hR, nd, lk, ll, k⟩ := h
    have M := MK fix
    refine ⟨_, pss_one (ps_ret (pe_lst
      (pa_cons (pe_listG (pgen_meth0 (E := C8.E0) (pv 0) M.R.i.cl M.mNm M.hNm (hr.mono (by omega)) M.bNm .nil) passE0 (fun _ _ _ z => z.elim) (hr.mono (by omega)) (by rfl) B.list (by decide +kernel))
      (pa_cons (pe_lcG (own := [("_law_name", 1)]) rfl (hr.mono (by omega)) scLState.nd (pg1_meth0 (pv 0) M.R.i.cl M.mNm M.hNm1 (hr.mono (by omega)) M.bNm) (blkOk_by (by kernel_rfl)) (by decide +kernel)
        (fun _ _ _ _ _ => pg_name (i := 1) scLState.nd rfl (Or.inl rfl) (.inr rfl)) (fun _ _ _ _ _ => pts_nil) (fun _ _ _ _ _ => pe_mtX (E := C8.E0) M.hRgn M.R.i.cl M.mRgn hr (by omega) passE0 (pv 0) (pa_cons (pv 1) pa_nil)))
      (pa_cons (C8.pe_mt0 (at_met M.hLog M.R.i.cl M.mLog) hr (by omega) (pv 0))
      (pa_cons (pe_callB (call_lenOwn M.hLen (hr.mono (by omega)) M.mLen) (by rfl) B.len (by decide +kernel) (pa_cons (pv 0) pa_nil))
      (pa_cons (pe_propA (pv 0) M.R.i.cl M.mWh M.hWh hr (by omega) (by rfl)) pa_nil))))))), ?_⟩
    have nat : ∀ {m : Str}, (m == ("kept" : Str)) = false → (m == ("calls" : Str)) = false → (m == ("own_frame" : Str)) = false → (roomF d l fx).lookup m = none := fun h1 h2 h3 => hR.fxo.look h1 h2 h3
    -- list(room.names())
    refine ⟨_, rfl, p, dx, _, rfl, hR.obj, nat (by decide) (by decide) (by decide), p, dx, d, l, fx, st, rfl, hR, by omega, fun H1 s1 l1 hl1 => ?_⟩
    have s2 : Same H (upd H1 l1 (.lst (nmV st.kept))) := s1.trans (Same.upd1 hl1)
    have e1 : upd H1 l1 (.lst (nmV st.kept)) l1 = some (.lst (nmV st.kept)) := upd_same
    generalize upd H1 l1 (.lst (nmV st.kept)) = H2 at s2 e1
    have hR2 := hR.same s2
    -- the regions
    refine ⟨_, rfl, p, dx, _, rfl, hR2.obj, nat (by decide) (by decide) (by decide), fun l2 hl2 => ⟨nmV st.kept, ⟨p, dx, d, l, fx, st, rfl, hR2.same (Same.upd1 hl2), by omega, rfl⟩, ?_⟩⟩
    refine ⟨fun i H' => Same H2 H' ∧ ∃ rs, H' l2 = some (.lst rs) ∧ Paired (RegAt K ad.CR H') rs ((rgsM st.kept).take i) ∧ rs.length = i, ⟨Same.upd1 hl2, [], upd_same, .nil, rfl⟩, ?_, ?_⟩
    · rintro i x H3 hx ⟨s3, rs, e3, p3, lr⟩
      unfold nmV at hx
      rw [List.getElem?_map] at hx
      obtain ⟨n, hn, rfl⟩ := Option.map_eq_some_iff.mp hx
      obtain ⟨r, g1, g2⟩ := names_mem (List.mem_of_getElem? hn)
      have hR3 := hR2.same s3
      have hir : (rgsM st.kept)[i]? = some r := by
        unfold rgsM
        rw [List.getElem?_map, hn]
        show some (regOf st.kept n) = some r
        rw [g2]
      refine ⟨by kernel_rfl, _, rfl, p, dx, _, rfl, hR3.obj, nat (by decide) (by decide) (by decide), _, rfl, p, dx, d, l, fx, st, n, rfl, hR3, fun z => ?_, fun r' v' g' hv => ⟨rs, e3, ?_, ?_⟩⟩
      · rw [g1] at z; cases z
      · have hi := (List.getElem?_eq_some_iff.mp hn).1
        rw [namesM_len] at hi
        rw [lr]
        exact Nat.lt_of_le_of_lt (by omega : i ≤ 20) (by decide)
      · have e : r' = r := by rw [g1] at g'; exact (Option.some.inj g').symm
        subst e
        have s4 := Same.updN (o := .lst (rs ++ [v'])) s3 hl2
        have kr : Kr ad.CR H3 (upd H3 l2 (.lst (rs ++ [v']))) := ⟨⟨fun b xs h => by rw [upd_ne (ne_of h e3 (by intro z; cases z))]; exact h, fun b o xs h => by rw [upd_ne (ne_of h e3 (by intro z; cases z))]; exact h⟩, fun b dx fs h => by rw [upd_ne (ne_of h e3 (by intro z; cases z))]; exact h⟩
        refine ⟨s4, _, upd_same, ?_, by rw [List.length_append, lr]; rfl⟩
        rw [List.take_succ, hir]
        exact Paired.snoc (Paired.mapP p3 fun _ _ q => q.kr kr) (hv.kr kr)
    · rintro H3 ⟨s3, rs, e3, p3, lr⟩
      have et : (rgsM st.kept).take (nmV st.kept).length = rgsM st.kept := by
        apply List.take_of_length_le
        unfold rgsM nmV
        rw [List.length_map, List.length_map]
        exact Nat.le_refl _
      rw [et] at p3
      have hR3 := hR2.same s3
      -- the log
      refine ⟨_, rfl, p, dx, _, rfl, hR3.obj, nat (by decide) (by decide) (by decide), p, dx, d, l, fx, st, rfl, hR3, ll, fun l3 ls H4 s4 hl3 e4 d4 => ?_⟩
      have hR4 := hR3.same s4
      refine ⟨_, rfl, p, dx, _, rfl, hR4.obj, p, dx, d, l, fx, st, rfl, hR4, _, rfl, by omega, ?_⟩
      refine ⟨_, rfl, p, dx, _, rfl, hR4.obj, p, dx, d, l, fx, st, rfl, hR4, nd, fun z H5 s5 hz => ?_⟩
      refine ⟨by show 5 ≤ sizeLine; decide, fun s0 hs0 => ?_⟩
      have s6 : Same H5 (upd H5 s0 (.lst [.ref l1, .ref l2, .ref l3, .int (st.kept.length : Nat), z])) := Same.upd1 hs0
      have s36 := s4.trans (s5.trans s6)
      have s46 := s5.trans s6
      refine k _ _ (s2.trans (s3.trans s36)) ⟨s0, l1, l2, l3, rs, ls, z, rfl, upd_same, (s3.trans s36) _ _ e1, s36 _ _ e3, Paired.mapP p3 fun _ _ q => q.same s36, s46 _ _ e4, DpAll.tk (TK.of s46) _ _ (tup_log _) d4, hz.same s6⟩
end
/-! ### acted -/
def SayAt (H : Hp) (x : V) (o : Out) : Prop := ∃ t, x = .ref t ∧ H t = some (.lst (sayV o))
theorem sayV_str (o : Out) : ∃ a x, sayV o = [.str a, x] := by cases o <;> exact ⟨_, _, rfl⟩
theorem say_ne {H : Hp} {acc : List V} {outs : List Out} {D t : Addr} {o : Out} (p : Paired (SayAt H) acc outs) (hD : H D = some (.lst acc)) (ht : H t = some (.lst (sayV o))) : t ≠ D := fun z => by
  subst z
  rw [ht] at hD
  obtain ⟨a, x, e⟩ := sayV_str o
  rw [e] at hD
  cases hD
  cases p with
  | cons q _ => obtain ⟨_, q, _⟩ := q; cases q
def ActedAt (K : PySem.W.Frag) (CR : Addr) (H : Hp) (v : V) (outs : List Out) (st : Rm) : Prop := ∃ (a f : Addr) (xs : List V) (sv : V), v = .ref a ∧ H a = some (.lst [.ref f, sv]) ∧ H f = some (.lst xs) ∧ Paired (SayAt H) xs outs ∧ StateAt K CR H sv st
theorem ActedAt.stk {K : PySem.W.Frag} {CR : Addr} {H H' : Hp} {v : V} {outs : List Out} {st : Rm} (a : StK CR H H') (h : ActedAt K CR H v outs st) : ActedAt K CR H' v outs st := by
  obtain ⟨b, f, xs, sv, e, h1, h2, h3, h4⟩ := h
  exact ⟨b, f, xs, sv, e, a.ls _ _ h1, a.ls _ _ h2, Paired.mapP h3 fun _ _ ⟨t, e, q⟩ => ⟨t, e, a.ls _ _ q⟩, h4.stk a⟩
theorem St.updN {T : List (Addr × Str)} {p D : Addr} {H H' : Hp} {xs ys : List V} (a : St T p H H') (h : H D = none) (e : H' D = some (.lst xs)) : St T p H (upd H' D (.lst ys)) :=
  ⟨fun b o n m q => by rw [upd_ne (ne_of_none q h)]; exact a.kp b o n m q, fun t => tabs_kp (p := D) ((Kp.refl D H').upd) (pl_lst e) (a.tb t)⟩
theorem RoomAt.updL {K : PySem.W.Frag} {CR C : Addr} {fx : List (Str × V)} {H : Hp} {p dx d l D : Addr} {st : Rm} {xs ys : List V} (r : RoomAt K CR C fx H p dx d l st) (hD : H D = some (.lst xs)) (ne : l ≠ D) : RoomAt K CR C fx (upd H D (.lst ys)) p dx d l st := by
  obtain ⟨⟨kvs, hd, hk⟩, zs, hl, hlog⟩ := r.ex
  have kr : Kr CR H (upd H D (.lst ys)) := ⟨⟨fun b xs h => by rw [upd_ne (ne_of h hD (by intro z; cases z))]; exact h, fun b o xs h => by rw [upd_ne (ne_of h hD (by intro z; cases z))]; exact h⟩, fun b dx fs h => by rw [upd_ne (ne_of h hD (by intro z; cases z))]; exact h⟩
  exact ⟨by rw [upd_ne (ne_of r.obj hD (by intro z; cases z))]; exact r.obj, r.fxo, ⟨kvs, by rw [upd_ne (ne_of hd hD (by intro z; cases z))]; exact hd, hk.kr kr⟩, zs, by rw [upd_ne ne]; exact hl, hlog.kr kr⟩
theorem St.seqI {T : List (Addr × Str)} {K : PySem.W.Frag} {p q C dx : Addr} {fs : List (Str × V)} {H H' : Hp} {xs : List V} (a : St T p H H') (hp : H p = some (.ins C dx fs)) (h : SqL K H q xs) : SqL K H' q xs := by
  rcases h with (h | ⟨o, h⟩) | h
  · exact .inl (.inl (a.lst h (ne_of h hp (by intro z; cases z))))
  · exact .inl (.inr ⟨o, a.kp _ _ (ne_of h hp (by intro z; cases z)) (fun _ z => nomatch z) h⟩)
  · exact .inr h
theorem nm45 : ∀ x ∈ nm4, x ∈ nm5 := by decide
theorem Gd.rmIn {K : PySem.W.Frag} {ad : Ad} {C : Addr} {fix : Bool} {fx : List (Str × V)} {H : Hp} {p dx d l : Addr} {n : Nat} {st : Rm} (g : Gd nm5 fix n st) (h : n ≤ 500) (r : RoomAt K ad.CR C fx H p dx d l st) (hf : FxAt K H fix fx) : RmIn K ad C fix fx H p dx d l st :=
  ⟨r, hf, g.nd, by have := g.lk; have e : nm5.length = 5 := rfl; omega, Nat.le_trans g.ll h⟩
def spActed (K : PySem.W.Frag) (ad : Ad) (cf : Bool → Addr) (T : List (Addr × Str)) : Sp := fun vs H Q _ => ∃ (fix : Bool) (p dx d l lr : Addr) (fx : List (Str × V)) (st : Rm) (n : Nat) (xs : List V) (rows : List Row), vs = [.ref p, .ref lr] ∧ RoomAt K ad.CR (cf fix) fx H p dx d l st ∧ FxAt K H fix fx ∧ Gd nm5 fix n st ∧
  n + rows.length ≤ 500 ∧ SqL K H lr xs ∧ Paired (RowAt K ad.CR H) xs rows ∧ (∀ r ∈ rows, rowN r) ∧ Tabs T H ∧
  ∀ d' l' v H', St T p H H' → RoomAt K ad.CR (cf fix) fx H' p dx d' l' (runM fix st rows) → ActedAt K ad.CR H' v (outsM fix st rows) (runM fix st rows) → Q v H'
abbrev nActed : List Str := ["_law_room", "_law_rows", "_law_found", "_law_row_here"]
theorem scActed : FnScope nActed ["_law_room", "_law_rows"] (defScope sActed) := C8.fnScope_by (by decide +kernel)
section
variable {P : Program} {w : World} {K : PySem.W.Frag} {mg : Str → Option Value} {base : Heap} {f CM CT : Addr} {fd : FuncData} {ad : Ad} {cf : Bool → Addr} {T : List (Addr × Str)}
theorem ok_acted (F : FnQ K "_law_acted" "_law_acted" sActed f fd) (ne : ∀ fix, cf fix ≠ ad.CR) (CT : C8.Cal P w K mg base 15 "_law_tried" (spLTried K ad cf T) []) (CS : C8.Cal P w K mg base 8 "_law_state" (spLState K ad cf) []) : At P w K mg base 16 f (spActed K ad cf T) := by
  refine atP F scActed (fun _ _ _ _ _ _ us hl => match us, hl with | [_, _], _ => rfl) (fun vs H Q E h => ?_) (fun cdv A outer s H vs Q E hr h => ?_)
  · obtain ⟨fix, p, dx, d, l, lr, fx, st, n, xs, rows, rfl, _⟩ := h
    rfl
  · obtain ⟨fix, p, dx, d, l, lr, fx, st, n, xs, rows, rfl, hR, hf, g, hn, hlr, hrows, hok, hT, k⟩ := h
    refine ⟨_, pss_cons (ps_setLc (i := 2) (own := [("_law_row_here", 3)]) (g := gName 3) (tt := tYes) rfl scActed.nd rfl rfl (sw_true rfl rfl rfl (by decide +kernel)) (pi_list (pv 1)) (blkOk_by (by kernel_rfl))
        (fun _ _ _ _ _ => pg_name (i := 3) scActed.nd rfl (Or.inl rfl) (.inr rfl)) (fun _ _ _ _ _ => pts_nil) (te := tCall (spLTried K ad cf T) [] C8.E0 (tCons (tVar 0) (tCons (tVar 3) tNil))) (fun _ _ _ _ _ => C8.pe_c CT hr (by omega) (by rfl) (pa_cons (pv 0) (pa_cons (pv 3) pa_nil))))
      (pss_one (ps_ret (pe_lst (pa_cons (pv 2) (pa_cons (C8.pe_c CS hr (by omega) (by rfl) (pa_cons (pv 0) pa_nil)) pa_nil))))), ?_⟩
    have lx : xs.length = rows.length := Paired.length hrows
    refine ⟨_, rfl, lr, rfl, ⟨xs, hlr⟩, fun D hD => ?_⟩
    have hDp : D ≠ p := fun z => by have := hR.obj; rw [← z, hD] at this; cases this
    have hDl : l ≠ D := fun z => by obtain ⟨_, zs, hl, _⟩ := hR.ex; rw [z, hD] at hl; cases hl
    refine walkW (walk_list (a := lr) (xs := xs)) (fun i H' => St T p H H' ∧ ∃ (d' l' : Addr) (acc : List V), H' D = some (.lst acc) ∧ acc.length = i ∧ l' ≠ D ∧ RoomAt K ad.CR (cf fix) fx H' p dx d' l' (runM fix st (rows.take i)) ∧ Paired (SayAt H') acc (outsM fix st (rows.take i)))
      ⟨(Sn.of (Same.upd1 hD)).st, d, l, [], upd_same, rfl, hDl, hR.same (Same.upd1 hD), .nil⟩ (fun i H' _ q => q.1.seqI hR.obj hlr) ?_ ?_
    · rintro i y H1 H2 hi ⟨a1, d1, l1, acc, e1, la, n1, r1, p1⟩ ⟨rfl, hy⟩
      obtain ⟨row, hrow, hya⟩ := p_get hrows hy
      have hi' : i < rows.length := by omega
      have et : rows.take (i + 1) = rows.take i ++ [row] := by rw [List.take_succ, hrow]; rfl
      have kr1 : Kr ad.CR H H2 := a1.kr hR.obj (ne fix)
      have gi : Gd nm5 fix (n + i) (runM fix st (rows.take i)) := by
        have := g.run nm45 (rows := rows.take i) (fun r hr => hok r (List.mem_of_mem_take hr))
        rw [List.length_take, Nat.min_eq_left (Nat.le_of_lt hi')] at this
        exact this
      refine ⟨by kernel_rfl, _, rfl, _, rfl, fix, p, dx, d1, l1, fx, _, y, row, rfl, gi.rmIn (by omega) r1 (hf.tk kr1.tk), hya.kr kr1, hok row (List.mem_of_getElem? hrow), a1.tb hT, fun d2 l2 z H3 a2 r2 hz fr => ?_⟩
      have e3 : H3 D = some (.lst acc) := a2.lst e1 hDp
      have n2 : l2 ≠ D := by
        rcases fr with q | q
        · rw [q]; exact n1
        · exact fun w => q acc (by rw [w]; exact e1)
      have p3 : Paired (SayAt H3) acc (outsM fix st (rows.take i)) := Paired.mapP p1 fun _ _ ⟨t, e, q⟩ => ⟨t, e, a2.lst q (ne_of q r1.obj (by intro z; cases z))⟩
      have a3 := a1.trans a2
      refine ⟨acc, e3, by rw [la]; exact Nat.lt_of_le_of_lt (by omega : i ≤ 500) (by decide), a3.updN hD e3, d2, l2, acc ++ [.ref z], upd_same, by rw [List.length_append, la]; rfl, n2, ?_, ?_⟩
      · rw [et, runM_snoc]
        exact r2.updL e3 n2
      · rw [et, outsM_snoc]
        refine Paired.snoc (Paired.mapP p3 fun _ _ ⟨t, e, q⟩ => ⟨t, e, ?_⟩) ⟨z, rfl, ?_⟩
        · rw [upd_ne (say_ne p3 e3 q)]; exact q
        · rw [upd_ne (say_ne p3 e3 hz)]; exact hz
    · rintro H1 ⟨a1, d1, l1, acc, e1, la, n1, r1, p1⟩
      rw [lx, List.take_length] at r1 p1
      have gr := g.run nm45 hok
      refine ⟨_, rfl, _, rfl, fix, p, dx, d1, l1, fx, _, rfl, r1, gr.nd, by have := gr.lk; have e : nm5.length = 5 := rfl; omega, Nat.le_trans gr.ll hn, fun v H2 s2 hv => ⟨by show 2 ≤ sizeLine; decide, fun q hq => ?_⟩⟩
      have s3 : Same H2 (upd H2 q (.lst [.ref D, v])) := Same.upd1 hq
      have s13 := s2.trans s3
      exact k d1 l1 _ _ (a1.trans (Sn.of s13).st) (r1.same s13) ⟨q, D, acc, v, rfl, upd_same, s13 _ _ e1, Paired.mapP p1 fun _ _ ⟨t, e, w⟩ => ⟨t, e, s13 _ _ w⟩, hv.stk (StK.of s3)⟩
end
end BX
end
section
set_option Elab.async false
set_option linter.all false
set_option maxRecDepth 100000
set_option maxHeartbeats 4000000
namespace BX
open PySem PySem.Spec PyProof.Rows L2 ClX LamX BXW BXL BXG BXT NdefX BXQ
/-! ### equal states -/
def DReg (K : PySem.W.Frag) (CR : Addr) : Eqv := fun x y H => ∃ r, RegAt K CR H x r ∧ RegAt K CR H y r
theorem mon_reg {K : PySem.W.Frag} {CR : Addr} : Mon (DReg K CR) := fun x y H H' e ⟨r, h1, h2⟩ => ⟨r, h1.same e, h2.same e⟩
section
variable {X : Cx} {CR f : Addr} {n k : Nat}
theorem eqG_reg (F : At X.prog X.w X.K X.mg X.base 1 f (spREq X.K CR)) (hs : PySem.W.findIn X.K (.ref CR) "__eq__" = some (some (.ref f))) (hf : PySem.W.isFn X.K (.ref f) = true) : EqG X 1 (DReg X.K CR) := by
  obtain ⟨fd, ps, F, kp, b⟩ := F.ex
  have F2 : FnOk X.prog X.w X.K X.mg X.base C8.CX0 1 f fd ps (spEq fun a b H => ∃ r, RegAt X.K CR H (.ref a) r ∧ RegAt X.K CR H (.ref b) r) := by
    have imp : ∀ vs H Q E, spEq (fun a b H => ∃ r, RegAt X.K CR H (.ref a) r ∧ RegAt X.K CR H (.ref b) r) vs H Q E → spREq X.K CR vs H Q E := fun vs H Q E h => by
      obtain ⟨a, b, rfl, ⟨r, h1, h2⟩, q⟩ := h
      exact ⟨_, _, r, r, rfl, h1, h2, by rw [decide_eq_true (rfl : r = r)]; exact q H Ext.rfl'⟩
    exact ⟨fun vs H Q E h => F.len _ _ _ _ (imp _ _ _ _ h), fun A outer s H args us vs Q E hr e0 hb r h => F.run A outer s H args us vs Q E hr e0 hb r (imp _ _ _ _ h)⟩
  refine (eqG_ins (CX := C8.CX0) (C := CR) (E := C8.E0) F2 hs hf b C8.pass0).imp fun x y H d => ?_
  obtain ⟨r, h1, h2⟩ := d
  obtain ⟨a, dx, fv, rfl, ha, hfa⟩ := id h1
  obtain ⟨c, dy, gv, rfl, hb, hfb⟩ := id h2
  exact ⟨a, c, dx, dy, _, _, rfl, rfl, ha, hb, r, h1, h2⟩
/-- the items of a state -/
def D1 (K : PySem.W.Frag) (CR : Addr) : Eqv := fun x y H => DFlat x y H ∨ (DList DFlat x y H ∨ (DList (DTup K DFlat) x y H ∨ (DList (DReg K CR) x y H ∨ DReg K CR x y H)))
theorem mon_d1 {K : PySem.W.Frag} : Mon (D1 K CR) := mon_flat.or ((mon_list mon_flat).or ((mon_list (mon_tup mon_flat)).or ((mon_list mon_reg).or mon_reg)))
theorem eqG_d1 (R : RgK X.prog X.w X.K X.mg X.base CR) : EqG X 2 (D1 X.K CR) := (eqG_flat.mono (by omega)).or (((eqG_list mon_flat eqG_flat).mono (by omega)).or ((eqG_list (mon_tup mon_flat) (eqG_tup mon_flat eqG_flat)).or ((eqG_list mon_reg (eqG_reg R.hQ R.sQ R.fnQ)).or ((eqG_reg R.hQ R.sQ R.fnQ).mono (by omega)))))
def DSay : Eqv := DList (DList DFlat)
theorem mon_say : Mon DSay := mon_list (mon_list mon_flat)
def D2 (K : PySem.W.Frag) (CR : Addr) : Eqv := fun x y H => DSay x y H ∨ DList (D1 K CR) x y H
theorem mon_d2 {K : PySem.W.Frag} : Mon (D2 K CR) := mon_say.or (mon_list mon_d1)
theorem eqG_d2 (R : RgK X.prog X.w X.K X.mg X.base CR) : EqG X 3 (D2 X.K CR) := ((eqG_list (mon_list mon_flat) (eqG_list mon_flat eqG_flat)).mono (by omega)).or (eqG_list mon_d1 (eqG_d1 R))
end
theorem flat_self {x : V} (h : flatV x = true) : eqV x x = true := by
  cases x with
  | bl b => cases b <;> rfl
  | int i => exact beq_self_eq_true i
  | str z => exact beq_self_eq_true z
  | non => rfl
  | _ => cases h
theorem prs_flat {H : Hp} : ∀ {xs : List V}, (∀ x ∈ xs, flatV x = true) → Prs DFlat xs xs H
  | [], _ => Prs.nil
  | x :: xs, h => Prs.cons ⟨h x List.mem_cons_self, h x List.mem_cons_self, flat_self (h x List.mem_cons_self)⟩ (prs_flat fun y hy => h y (List.mem_cons_of_mem _ hy))
theorem sayV_flat (o : Out) : ∀ x ∈ sayV o, flatV x = true := by
  intro x hx
  cases o with
  | told v st =>
    have hx : x = .str "told" ∨ x = oV v := by simpa [sayV] using hx
    rcases hx with rfl | rfl
    · rfl
    · cases v <;> rfl
  | name n => have hx : x = .str "name" ∨ x = .str n := by simpa [sayV] using hx
              rcases hx with rfl | rfl <;> rfl
  | blocked n => have hx : x = .str "blocked" ∨ x = .str n := by simpa [sayV] using hx
                 rcases hx with rfl | rfl <;> rfl
  | nothing => have hx : x = .str "nothing" ∨ x = .non := by simpa [sayV] using hx
               rcases hx with rfl | rfl <;> rfl
  | outside n => have hx : x = .str "outside" ∨ x = .str n := by simpa [sayV] using hx
                 rcases hx with rfl | rfl <;> rfl
theorem says_prs {H : Hp} : ∀ {xs ys : List V} {outs : List Out}, Paired (SayAt H) xs outs → Paired (SayAt H) ys outs → Prs (DList DFlat) xs ys H
  | _, _, _, .nil, .nil => Prs.nil
  | _, _, _, .cons a r, .cons b t => by
    obtain ⟨ta, rfl, ha⟩ := a
    obtain ⟨tb, rfl, hb⟩ := b
    exact Prs.cons ⟨ta, tb, _, _, rfl, rfl, ha, hb, prs_flat (sayV_flat _)⟩ (says_prs r t)
theorem says_d {H : Hp} {a b : Addr} {xs ys : List V} {outs : List Out} (ha : H a = some (.lst xs)) (hb : H b = some (.lst ys)) (p : Paired (SayAt H) xs outs) (q : Paired (SayAt H) ys outs) : DSay (.ref a) (.ref b) H := ⟨a, b, xs, ys, rfl, rfl, ha, hb, says_prs p q⟩
theorem nm_prs {H : Hp} (kept : List (Str × Rgn)) : Prs DFlat (nmV kept) (nmV kept) H := prs_flat fun x hx => by
  obtain ⟨n, _, rfl⟩ := List.mem_map.mp hx
  rfl
theorem dp_strs {K : PySem.W.Frag} {H : Hp} {v : V} {a b c : Str} (h : Dp K H v (.tuple [.str a, .str b, .str c])) : ∃ t, v = .ref t ∧ SqT K H t [.str a, .str b, .str c] := by
  obtain ⟨t, xs, e, h1, h2⟩ := dp_tup h
  cases h2 with
  | cons p r =>
    cases r with
    | cons q r =>
      cases r with
      | cons s r =>
        cases r
        cases p
        cases q
        cases s
        exact ⟨t, e, h1⟩
theorem log_prs {K : PySem.W.Frag} {H : Hp} : ∀ {xs ys : List V} {log : List Ent}, DpAll K H xs (logD log) → DpAll K H ys (logD log) → Prs (DTup K DFlat) xs ys H
  | _, _, [], h1, h2 => by cases h1; cases h2; exact Prs.nil
  | _, _, e :: log, h1, h2 => by
    cases h1 with
    | cons a r =>
      cases h2 with
      | cons b t =>
        obtain ⟨ta, rfl, ha⟩ := dp_strs a
        obtain ⟨tb, rfl, hb⟩ := dp_strs b
        refine Prs.cons ⟨ta, tb, _, _, rfl, rfl, ha, hb, prs_flat fun x hx => ?_⟩ (log_prs r t)
        have hx : x = .str e.user ∨ x = .str e.word ∨ x = .str e.name := by simpa using hx
        rcases hx with rfl | rfl | rfl <;> rfl
/-! two states of the same room, item by item -/
theorem prs_regs {K : PySem.W.Frag} {CR : Addr} {H : Hp} : ∀ {xs ys : List V} {rs : List Rgn}, Paired (RegAt K CR H) xs rs → Paired (RegAt K CR H) ys rs → Prs (DReg K CR) xs ys H
  | _, _, _, .nil, .nil => Prs.nil
  | _, _, _, .cons a r, .cons b t => Prs.cons ⟨_, a, b⟩ (prs_regs r t)
theorem state_d {K : PySem.W.Frag} {CR : Addr} {H : Hp} {x y : V} {st : Rm} (h1 : StateAt K CR H x st) (h2 : StateAt K CR H y st) : DList (D1 K CR) x y H := by
  obtain ⟨s, l1, l2, l3, rs, ls, z, rfl, a1, a2, a3, a4, a5, a6, a7⟩ := h1
  obtain ⟨s', l1', l2', l3', rs', ls', z', rfl, b1, b2, b3, b4, b5, b6, b7⟩ := h2
  refine ⟨s, s', _, _, rfl, rfl, a1, b1, ?_⟩
  refine Prs.cons (.inr (.inl ⟨l1, l1', _, _, rfl, rfl, a2, b2, nm_prs _⟩)) ?_
  refine Prs.cons (.inr (.inr (.inr (.inl ⟨l2, l2', rs, rs', rfl, rfl, a3, b3, prs_regs a4 b4⟩)))) ?_
  refine Prs.cons (.inr (.inr (.inl ⟨l3, l3', ls, ls', rfl, rfl, a5, b5, log_prs a6 b6⟩))) ?_
  refine Prs.cons (.inl ⟨rfl, rfl, flat_self rfl⟩) ?_
  exact Prs.cons (.inr (.inr (.inr (.inr ⟨_, a7, b7⟩)))) Prs.nil
theorem acted_d {K : PySem.W.Frag} {CR : Addr} {H : Hp} {x y : V} {outs : List Out} {st : Rm} (h1 : ActedAt K CR H x outs st) (h2 : ActedAt K CR H y outs st) : DList (D2 K CR) x y H := by
  obtain ⟨a, f, xs, sv, rfl, a1, a2, a3, a4⟩ := h1
  obtain ⟨b, g, ys, tv, rfl, b1, b2, b3, b4⟩ := h2
  refine ⟨a, b, _, _, rfl, rfl, a1, b1, ?_⟩
  refine Prs.cons (.inl (says_d a2 b2 a3 b3)) ?_
  exact Prs.cons (.inr (state_d a4 b4)) Prs.nil
/-! the operators -/
def rState (K : PySem.W.Frag) (CR : Addr) (b : Bool) : R2 := fun x y H Q => ∃ st, StateAt K CR H x st ∧ StateAt K CR H y st ∧ ∀ H', Same H H' → Q (.bl b) H'
def rActed (K : PySem.W.Frag) (CR : Addr) : R2 := fun x y H Q => ∃ outs st, ActedAt K CR H x outs st ∧ ActedAt K CR H y outs st ∧ ∀ H', Same H H' → Q (.bl true) H'
theorem OpR.imp {X : Cx} {f : Value → Value → Sem Value} {r r' : R2} (h : OpR X f r) (i : ∀ x y H Q, r' x y H Q → r x y H Q) : OpR X f r' := fun pins s σ H x y v u Q I rx ry q => h pins s σ H x y v u Q I rx ry (i _ _ _ _ q)
section
variable {X : Cx} {CR : Addr}
theorem op_stEq (R : RgK X.prog X.w X.K X.mg X.base CR) (hr : Room 4 X.A) : OpR X (compareOp .Eq) (rState X.K CR true) :=
  OpR.imp (op_eqG (rcG_list mon_d1 (eqG_d1 R)) (hr.mono (by omega))) fun _ _ _ _ ⟨_, h1, h2, q⟩ => ⟨state_d h1 h2, q⟩
theorem op_stNe (R : RgK X.prog X.w X.K X.mg X.base CR) (hr : Room 4 X.A) : OpR X (compareOp .NotEq) (rState X.K CR false) :=
  OpR.imp (op_neG mon_d1 (eqG_d1 R) (hr.mono (by omega))) fun _ _ _ _ ⟨_, h1, h2, q⟩ => ⟨state_d h1 h2, q⟩
theorem op_sayNe (hr : Room 4 X.A) : OpR X (compareOp .NotEq) (rNeG (DList DFlat)) := op_neG (mon_list mon_flat) (eqG_list mon_flat eqG_flat) (hr.mono (by omega))
theorem op_acEq (R : RgK X.prog X.w X.K X.mg X.base CR) (hr : Room 4 X.A) : OpR X (compareOp .Eq) (rActed X.K CR) :=
  OpR.imp (op_eqG (rcG_list mon_d2 (eqG_d2 R)) (hr.mono (by omega))) fun _ _ _ _ ⟨_, _, h1, h2, q⟩ => ⟨acted_d h1 h2, q⟩
end
end BX
end
section
set_option Elab.async false
set_option linter.all false
set_option maxRecDepth 100000
set_option maxHeartbeats 4000000
namespace BX
open PySem PySem.Spec PyProof.Rows L2 ClX LamX BXW BXL BXG BXT NdefX BXQ
abbrev sNested : Stmt := topS 63
abbrev sBroken : Stmt := topS 64
theorem cut_toG (xs : List V) (i : Nat) : cutV xs none (some (i : Int)) = xs.take i := by
  by_cases h : i ≤ xs.length
  · exact cut_to xs i h
  · unfold cutV
    have e1 : HT.sIx xs.length 0 none = 0 := rfl
    have e2 : HT.sIx xs.length xs.length (some (i : Int)) = xs.length := by rw [HT.sIx_nat]; omega
    rw [e1, e2, List.drop_zero, Nat.sub_zero, List.take_of_length_le (Nat.le_refl _), List.take_of_length_le (by omega)]
theorem cut_fromG (xs : List V) (i : Nat) : cutV xs (some (i : Int)) none = xs.drop i := by
  by_cases h : i ≤ xs.length
  · exact cut_from xs i h
  · unfold cutV
    have e1 : HT.sIx xs.length xs.length none = xs.length := rfl
    have e2 : HT.sIx xs.length 0 (some (i : Int)) = xs.length := by rw [HT.sIx_nat]; omega
    rw [e1, e2, List.drop_of_length_le (Nat.le_refl _), List.drop_of_length_le (by omega)]
    simp
/-- behind __exit__: the room is as ahead of the trial -/
theorem leave_ok {K : PySem.W.Frag} {C CT CR p dx d l d' l' t dt : Addr} {T : List (Addr × Str)} {fx : List (Str × V)} {Ha H1 H2 : Hp} {Q : VK} {v1 v2 v3 : V} (R : RmC K C) (ne : C ≠ CR) (fo : FxOk fx) (hp : Ha p = some (.ins C dx (roomF d l fx))) (s1 : Same Ha H1) (ht : Ha t = none)
    (h1 : H1 t = some (.ins CT dt (trF p (.ref d) (.ref l)))) (a : St T p H1 H2) (hp2 : H2 p = some (.ins C dx (roomF d' l' fx))) (k : ∀ H3, Sn T Ha H3 → StK CR H2 H3 → Kp p H2 H3 → Q .non H3) : spTExit K CT [.ref t, v1, v2, v3] H2 Q C8.E0 := by
  have hpt : p ≠ t := fun z => by rw [z, ht] at hp; cases hp
  refine exit_nx R fo h1 hpt ⟨(a.ins h1 hpt.symm).trans h1.symm, d', l', hp2⟩ fun H3 kp e3 => ?_
  have a3 : St T p H2 H3 := St.of kp (pl_ins hp2)
  exact k H3 (St.back ((Sn.of s1).st.trans (a.trans a3)) fun o e => by rw [hp] at e; cases e; exact e3) (a3.stk hp2 ne) kp
def lamNe : Expr := arg0 (asgV (nth (defBody sNested) 2))
def lamBr : Expr := arg0 (asgV (nth (tryB (nth (defBody sBroken) 1)) 0))
abbrev hrN : List Str := ["_law_held", "_law_rows"]
theorem ndNe : ndefB (defScope sNested) (lamSc lamNe) ["_law_rows"] = true := by decide +kernel
theorem scNe : NScope hrN ["_law_held"] ["_law_rows"] (lamSc lamNe) := nscope_by (by decide +kernel)
theorem ndBr : ndefB (defScope sBroken) (lamSc lamBr) ["_law_rows"] = true := by decide +kernel
theorem scBr : NScope hrN ["_law_held"] ["_law_rows"] (lamSc lamBr) := nscope_by (by decide +kernel)
/-- what is asked of a room and rows -/
structure RowsIn (K : PySem.W.Frag) (ad : Ad) (cf : Bool → Addr) (T : List (Addr × Str)) (H : Hp) (fix : Bool) (p dx d l lr : Addr) (fx : List (Str × V)) (st : Rm) (n : Nat) (xs : List V) (rows : List Row) : Prop where
  at_ : RoomAt K ad.CR (cf fix) fx H p dx d l st
  fxa : FxAt K H fix fx
  g : Gd nm5 fix n st
  len : n + rows.length ≤ 500
  sq : SqL K H lr xs
  pr : Paired (RowAt K ad.CR H) xs rows
  ok : ∀ r ∈ rows, rowN r
  tb : Tabs T H
theorem RowsIn.sn {K : PySem.W.Frag} {ad : Ad} {cf : Bool → Addr} {T : List (Addr × Str)} {H H' : Hp} {fix : Bool} {p dx d l lr : Addr} {fx : List (Str × V)} {st : Rm} {n : Nat} {xs : List V} {rows : List Row} (r : RowsIn K ad cf T H fix p dx d l lr fx st n xs rows) (s : Sn T H H') : RowsIn K ad cf T H' fix p dx d l lr fx st n xs rows :=
  ⟨r.at_.sn s, r.fxa.tk (Kr.tk (CR := ad.CR) s.kr), r.g, r.len, s.seqL r.sq, Paired.mapP r.pr fun _ _ q => q.kr s.kr, r.ok, s.tb r.tb⟩
theorem RowsIn.acted {K : PySem.W.Frag} {ad : Ad} {cf : Bool → Addr} {T : List (Addr × Str)} {H : Hp} {fix : Bool} {p dx d l lr : Addr} {fx : List (Str × V)} {st : Rm} {n : Nat} {xs : List V} {rows : List Row} {Q : VK} {E : XK} (r : RowsIn K ad cf T H fix p dx d l lr fx st n xs rows)
    (k : ∀ d' l' v H', St T p H H' → RoomAt K ad.CR (cf fix) fx H' p dx d' l' (runM fix st rows) → ActedAt K ad.CR H' v (outsM fix st rows) (runM fix st rows) → Q v H') : spActed K ad cf T [.ref p, .ref lr] H Q E :=
  ⟨fix, p, dx, d, l, lr, fx, st, n, xs, rows, rfl, r.at_, r.fxa, r.g, r.len, r.sq, r.pr, r.ok, r.tb, k⟩
def NestAt (K : PySem.W.Frag) (CR : Addr) (H : Hp) (v : V) (fix : Bool) (st : Rm) (rows : List Row) : Prop := ∃ (a : Addr) (fv iv : V), v = .ref a ∧ H a = some (.lst [fv, iv, .bl true]) ∧ ActedAt K CR H fv (outsM fix st (rows.take 2)) (runM fix st (rows.take 2)) ∧ ActedAt K CR H iv (outsM fix (runM fix st (rows.take 2)) (rows.drop 2)) (runM fix st rows)
theorem NestAt.stk {K : PySem.W.Frag} {CR : Addr} {H H' : Hp} {v : V} {fix : Bool} {st : Rm} {rows : List Row} (a : StK CR H H') (h : NestAt K CR H v fix st rows) : NestAt K CR H' v fix st rows := by
  obtain ⟨b, fv, iv, e, h1, h2, h3⟩ := h
  exact ⟨b, fv, iv, e, a.ls _ _ h1, h2.stk a, h3.stk a⟩
def spNested (K : PySem.W.Frag) (ad : Ad) (cf : Bool → Addr) (T : List (Addr × Str)) : Sp := fun vs H Q _ => ∃ (fix : Bool) (p dx d l lr : Addr) (fx : List (Str × V)) (st : Rm) (n : Nat) (xs : List V) (rows : List Row), vs = [.ref p, .ref lr] ∧ RowsIn K ad cf T H fix p dx d l lr fx st n xs rows ∧
  ∀ d' l' v H', St T p H H' → RoomAt K ad.CR (cf fix) fx H' p dx d' l' (runM fix st (rows.take 2)) → NestAt K ad.CR H' v fix st rows → Q v H'
abbrev nNested : List Str := ["_law_room", "_law_rows", "_law_first", "_law_kept", "_law_inner"]
theorem scNested : FnScope nNested ["_law_room", "_law_rows"] (defScope sNested) := C8.fnScope_by (by decide +kernel)
theorem RmIn.state {K : PySem.W.Frag} {ad : Ad} {cf : Bool → Addr} {H : Hp} {fix : Bool} {p dx d l : Addr} {fx : List (Str × V)} {st : Rm} {n : Nat} {Q : VK} {E : XK} (r : RoomAt K ad.CR (cf fix) fx H p dx d l st) (g : Gd nm5 fix n st) (hn : n ≤ 500) (k : ∀ v H', Same H H' → StateAt K ad.CR H' v st → Q v H') : spLState K ad cf [.ref p] H Q E :=
  ⟨fix, p, dx, d, l, fx, st, rfl, r, g.nd, by have := g.lk; have e : nm5.length = 5 := rfl; omega, Nat.le_trans g.ll hn, k⟩
section
variable {P : Program} {w : World} {K : PySem.W.Frag} {mg : Str → Option Value} {base : Heap} {f CM CT : Addr} {fd : FuncData} {ad : Ad} {cf : Bool → Addr} {T : List (Addr × Str)}
theorem ok_nested (F : FnQ K "_law_nested" "_law_nested" sNested f fd) (LT : LTab base mg T fd.code "_law_nested") (MK : ∀ fix, RmK P w K mg base ad CM CT (cf fix) fix) (RG : RgK P w K mg base ad.CR) (CA : C8.Cal P w K mg base 16 "_law_acted" (spActed K ad cf T) []) (CS : C8.Cal P w K mg base 8 "_law_state" (spLState K ad cf) []) :
    At P w K mg base 19 f (spNested K ad cf T) := by
  refine atx_at (atL F scNested (fun _ _ _ _ _ _ us hl => match us, hl with | [_, _], _ => rfl) (fun vs H Q E h => ?_) (fun A outer s H vs Q E hr tk h => ?_)) fun _ _ _ _ z => z
  · obtain ⟨fix, p, dx, d, l, lr, fx, st, n, xs, rows, rfl, _⟩ := h
    rfl
  · obtain ⟨fix, p, dx, d, l, lr, fx, st, n, xs, rows, rfl, hI, k⟩ := h
    obtain ⟨c, PT, TB, hcode, hm, hu⟩ := LT.ex
    have M := MK fix
    refine ⟨_, pss_cons (ps_set (i := 2) scNested.nd rfl (Or.inl rfl) (C8.pe_c CA hr (by omega) (by rfl) (pa_cons (pv 0) (pa_cons (pe_slice sl_list (pv 1) po_none (po_some pe_int)) pa_nil))))
      (pss_cons (ps_set (i := 3) scNested.nd rfl (Or.inl rfl) (C8.pe_c CS hr (by omega) (by rfl) (pa_cons (pv 0) pa_nil)))
      (pss_cons (ps_set (i := 4) scNested.nd rfl (Or.inl rfl)
          (pe_lamm (T := T) (N := hrN) (ps := ["_law_held"]) (fr := ["_law_rows"]) (js := [1]) (kl := 16) (E := C8.E0) (tb := fun _ => tCall (spActed K ad cf T) [] C8.E0 (tCons (tVar 0) (tCons (tSl (rSlL K) (tVar 1) (tPart (tC (.int 2))) tNoPart) tNil))) (M.hTr 17 17 (by omega) (by omega)) (pv 0) M.R.i.cl M.mTr hr (by omega) passE0 ⟨⟨c, PT, TB, hcode, hm, hu⟩, ndNe, scNe, rfl⟩ rfl (fun _ _ _ _ _ us hl => match us, hl with | [_], _ => rfl)
            (fun cl c' f A outer s H E hr tk => C8.pe_c CA hr (by omega) (by rfl) (pa_cons (pv 0) (pa_cons (pe_slice sl_list (pv 1) (po_some pe_int) po_none) pa_nil)))))
      (pss_one (ps_ret (pe_lst (pa_cons (pv 2) (pa_cons (pv 4) (pa_cons (pe_cmpR (op_stEq RG (hr.mono (by omega))) (C8.pe_c CS hr (by omega) (by rfl) (pa_cons (pv 0) pa_nil)) (pv 3) (nomark _)) pa_nil)))))))), ?_⟩
    have hR := hI.at_
    have fo := hR.fxo
    have nat : ∀ {d l : Addr} {m : Str}, (m == ("kept" : Str)) = false → (m == ("calls" : Str)) = false → (m == ("own_frame" : Str)) = false → (roomF d l fx).lookup m = none := fun h1 h2 h3 => fo.look h1 h2 h3
    have ec : cutV xs none (some (2 : Int)) = xs.take 2 := cut_toG xs 2
    have ed : cutV xs (some (2 : Int)) none = xs.drop 2 := cut_fromG xs 2
    have l2 : (rows.take 2).length + (rows.drop 2).length = rows.length := by rw [← List.length_append, List.take_append_drop]
    have hlen := hI.len
    -- the first two
    refine ⟨_, rfl, _, rfl, _, rfl, lr, xs, rfl, hI.sq, fun l1 hl1 => ?_⟩
    rw [ec]
    have s1 : Same H (upd H l1 (.lst (xs.take 2))) := Same.upd1 hl1
    have e1 : upd H l1 (.lst (xs.take 2)) l1 = some (.lst (xs.take 2)) := upd_same
    generalize upd H l1 (.lst (xs.take 2)) = H1 at s1 e1
    have hI1 := hI.sn (Sn.of s1)
    refine RowsIn.acted (E := C8.E0) (n := n) (xs := xs.take 2) (rows := rows.take 2) ⟨hI1.at_, hI1.fxa, hI.g, by omega, SqL.of e1, p_take 2 hI1.pr, fun r hr => hI.ok r (List.mem_of_mem_take hr), hI1.tb⟩ fun d2 l2 fv H2 a2 r2 hv => ?_
    have g2 : Gd nm5 fix (n + (rows.take 2).length) (runM fix st (rows.take 2)) := hI.g.run nm45 fun r hr => hI.ok r (List.mem_of_mem_take hr)
    refine ⟨_, rfl, RmIn.state (E := C8.E0) r2 g2 (by omega) fun kv H3 s3 hk => ?_⟩
    have k12 : StK ad.CR H1 H2 := a2.stk hI1.at_.obj (M.ne)
    have r3 := r2.same s3
    -- tried
    have tb3 : Tabs T H3 := (a2.tb hI1.tb).ext s3
    refine ⟨_, rfl, p, dx, _, rfl, r3.obj, nat (by decide) (by decide) (by decide), tb3, fun lf lc H4 eN T4 hlc => ?_⟩
    have s34 : Sn T H3 H4 := Sn.ofE eN T4
    have r4 := r3.sn s34
    have fx4 : FxAt K H4 fix fx := (hI1.fxa.tk k12.kr.tk).tk ((Kr.of (CR := ad.CR) s3).trans s34.kr).tk
    have sq4 : SqL K H4 lr xs := s34.seqL ((Sn.of (T := T) s3).seqL (a2.seqI hI1.at_.obj hI1.sq))
    have pr4 : Paired (RowAt K ad.CR H4) xs rows := Paired.mapP hI1.pr fun _ _ q => q.kr (k12.kr.trans ((Kr.of s3).trans s34.kr))
    refine ⟨p, dx, d2, l2, fx, rfl, fo, r4.obj, hlc, fun t dt H5 s5 ht h5 => ⟨C8.E0, fun _ _ _ _ z => z.elim, ?_⟩⟩
    have sq5 := s5.seq sq4
    refine ⟨_, rfl, _, rfl, _, rfl, lr, xs, rfl, sq5, fun l6 hl6 => ?_⟩
    rw [ed]
    have s6 : Same H5 (upd H5 l6 (.lst (xs.drop 2))) := Same.upd1 hl6
    have e6 : upd H5 l6 (.lst (xs.drop 2)) l6 = some (.lst (xs.drop 2)) := upd_same
    generalize upd H5 l6 (.lst (xs.drop 2)) = H6 at s6 e6
    have s46 := s5.trans s6
    refine RowsIn.acted (E := C8.E0) (n := n + (rows.take 2).length) (xs := xs.drop 2) (rows := rows.drop 2) ⟨r4.same s46, fx4.tk (TK.of s46), g2, by omega, SqL.of e6, p_drop 2 (Paired.mapP pr4 fun _ _ q => q.kr (Kr.of s46)), fun r hr => hI.ok r (List.mem_of_mem_drop hr), T4.ext s46⟩ fun d7 l7 iv H7 a7 r7 hv7 => ?_
    rw [← runM_app, List.take_append_drop] at hv7
    refine leave_ok M.R M.ne fo r4.obj s5 ht h5 ((Sn.of s6).st.trans a7) r7.obj fun H8 s8 k8 _ => ?_
    have r8 := r4.sn s8
    have k38 : StK ad.CR H3 H8 := (s34.trans s8).stk
    refine ⟨_, rfl, _, rfl, _, rfl, RmIn.state (E := C8.E0) r8 g2 (by omega) fun kv8 H9 s9 hk9 => ⟨_, rfl, _, hk9, (hk.stk k38).stk (StK.of s9), fun H10 s10 => ⟨by show 3 ≤ sizeLine; decide, fun q hq => ?_⟩⟩⟩
    have s11 : Same H10 (upd H10 q (.lst [fv, iv, .bl true])) := Same.upd1 hq
    have s8e := s9.trans (s10.trans s11)
    refine k d2 l2 _ _ ?_ (r8.same s8e) ⟨q, fv, iv, rfl, upd_same, ((hv.stk (StK.of s3)).stk k38).stk (StK.of s8e), (hv7.stk k8).stk (StK.of s8e)⟩
    exact (Sn.of s1).st.trans (a2.trans ((Sn.of s3).trans (s34.trans (s8.trans (Sn.of s8e)))).st)
end
def spBroken (K : PySem.W.Frag) (ad : Ad) (cf : Bool → Addr) (T : List (Addr × Str)) : Sp := fun vs H Q _ => ∃ (fix : Bool) (p dx d l lr : Addr) (fx : List (Str × V)) (st : Rm) (n : Nat) (xs : List V) (rows : List Row), vs = [.ref p, .ref lr] ∧ RowsIn K ad cf T H fix p dx d l lr fx st n xs rows ∧
  ∀ H', Sn T H H' → Q (.str "nobody") H'
abbrev nBroken : List Str := ["_law_room", "_law_rows", "_law_kept", "e"]
theorem scBroken : FnScope nBroken ["_law_room", "_law_rows"] (defScope sBroken) := C8.fnScope_by (by decide +kernel)
theorem nobody_none {NS : List Str} {fix : Bool} {n : Nat} {st : Rm} (g : Gd nm5 fix n st) : getM st.kept "nobody" = none := getM_none fun h => by
  obtain ⟨e, he, q⟩ := List.mem_map.mp h
  have := g.ns e he
  rw [q] at this
  exact absurd this (by decide)
section
variable {P : Program} {w : World} {K : PySem.W.Frag} {mg : Str → Option Value} {base : Heap} {f CM CT : Addr} {fd : FuncData} {ad : Ad} {cf : Bool → Addr} {T : List (Addr × Str)}
theorem ok_broken (F : FnQ K "_law_broken" "_law_broken" sBroken f fd) (X : ExK K mg ad) (LT : LTab base mg T fd.code "_law_broken") (MK : ∀ fix, RmK P w K mg base ad CM CT (cf fix) fix) (CA : C8.Cal P w K mg base 16 "_law_acted" (spActed K ad cf T) []) :
    At P w K mg base 19 f (spBroken K ad cf T) := by
  refine atx_at (atL F scBroken (fun _ _ _ _ _ _ us hl => match us, hl with | [_, _], _ => rfl) (fun vs H Q E h => ?_) (fun A outer s H vs Q E hr tk h => ?_)) fun _ _ _ _ z => z
  · obtain ⟨fix, p, dx, d, l, lr, fx, st, n, xs, rows, rfl, _⟩ := h
    rfl
  · obtain ⟨fix, p, dx, d, l, lr, fx, st, n, xs, rows, rfl, hI, k⟩ := h
    obtain ⟨c, PT, TB, hcode, hm, hu⟩ := LT.ex
    have M := MK fix
    refine ⟨_, pss_cons (ps_set (i := 2) scBroken.nd rfl (Or.inl rfl) pe_non)
      (pss_cons (ps_try_A (tb := fun W => tDrop (tLamMS T (lq "_law_broken") hrN [1] (fun E => tLst (tCons (tCall (spActed K ad cf T) [] C8.E0 (tCons (tVar 0) (tCons (tVar 1) tNil))) (tCons (tMeth (cf fix) "region" (spRgn K ad.CR (cf fix) ad.CN) [] E (tVar 0) (tCons (tC (.str "nobody")) tNil)) tNil))) (cf fix) "tried" (spTried K (cf fix) CT) (tVar 0) W)) rfl rfl scBroken.nd tk
          (fun W pn xe tk' _ => pss_one (ps_expr
            (pe_lammS (T := T) (N := hrN) (ps := ["_law_held"]) (fr := ["_law_rows"]) (js := [1]) (kl := 16) (tb := fun E => tLst (tCons (tCall (spActed K ad cf T) [] C8.E0 (tCons (tVar 0) (tCons (tVar 1) tNil))) (tCons (tMeth (cf fix) "region" (spRgn K ad.CR (cf fix) ad.CN) [] E (tVar 0) (tCons (tC (.str "nobody")) tNil)) tNil))) (M.hTr 17 17 (by omega) (by omega)) (pv 0) M.R.i.cl M.mTr hr (by omega) tk' ⟨⟨c, PT, TB, hcode, hm, hu⟩, ndBr, scBr, rfl⟩ rfl (fun _ _ _ _ _ us hl => match us, hl with | [_], _ => rfl)
              (fun cl c' f A outer s H E hr tk => pe_lst (pa_cons (C8.pe_c CA hr (by omega) (by rfl) (pa_cons (pv 0) (pa_cons (pv 1) pa_nil))) (pa_cons (pe_mtX (E := E) M.hRgn M.R.i.cl M.mRgn hr (by omega) (passes_call tk fun _ _ _ _ z => z) (pv 0) (pa_cons pe_str pa_nil)) pa_nil))))))
          (.consAs (i := 3) (c := .ref ad.CN) ⟨by rfl, by decide, .inl X.gN⟩ rfl rfl (fun a oe cls d pn hz hf => pss_one (ps_set (i := 2) scBroken.nd rfl (Or.inl rfl) (pe_xf X.fN X.vN hz hf (pv 3)))) .nil))
      (pss_one (ps_ret (pv 2)))), ?_⟩
    have hR := hI.at_
    have fo := hR.fxo
    have nat : ∀ {d l : Addr} {m : Str}, (m == ("kept" : Str)) = false → (m == ("calls" : Str)) = false → (m == ("own_frame" : Str)) = false → (roomF d l fx).lookup m = none := fun h1 h2 h3 => fo.look h1 h2 h3
    refine ⟨_, rfl, p, dx, _, rfl, hR.obj, nat (by decide) (by decide) (by decide), hI.tb, fun lf lc H4 eN T4 hlc => ?_⟩
    have s04 : Sn T H H4 := Sn.ofE eN T4
    have hI4 := hI.sn s04
    refine ⟨p, dx, d, l, fx, rfl, fo, hI4.at_.obj, hlc, fun t dt H5 s5 ht h5 => ?_⟩
    have hI5 := hI4.sn (Sn.of s5)
    refine ⟨fun cls dd H2 => cls = .ref ad.CN ∧ ∃ x, dd = some x ∧ H2 x = some (.xd (xvF (.str "nobody"))) ∧ St T p H5 H2 ∧ ∃ d' l', H2 p = some (.ins (cf fix) dx (roomF d' l' fx)), fun cls dd σ' H2 z => ?_, ?_⟩
    · obtain ⟨rfl, x, rfl, hx, a2, d', l', hp2⟩ := z
      refine ⟨.ref ad.CN, rfl, fun a tv ha => leave_ok M.R M.ne fo hI4.at_.obj s5 ht h5 a2 hp2 fun H8 s8 k8 kp8 => ⟨rfl, true, X.NN, fun _ b _ => ?_, fun z => nomatch z⟩⟩
      have hx8 := kp8 x _ (ne_of hx hp2 (by intro z; cases z)) hx
      exact ⟨_, rfl, rfl, rfl, x, _, _, rfl, hx8, xv_look, _, rfl, k H8 (s04.trans s8)⟩
    · refine ⟨_, rfl, _, rfl, hI5.acted (E := C8.E0) fun d7 l7 v H7 a7 r7 hv7 => ?_⟩
      have g7 := hI.g.run nm45 hI.ok
      refine ⟨_, rfl, p, dx, _, rfl, r7.obj, nat (by decide) (by decide) (by decide), p, dx, d7, l7, fx, _, _, rfl, r7, fun _ => ?_, fun r' v' g' _ => ?_⟩
      · intro x H8 s8 hx
        exact ⟨rfl, x, rfl, hx, a7.trans (Sn.of s8).st, d7, l7, s8 _ _ r7.obj⟩
      · rw [nobody_none (NS := nm5) g7] at g'
        cases g'
end
end BX
end
section
set_option Elab.async false
set_option linter.all false
set_option maxRecDepth 100000
set_option maxHeartbeats 4000000
namespace BX
open PySem PySem.Spec PyProof.Rows L2 ClX LamX BXW BXL BXG BXT NdefX BXQ
abbrev sRight : Stmt := topS 65
def lamR1 : Expr := arg0 (asgV (nth (defBody sRight) 2))
def lamR2 : Expr := arg0 (asgV (nth (defBody sRight) 4))
theorem ndR1 : ndefB (defScope sRight) (lamSc lamR1) ["_law_rows"] = true := by decide +kernel
theorem scR1 : NScope hrN ["_law_held"] ["_law_rows"] (lamSc lamR1) := nscope_by (by decide +kernel)
theorem ndR2 : ndefB (defScope sRight) (lamSc lamR2) ["_law_rows"] = true := by decide +kernel
theorem scR2 : NScope hrN ["_law_held"] ["_law_rows"] (lamSc lamR2) := nscope_by (by decide +kernel)
def spRight (K : PySem.W.Frag) (ad : Ad) (cf : Bool → Addr) (T : List (Addr × Str)) : Sp := fun vs H Q _ => ∃ (fix : Bool) (p dx d l lr : Addr) (fx : List (Str × V)) (st : Rm) (n : Nat) (xs : List V) (rows : List Row), vs = [.ref p, .ref lr] ∧ RowsIn K ad cf T H fix p dx d l lr fx st n xs rows ∧
  ∀ H', Sn T H H' → Q (.bl true) H'
abbrev nRight : List Str := ["_law_room", "_law_rows", "_law_kept", "_law_other", "_law_told_here", "_law_nested_here"]
theorem scRight : FnScope nRight ["_law_room", "_law_rows"] (defScope sRight) := C8.fnScope_by (by decide +kernel)
/-- one comparison of rooms -/
theorem rm_eq {K : PySem.W.Frag} {CR CM C C2 : Addr} {fx f2 : List (Str × V)} {H : Hp} {p dx d l q dq dd ll : Addr} {st s2 : Rm} {Q : VK} {E : XK} (r : RoomAt K CR C fx H p dx d l st) (r2 : RoomAt K CR C2 f2 H q dq dd ll s2) (R2 : RmC K C2) (kit : PySem.W.kitOne K (.ref C2) (.ref CM) = some true)
    (k : Q (.bl (eqKept st.kept s2.kept)) H) : spRmEq K CR CM C [.ref p, .ref q] H Q E :=
  ⟨p, dx, d, l, fx, st, .ref q, _, true, rfl, r, R2.i.ty r2.obj, kit, (fun z => nomatch z), fun _ => ⟨q, C2, dq, dd, ll, f2, s2, rfl, R2, r2, k⟩⟩
theorem notFirst_self {K : PySem.W.Frag} {C : Addr} : PySem.W.notFirst K C (.ref C) = true := by simp [PySem.W.notFirst]
section
variable {P : Program} {w : World} {K : PySem.W.Frag} {mg : Str → Option Value} {base : Heap} {f CM CT : Addr} {fd : FuncData} {ad : Ad} {cf : Bool → Addr} {T : List (Addr × Str)}
theorem ok_right (F : FnQ K "_law_right" "_law_right" sRight f fd) (LT : LTab base mg T fd.code "_law_right") (MK : ∀ fix, RmK P w K mg base ad CM CT (cf fix) fix) (kit : ∀ fix, PySem.W.kitOne K (.ref (cf fix)) (.ref CM) = some true) (RG : RgK P w K mg base ad.CR) (CA : C8.Cal P w K mg base 16 "_law_acted" (spActed K ad cf T) []) (CS : C8.Cal P w K mg base 8 "_law_state" (spLState K ad cf) [])
    (CN : C8.Cal P w K mg base 19 "_law_nested" (spNested K ad cf T) []) (CB : C8.Cal P w K mg base 19 "_law_broken" (spBroken K ad cf T) []) : At P w K mg base 22 f (spRight K ad cf T) := by
  refine atx_at (atL F scRight (fun _ _ _ _ _ _ us hl => match us, hl with | [_, _], _ => rfl) (fun vs H Q E h => ?_) (fun A outer s H vs Q E hr tk h => ?_)) fun _ _ _ _ z => z
  · obtain ⟨fix, p, dx, d, l, lr, fx, st, n, xs, rows, rfl, _⟩ := h
    rfl
  · obtain ⟨fix, p, dx, d, l, lr, fx, st, n, xs, rows, rfl, hI, k⟩ := h
    obtain ⟨c, PT, TB, hcode, hm, hu⟩ := LT.ex
    have M := MK fix
    refine ⟨_, pss_cons (ps_par (i := 2) (j := 3) rfl scRight.nd rfl rfl (by decide) rfl rfl (pa_cons (C8.pe_c CS hr (by omega) (by rfl) (pa_cons (pv 0) pa_nil)) (pa_cons (C8.pe_mt0 (at_met M.hCp M.R.i.cl M.mCp) hr (by omega) (pv 0)) pa_nil)) (by rfl))
      (pss_cons (ps_if (PW.pt (pw_or (pt_cmpR (op_rNe M.hEq (hr.mono (by omega)) M.tEq) (pv 3) (pv 0) (nomark _)) (pw_or1 (pt_cmpR (op_stNe RG (hr.mono (by omega))) (C8.pe_c CS hr (by omega) (by rfl) (pa_cons (pv 3) pa_nil)) (pv 2) (nomark _))))) pss_never pss_nil)
      (pss_cons (ps_set (i := 4) scRight.nd rfl (Or.inl rfl)
          (pe_lamm (T := T) (N := hrN) (ps := ["_law_held"]) (fr := ["_law_rows"]) (js := [1]) (kl := 16) (E := C8.E0) (tb := fun _ => tCall (spActed K ad cf T) [] C8.E0 (tCons (tVar 0) (tCons (tVar 1) tNil))) (M.hTr 17 17 (by omega) (by omega)) (pv 0) M.R.i.cl M.mTr hr (by omega) passE0 ⟨⟨c, PT, TB, hcode, hm, hu⟩, ndR1, scR1, rfl⟩ rfl (fun _ _ _ _ _ us hl => match us, hl with | [_], _ => rfl)
            (fun cl c' f A outer s H E hr tk => C8.pe_c CA hr (by omega) (by rfl) (pa_cons (pv 0) (pa_cons (pv 1) pa_nil)))))
      (pss_cons (ps_if (PW.pt (pw_or (pt_cmpR (op_stNe RG (hr.mono (by omega))) (C8.pe_c CS hr (by omega) (by rfl) (pa_cons (pv 0) pa_nil)) (pv 2) (nomark _)) (pw_or (pt_cmpR op_ne (C8.pe_c CB hr (by omega) (by rfl) (pa_cons (pv 0) (pa_cons (pv 1) pa_nil))) pe_str (nomark _)) (pw_or1 (pt_cmpR (op_stNe RG (hr.mono (by omega))) (C8.pe_c CS hr (by omega) (by rfl) (pa_cons (pv 0) pa_nil)) (pv 2) (nomark _)))))) pss_never pss_nil)
      (pss_cons (ps_set (i := 5) scRight.nd rfl (Or.inl rfl)
          (pe_lamm (T := T) (N := hrN) (ps := ["_law_held"]) (fr := ["_law_rows"]) (js := [1]) (kl := 19) (E := C8.E0) (tb := fun _ => tCall (spNested K ad cf T) [] C8.E0 (tCons (tVar 0) (tCons (tVar 1) tNil))) (M.hTr 20 20 (by omega) (by omega)) (pv 0) M.R.i.cl M.mTr hr (by omega) passE0 ⟨⟨c, PT, TB, hcode, hm, hu⟩, ndR2, scR2, rfl⟩ rfl (fun _ _ _ _ _ us hl => match us, hl with | [_], _ => rfl)
            (fun cl c' f A outer s H E hr tk => C8.pe_c CN hr (by omega) (by rfl) (pa_cons (pv 0) (pa_cons (pv 1) pa_nil)))))
      (pss_cons (ps_if (PW.pt (pw_or (pt_cmpR (op_stNe RG (hr.mono (by omega))) (C8.pe_c CS hr (by omega) (by rfl) (pa_cons (pv 0) pa_nil)) (pv 2) (nomark _)) (pw_or (pt_cmpR op_isnot_bl (pe_ix ix_list (pv 5) pe_int (fun _ _ => rfl)) pe_bl (nomark _))
          (pw_or1 (pt_cmpR (op_sayNe (hr.mono (by omega))) (pe_op op_cat (pe_ix ix_list (pe_ix ix_list (pv 5) pe_int (fun _ _ => rfl)) pe_int (fun _ _ => rfl)) (pe_ix ix_list (pe_ix ix_list (pv 5) pe_int (fun _ _ => rfl)) pe_int (fun _ _ => rfl))) (pe_ix ix_list (pv 4) pe_int (fun _ _ => rfl)) (nomark _)))))) pss_never pss_nil)
      (pss_one (ps_ret (pe_and (pe_cmpR (op_stEq RG (hr.mono (by omega))) (pe_ix ix_list (pe_ix ix_list (pv 5) pe_int (fun _ _ => rfl)) pe_int (fun _ _ => rfl)) (pe_ix ix_list (pv 4) pe_int (fun _ _ => rfl)) (nomark _))
        (pe_and (pe_cmpR (op_acEq RG (hr.mono (by omega))) (C8.pe_c CA hr (by omega) (by rfl) (pa_cons (pv 3) (pa_cons (pv 1) pa_nil))) (pv 4) (nomark _)) (pe_one (pe_cmpR (op_stEq RG (hr.mono (by omega))) (C8.pe_c CS hr (by omega) (by rfl) (pa_cons (pv 0) pa_nil)) (pv 2) (nomark _)))))))))))), ?_⟩
    have fo := hI.at_.fxo
    have nat : ∀ {d l : Addr} {m : Str}, (m == ("kept" : Str)) = false → (m == ("calls" : Str)) = false → (m == ("own_frame" : Str)) = false → (roomF d l fx).lookup m = none := fun h1 h2 h3 => fo.look h1 h2 h3
    have n5 : n ≤ 500 := by have := hI.len; omega
    have refl : eqKept st.kept st.kept = true := eqKept_refl hI.g.nd
    -- kept, other
    refine ⟨_, rfl, RmIn.state (E := C8.E0) hI.at_ hI.g n5 fun kv H1 s1 hk1 => ?_⟩
    have hI1 := hI.sn (Sn.of s1)
    refine ⟨_, rfl, p, dx, _, rfl, hI1.at_.obj, nat (by decide) (by decide) (by decide), p, dx, d, l, fx, st, rfl, hI1.at_, hI1.fxa, fun q dq dd lq H2 s2 hq rq2 => ?_⟩
    have hI2 := hI1.sn (Sn.of s2)
    have hk2 := hk1.stk (StK.of s2)
    have hpq : p ≠ q := fun z => by have := hI1.at_.obj; rw [z, hq] at this; cases this
    have a02 : Sn T H H2 := (Sn.of s1).trans (Sn.of s2)
    refine ⟨_, _, rfl, ?_⟩
    refine ⟨_, rfl, _, rfl, q, dq, _, rfl, rq2.obj, .ins hI2.at_.obj notFirst_self, rm_eq rq2 hI2.at_ M.R (kit fix) ⟨_, rfl, _, rfl, ?_⟩⟩
    rw [refl]
    refine iteF ⟨_, rfl, RmIn.state (E := C8.E0) rq2 hI.g n5 fun ov H3 s3 ho3 => ⟨_, rfl, st, ho3, hk2.stk (StK.of s3), fun H4 s4 => ⟨_, rfl, iteF ?_⟩⟩⟩
    -- told
    have a24 : Sn T H2 H4 := (Sn.of s3).trans (Sn.of s4)
    have hI4 := hI2.sn a24
    refine ⟨_, rfl, p, dx, _, rfl, hI4.at_.obj, nat (by decide) (by decide) (by decide), hI4.tb, fun lf lc H5 eN T5 hlc => ?_⟩
    have a25 := a24.trans (Sn.ofE eN T5)
    have hI5 := hI2.sn a25
    refine ⟨p, dx, d, l, fx, rfl, fo, hI5.at_.obj, hlc, fun t dt H6 s6 ht h6 => ⟨C8.E0, fun _ _ _ _ z => z.elim, ?_⟩⟩
    have hI6 := hI5.sn (Sn.of s6)
    refine ⟨_, rfl, _, rfl, hI6.acted (E := C8.E0) fun d7 l7 tv H7 a7 r7 hv7 => ?_⟩
    refine leave_ok M.R M.ne fo hI5.at_.obj s6 ht h6 a7 r7.obj fun H8 s8 k8 _ => ?_
    have hv8 := hv7.stk k8
    have a28 := a25.trans s8
    have hI8 := hI2.sn a28
    -- state, broken, state
    refine ⟨_, rfl, RmIn.state (E := C8.E0) hI8.at_ hI.g n5 fun v9 H9 s9 h9 => ⟨_, rfl, st, h9, (hk2.stk a28.stk).stk (StK.of s9), fun H10 s10 => ⟨_, rfl, iteF ?_⟩⟩⟩
    have a8x : Sn T H8 H10 := (Sn.of s9).trans (Sn.of s10)
    have a2x := a28.trans a8x
    have hI10 := hI2.sn a2x
    refine ⟨_, rfl, _, rfl, fix, p, dx, d, l, lr, fx, st, n, xs, rows, rfl, hI10, fun H11 s11 => ⟨rfl, _, rfl, iteF ?_⟩⟩
    have a8y := a8x.trans s11
    have a2y := a2x.trans s11
    have hI11 := hI2.sn a2y
    refine ⟨_, rfl, RmIn.state (E := C8.E0) hI11.at_ hI.g n5 fun v12 H12 s12 h12 => ⟨_, rfl, st, h12, (hk2.stk a2y.stk).stk (StK.of s12), fun H13 s13 => ⟨_, rfl, iteF ?_⟩⟩⟩
    have a8z := a8y.trans ((Sn.of s12).trans (Sn.of s13))
    have a2z := a2y.trans ((Sn.of s12).trans (Sn.of s13))
    have hI13 := hI2.sn a2z
    -- nested
    refine ⟨_, rfl, p, dx, _, rfl, hI13.at_.obj, nat (by decide) (by decide) (by decide), hI13.tb, fun lf2 lc2 H14 eN2 T14 hlc2 => ?_⟩
    have b2 := a2z.trans (Sn.ofE eN2 T14)
    have b8 := a8z.trans (Sn.ofE eN2 T14)
    have hI14 := hI2.sn b2
    refine ⟨p, dx, d, l, fx, rfl, fo, hI14.at_.obj, hlc2, fun t2 dt2 H15 s15 ht2 h15 => ⟨C8.E0, fun _ _ _ _ z => z.elim, ?_⟩⟩
    have hI15 := hI14.sn (Sn.of s15)
    refine ⟨_, rfl, _, rfl, fix, p, dx, d, l, lr, fx, st, n, xs, rows, rfl, hI15, fun d16 l16 nv H16 a16 r16 hv16 => ?_⟩
    refine leave_ok M.R M.ne fo hI14.at_.obj s15 ht2 h15 a16 r16.obj fun H17 s17 k17 _ => ?_
    have hn17 := hv16.stk k17
    have c2 := b2.trans s17
    have c8 := b8.trans s17
    have hI17 := hI2.sn c2
    refine ⟨_, rfl, RmIn.state (E := C8.E0) hI17.at_ hI.g n5 fun v18 H18 s18 h18 => ⟨_, rfl, st, h18, (hk2.stk c2.stk).stk (StK.of s18), fun H19 s19 => ⟨_, rfl, iteF ?_⟩⟩⟩
    have e19 : Sn T H17 H19 := (Sn.of s18).trans (Sn.of s19)
    have hn19 := hn17.stk e19.stk
    have ht19 := (hv8.stk c8.stk).stk e19.stk
    obtain ⟨na, fv, iv, rfl, n1, n2, n3⟩ := hn19
    obtain ⟨b1, f1, x1, sv1, rfl, p1, p2, p3, p4⟩ := n2
    obtain ⟨b2', f2, x2, sv2, rfl, q1, q2, q3, q4⟩ := n3
    obtain ⟨b0, f0, x0, sv0, rfl, t1, t2', t3, t4⟩ := id ht19
    refine ⟨_, rfl, na, _, _, _, rfl, rfl, SqL.of n1, rfl, _, _, rfl, rfl, _, rfl, iteF ?_⟩
    refine ⟨_, rfl, na, _, _, _, rfl, rfl, SqL.of n1, rfl, b1, _, _, _, rfl, rfl, SqL.of p1, rfl, _, rfl, na, _, _, _, rfl, rfl, SqL.of n1, rfl, b2', _, _, _, rfl, rfl, SqL.of q1, rfl, ?_⟩
    have lx : x1.length + x2.length ≤ 500 := by
      have h1 : x1.length = _ := Paired.length p3
      have h2 : x2.length = _ := Paired.length q3
      rw [h1, h2, outsM_len, outsM_len, List.length_take, List.length_drop]
      have := hI.len
      omega
    refine ⟨f1, f2, x1, x2, rfl, rfl, p2, q2, Nat.le_trans lx (by decide), fun z hz => ?_⟩
    have s20 : Same H19 (upd H19 z (.lst (x1 ++ x2))) := Same.upd1 hz
    have e20 : upd H19 z (.lst (x1 ++ x2)) z = some (.lst (x1 ++ x2)) := upd_same
    generalize upd H19 z (.lst (x1 ++ x2)) = H20 at s20 e20
    have say : ∀ {xs : List V} {os : List Out}, Paired (SayAt H19) xs os → Paired (SayAt H20) xs os := fun h => Paired.mapP h fun _ _ ⟨t, e, w⟩ => ⟨t, e, s20 _ _ w⟩
    have pr := p_app (say p3) (say q3)
    rw [← outsM_app, List.take_append_drop] at pr
    refine ⟨_, rfl, b0, _, _, _, rfl, rfl, SqL.of (s20 _ _ t1), rfl, ⟨says_d e20 (s20 _ _ t2') pr (say t3), fun H21 s21 => ⟨_, rfl, iteF ?_⟩⟩⟩
    have s1921 : Same H19 H21 := s20.trans s21
    -- the end
    refine ⟨_, rfl, na, _, _, _, rfl, rfl, SqL.of (s1921 _ _ n1), rfl, b2', _, _, _, rfl, rfl, SqL.of (s1921 _ _ q1), rfl, _, rfl, b0, _, _, _, rfl, rfl, SqL.of (s1921 _ _ t1), rfl, _, q4.stk (StK.of s1921), t4.stk (StK.of s1921), fun H22 s22 => ⟨_, rfl, iteT ?_⟩⟩
    have s1922 := s1921.trans s22
    have d2 : Sn T H2 H22 := c2.trans (e19.trans (Sn.of s1922))
    have hI22 := hI2.sn d2
    have rq22 := rq2.sn d2
    have hO : RowsIn K ad cf T H22 fix q dq dd lq lr fx st n xs rows := ⟨rq22, hI22.fxa, hI.g, hI.len, hI22.sq, hI22.pr, hI.ok, hI22.tb⟩
    refine ⟨_, rfl, _, rfl, hO.acted (E := C8.E0) fun d23 l23 av H23 a23 r23 hv23 => ?_⟩
    have k23 : StK ad.CR H22 H23 := a23.stk rq22.obj M.ne
    refine ⟨_, rfl, _, _, hv23, (ht19.stk (StK.of s1922)).stk k23, fun H24 s24 => ⟨_, rfl, iteT ?_⟩⟩
    have rp24 := (hI22.at_.st a23 rq22.obj M.ne hpq).same s24
    refine ⟨_, rfl, RmIn.state (E := C8.E0) rp24 hI.g n5 fun v25 H25 s25 h25 => ⟨_, rfl, st, h25, (((hk2.stk d2.stk).stk k23).stk (StK.of s24)).stk (StK.of s25), fun H26 s26 => ?_⟩⟩
    refine k H26 ?_
    have z1 : Sn T H1 H22 := (Sn.of s2).trans d2
    exact (Sn.of s1).trans (St.new z1 (a23.trans ((Sn.of s24).trans ((Sn.of s25).trans (Sn.of s26))).st) hq)
end
end BX
end
section
set_option Elab.async false
set_option linter.all false
set_option maxRecDepth 100000
set_option maxHeartbeats 4000000
namespace BX
open PySem PySem.Spec PyProof.Rows L2 ClX LamX BXW BXL BXG BXT NdefX BXQ
/-! ### rooms of either class compared -/
structure CmpK (K : PySem.W.Frag) (CR : Addr) (cf : Bool → Addr) : Prop where
  kit : ∀ fix, PySem.W.kitOne K (.ref (cf fix)) (.ref (cf false)) = some true
  kitL : PySem.W.kitOne K (.type "list") (.ref (cf false)) = some false
  kitR : PySem.W.kitOne K (.ref CR) (.ref (cf false)) = some false
  neC : cf true ≠ cf false
  sub : PySem.W.subIn K (.ref (cf true)) (.ref (cf false)) = some true
  nfL : ∀ fix, PySem.W.notFirst K (cf fix) (.type "list") = true
  nfR : ∀ fix, PySem.W.notFirst K (cf fix) (.ref CR) = true
theorem OpR.any {X : Cx} {ι : Type} {f : Value → Value → Sem Value} {r : ι → R2} (h : ∀ i, OpR X f (r i)) : OpR X f (fun x y H Q => ∃ i, r i x y H Q) := fun pins s σ H x y v u Q I rx ry ⟨i, q⟩ => h i pins s σ H x y v u Q I rx ry q
theorem CallR.any {X : Cx} {ι : Type} {f : Value} {r : ι → List V → Hp → VK → Prop} (h : ∀ i, CallR X f (r i)) : CallR X f (fun xs H Q => ∃ i, r i xs H Q) := fun pins s σ H xs us Q I rx ⟨i, q⟩ => h i pins s σ H xs us Q I rx q
theorem pg1_any {X : Cx} {ι : Type} {k : Nat} {e : Expr} {tg : ι → TGn1} (h : ∀ i, PG1 X k e (tg i)) : PG1 X k e (fun σ H R => ∃ i, tg i σ H R) := ⟨fun pins s σ H R I ⟨i, q⟩ => (h i).run pins s σ H R I q⟩
/-- a plain room and one of either class: both ways give b -/
def rRooms (K : PySem.W.Frag) (CR : Addr) (cf : Bool → Addr) (neg : Bool) : R2 := fun x y H Q => ∃ (fix : Bool) (q dq dd ll p dx d l : Addr) (f2 fx : List (Str × V)) (s2 st : Rm) (b : Bool), x = .ref q ∧ y = .ref p ∧ RoomAt K CR (cf false) f2 H q dq dd ll s2 ∧ RoomAt K CR (cf fix) fx H p dx d l st ∧
  eqKept s2.kept st.kept = b ∧ eqKept st.kept s2.kept = b ∧ Q (.bl (b != neg)) H
section
variable {X : Cx} {ad : Ad} {cf : Bool → Addr} {CT : Addr}
theorem op_roomsEq (MK : ∀ fix, RmK X.prog X.w X.K X.mg X.base ad (cf false) CT (cf fix) fix) (KK : CmpK X.K ad.CR cf) (hr : Room 4 X.A) : OpR X (compareOp .Eq) (rRooms X.K ad.CR cf false) := by
  intro pins s σ H x y v u Q I rx ry h
  obtain ⟨fix, q, dq, dd, ll, p, dx, d, l, f2, fx, s2, st, b, rfl, rfl, h1, h2, e1, e2, k⟩ := h
  cases fix with
  | false => exact op_rEq (MK false).hEq hr (MK false).tEq pins s σ H _ _ v u Q I rx ry ⟨q, dq, _, rfl, h1.obj, .ins h2.obj notFirst_self, rm_eq h1 h2 (MK false).R (KK.kit false) ⟨_, rfl, by rw [e1]; exact k⟩⟩
  | true => exact op_rEqR (MK true).hEq hr (MK true).tEq KK.neC KK.sub pins s σ H _ _ v u Q I rx ry ⟨q, dq, _, p, dx, _, rfl, rfl, h1.obj, h2.obj, rm_eq h2 h1 (MK false).R (KK.kit false) ⟨_, rfl, by rw [e2]; exact k⟩⟩
theorem op_roomsNe (MK : ∀ fix, RmK X.prog X.w X.K X.mg X.base ad (cf false) CT (cf fix) fix) (KK : CmpK X.K ad.CR cf) (hr : Room 4 X.A) : OpR X (compareOp .NotEq) (rRooms X.K ad.CR cf true) := by
  intro pins s σ H x y v u Q I rx ry h
  obtain ⟨fix, q, dq, dd, ll, p, dx, d, l, f2, fx, s2, st, b, rfl, rfl, h1, h2, e1, e2, k⟩ := h
  cases fix with
  | false => exact op_rNe (MK false).hEq hr (MK false).tEq pins s σ H _ _ v u Q I rx ry ⟨q, dq, _, rfl, h1.obj, .ins h2.obj notFirst_self, rm_eq h1 h2 (MK false).R (KK.kit false) ⟨_, rfl, by rw [e1]; exact k⟩⟩
  | true => exact op_rNeR (MK true).hEq hr (MK true).tEq KK.neC KK.sub pins s σ H _ _ v u Q I rx ry ⟨q, dq, _, p, dx, _, rfl, rfl, h1.obj, h2.obj, rm_eq h2 h1 (MK false).R (KK.kit false) ⟨_, rfl, by rw [e2]; exact k⟩⟩
/-- a room is no list, no region -/
def rRoomNo (K : PySem.W.Frag) (CR : Addr) (cf : Bool → Addr) : R2 := fun x y H Q => ∃ (fix : Bool) (p dx d l : Addr) (fx : List (Str × V)) (st : Rm), x = .ref p ∧ RoomAt K CR (cf fix) fx H p dx d l st ∧ ((∃ b xs, y = .ref b ∧ H b = some (.lst xs)) ∨ ∃ r, RegAt K CR H y r) ∧ Q (.bl false) H
theorem op_roomNo (MK : ∀ fix, RmK X.prog X.w X.K X.mg X.base ad (cf false) CT (cf fix) fix) (KK : CmpK X.K ad.CR cf) (G : ClsI X.K ad.CR) (hr : Room 4 X.A) : OpR X (compareOp .Eq) (rRoomNo X.K ad.CR cf) := by
  intro pins s σ H x y v u Q I rx ry h
  obtain ⟨fix, p, dx, d, l, fx, st, rfl, h1, h2, k⟩ := h
  rcases h2 with ⟨b, xs, rfl, hb⟩ | ⟨r, b, db, fv, rfl, hb, _⟩
  · exact op_rEq (MK fix).hEq hr (MK fix).tEq pins s σ H _ _ v u Q I rx ry ⟨p, dx, _, rfl, h1.obj, .lst hb (KK.nfL fix), p, dx, d, l, fx, st, .ref b, _, false, rfl, h1, .base (.lst hb), KK.kitL, (fun _ => ⟨_, rfl, k⟩), fun z => nomatch z⟩
  · exact op_rEq (MK fix).hEq hr (MK fix).tEq pins s σ H _ _ v u Q I rx ry ⟨p, dx, _, rfl, h1.obj, .ins hb (KK.nfR fix), p, dx, d, l, fx, st, .ref b, _, false, rfl, h1, G.ty hb, KK.kitR, (fun _ => ⟨_, rfl, k⟩), fun z => nomatch z⟩
/-- two equal regions -/
theorem rcG_reg {CR f : Addr} (F : At X.prog X.w X.K X.mg X.base 1 f (spREq X.K CR)) (hs : PySem.W.findIn X.K (.ref CR) "__eq__" = some (some (.ref f))) (hf : PySem.W.isFn X.K (.ref f) = true) : RcG X 1 (DReg X.K CR) := by
  obtain ⟨fd, ps, F, kp, b⟩ := F.ex
  have F2 : FnOk X.prog X.w X.K X.mg X.base C8.CX0 1 f fd ps (spEq fun a b H => ∃ r, RegAt X.K CR H (.ref a) r ∧ RegAt X.K CR H (.ref b) r) := by
    have imp : ∀ vs H Q E, spEq (fun a b H => ∃ r, RegAt X.K CR H (.ref a) r ∧ RegAt X.K CR H (.ref b) r) vs H Q E → spREq X.K CR vs H Q E := fun vs H Q E h => by
      obtain ⟨a, b, rfl, ⟨r, h1, h2⟩, q⟩ := h
      exact ⟨_, _, r, r, rfl, h1, h2, by rw [decide_eq_true (rfl : r = r)]; exact q H Ext.rfl'⟩
    exact ⟨fun vs H Q E h => F.len _ _ _ _ (imp _ _ _ _ h), fun A outer s H args us vs Q E hr e0 hb r h => F.run A outer s H args us vs Q E hr e0 hb r (imp _ _ _ _ h)⟩
  intro A pins s σ H x y u v sb I rx ry d
  refine rcG_ins (CX := C8.CX0) (C := CR) (E := C8.E0) F2 hs hf b C8.pass0 A pins s σ H x y u v sb I rx ry ?_
  obtain ⟨r, h1, h2⟩ := d
  obtain ⟨a, dx, fv, rfl, ha, hfa⟩ := id h1
  obtain ⟨c, dy, gv, rfl, hb, hfb⟩ := id h2
  exact ⟨a, c, dx, dy, _, _, rfl, rfl, ha, hb, r, h1, h2⟩
def rRegEq (K : PySem.W.Frag) (CR : Addr) : R2 := fun x y H Q => ∃ r, RegAt K CR H x r ∧ RegAt K CR H y r ∧ ∀ H', Same H H' → Q (.bl true) H'
theorem op_regEq {CR : Addr} (R : RgK X.prog X.w X.K X.mg X.base CR) (hr : Room 4 X.A) : OpR X (compareOp .Eq) (rRegEq X.K CR) :=
  OpR.imp (op_eqG (rcG_reg R.hQ R.sQ R.fnQ) (hr.mono (by omega))) fun _ _ _ _ ⟨r, h1, h2, q⟩ => ⟨⟨r, h1, h2⟩, q⟩
end
/-! ### the plain room -/
def plainE (ns : List Str) : List Ent := ns.map fun n => ⟨"zoe", "put", n, none⟩
def plainS (kept : List (Str × Rgn)) (ns : List Str) : Rm := ⟨plainM kept ns, plainE ns⟩
theorem put_plain (st : Rm) (u n : Str) (r : Rgn) : putM false st u n r = .told none (replaceM st u "put" n (some r)) := rfl
theorem plain_step {kept : List (Str × Rgn)} {ns : List Str} {i : Nat} {n : Str} (nd : ns.Nodup) (h : ns[i]? = some n) : replaceM (plainS kept (ns.take i)) "zoe" "put" n (some (regOf kept n)) = plainS kept (ns.take (i + 1)) := by
  have et : ns.take (i + 1) = ns.take i ++ [n] := by rw [List.take_succ, h]; rfl
  have hn : n ∉ ns.take i := fun hm => by
    have hi := (List.getElem?_eq_some_iff.mp h).1
    have e : ns[i] = n := (List.getElem?_eq_some_iff.mp h).2
    obtain ⟨j, hj, q⟩ := List.mem_iff_getElem.mp hm
    rw [List.length_take] at hj
    rw [List.getElem_take] at q
    have := (List.getElem_inj nd).mp (q.trans e.symm)
    omega
  unfold replaceM plainS
  have h1 : setM (plainM kept (ns.take i)) n (some (regOf kept n)) = plainM kept (ns.take (i + 1)) := plain_snoc nd h
  have h2 : getM (plainM kept (ns.take i)) n = none := getM_none (by rw [plain_names]; exact hn)
  have h3 : plainE (ns.take i) ++ [⟨"zoe", "put", n, getM (plainM kept (ns.take i)) n⟩] = plainE (ns.take (i + 1)) := by
    rw [h2, et]
    unfold plainE
    rw [List.map_append]
    rfl
  show (⟨_, _⟩ : Rm) = ⟨_, _⟩
  rw [h1, h3]
theorem plain_gd {kept : List (Str × Rgn)} {ns : List Str} (nd : ns.Nodup) (h : ∀ n ∈ ns, n ∈ nm4) : Gd nm5 false 4 (plainS kept ns) := by
  refine ⟨by rw [show (plainS kept ns).kept = plainM kept ns from rfl, plain_names]; exact nd, fun e he => ?_, fun _ _ => rfl, fun e he => ?_, ?_⟩
  · obtain ⟨n, hn, q⟩ := List.mem_map.mp (show e ∈ ns.map fun n => (n, regOf kept n) from he)
    rw [← q]
    exact nm45 _ (h n hn)
  · obtain ⟨n, hn, q⟩ := List.mem_map.mp (show e ∈ ns.map fun n => (⟨"zoe", "put", n, none⟩ : Ent) from he)
    rw [← q]
    exact ⟨nm45 _ (h n hn), fun r z => by cases z⟩
  · show (ns.map _).length ≤ 4
    rw [List.length_map]
    exact nodup_len nd h
theorem Gd.wk {fix : Bool} {n : Nat} {st : Rm} (g : Gd nm4 fix n st) : Gd nm5 fix n st := ⟨g.nd, fun e he => nm45 _ (g.ns e he), g.ins, fun e he => ⟨nm45 _ (g.ln e he).1, (g.ln e he).2⟩, g.ll⟩
theorem Gd.names4 {fix : Bool} {n : Nat} {st : Rm} (g : Gd nm4 fix n st) : ∀ x ∈ namesM st.kept, x ∈ nm4 := fun x hx => by
  obtain ⟨e, he, q⟩ := List.mem_map.mp ((namesM_perm st.kept).mem_iff.mp hx)
  rw [← q]
  exact g.ns e he
/-! ### what is new -/
def Fr (H : Hp) (p : Addr) : Prop := ∀ o, H p = some o → ∃ ps, o = .tbl ps
theorem Sn.fr {T : List (Addr × Str)} {H H1 : Hp} {p : Addr} (s : Sn T H H1) (h : H1 p = none) : Fr H p := fun o e => by
  by_cases z : ∃ ps, o = .tbl ps
  · exact z
  · rw [s.kp p o (fun ps w => z ⟨ps, w⟩) e] at h
    cases h
theorem Sn.chg {T : List (Addr × Str)} {H H1 H' : Hp} {p : Addr} (s : Sn T H H1) (a : St T p H1 H') (h : Fr H p) : Sn T H H' := ⟨fun b o n e => a.kp b o (fun z => by
  rw [z] at e
  obtain ⟨ps, w⟩ := h o e
  exact n ps w) n (s.kp b o n e), fun t => a.tb (s.tb t)⟩
/-- a new instance, just made and filled -/
theorem mk_same {H H' : Hp} {x dx C : Addr} (hx : H x = none) (hdx : H dx = none) (k : Kp x (upd (upd H dx (.own x)) x (.ins C dx [])) H') : Same H H' := fun b o hb => by
  have h1 : b ≠ x := ne_of_none hb hx
  refine k b o h1 ?_
  rw [upd_ne h1, upd_ne (ne_of_none hb hdx)]
  exact hb
/-! ### the plain room's log, as data -/
theorem nm4_ok : ∀ n ∈ nm4, PyData.canLay0 (.str n) = true := by decide +kernel
theorem zp_ok : (PyData.canLay0 (.str "zoe") && PyData.canLay0 (.str "put")) = true := by decide +kernel
theorem plog_can : ∀ {ns : List Str}, (∀ n ∈ ns, n ∈ nm4) → PyData.canLayAll0 (logD (plainE ns)) = true
  | [], _ => rfl
  | n :: ns, h => by
    show ((PyData.canLay0 (.str "zoe") && (PyData.canLay0 (.str "put") && (PyData.canLay0 (.str n) && true))) && PyData.canLayAll0 (logD (plainE ns))) = true
    have z := Bool.and_eq_true_iff.mp zp_ok
    rw [z.1, z.2, nm4_ok n (h n List.mem_cons_self), plog_can fun x hx => h x (List.mem_cons_of_mem _ hx)]
    rfl
theorem plog_dep : ∀ ns : List Str, PyData.depthAll (logD (plainE ns)) ≤ 1
  | [] => Nat.zero_le _
  | n :: ns => by
    show max 1 (PyData.depthAll (logD (plainE ns))) ≤ 1
    have := plog_dep ns
    omega
theorem plog_shaped {ns : List Str} (h : ∀ n ∈ ns, n ∈ nm4) : SeqAt.shaped (.list (logD (plainE ns))) = true := by
  unfold SeqAt.shaped
  have h1 : PyData.canLay0 (.list (logD (plainE ns))) = true := plog_can h
  have h2 : PyData.depth (.list (logD (plainE ns))) ≤ 64 := by
    show PyData.depthAll (logD (plainE ns)) + 1 ≤ 64
    have := plog_dep ns
    omega
  rw [h1, decide_eq_true h2]; rfl
theorem plog_nil : ∀ ns : List Str, PyData.eqv (.list (logD (plainE ns))) (.list []) = decide (ns.length = 0)
  | [] => rfl
  | n :: ns => by
    rw [decide_eq_false (by rw [List.length_cons]; omega)]
    rfl
theorem unlike4 {kept : List (Str × Rgn)} (nd : (kept.map (·.1)).Nodup) {n : Str} (h : n ∈ namesM kept) : eqKept (plainM kept (namesM kept)) (setM (plainM kept (namesM kept)) n (some (turned (regOf kept n)))) = false :=
  eqKept_ne (getM_mem (plain_get (names_nd nd) h)) (setM_get (by rw [plain_names]; exact names_nd nd)) (turned_ne _).symm
end BX
end
section
set_option Elab.async false
set_option linter.all false
set_option maxRecDepth 100000
set_option maxHeartbeats 8000000
namespace BX
open PySem PySem.Spec PyProof.Rows L2 ClX LamX BXW BXL BXG BXT NdefX BXQ
mutual
theorem dp_ext {K : PySem.W.Frag} {H H' : Hp} (e : Same H H') : ∀ (d : PyData) (v : V), Dp K H v d → Dp K H' v d
  | .none, v, h => by cases h; exact .non
  | .bool b, v, h => by cases h; exact .bl b
  | .int i, v, h => by cases h; exact .int i
  | .str x, v, h => by cases h; exact .str x
  | .list ds, v, h => by
    cases h with
    | lst h1 h2 => exact .lst (e.seq h1) (dpAll_ext e ds _ h2)
  | .tuple ds, v, h => by
    cases h with
    | tup h1 h2 => exact .tup (sq_of_tk e h1) (dpAll_ext e ds _ h2)
theorem dpAll_ext {K : PySem.W.Frag} {H H' : Hp} (e : Same H H') : ∀ (ds : List PyData) (vs : List V), DpAll K H vs ds → DpAll K H' vs ds
  | [], vs, h => by cases h; exact .nil
  | d :: ds, vs, h => by
    cases h with
    | cons h1 h2 => exact .cons (dp_ext e d _ h1) (dpAll_ext e ds _ h2)
end
abbrev sLaw : Stmt := topS 66
/-! ### the law -/
def spLaw (K : PySem.W.Frag) (T : List (Addr × Str)) : Sp := fun vs H Q _ => ∃ (a : Addr) (ns : List Int), vs = [.ref a] ∧ SqL K H a (ns.map V.int) ∧ Tabs T H ∧ ∀ H', Q (.bl true) H'
abbrev nLaw : List Str := ["_law_script", "_law_k", "_law_pool_here", "_law_is_fixed", "_law_room", "_law_turn", "_law_plain", "_law_name", "_law_unlike", "_law_box", "_law_far"]
theorem scLaw : FnScope nLaw ["_law_script"] (defScope sLaw) := C8.fnScope_by (by decide +kernel)
/-- the room within a turn that began at Hs -/
structure RP (K : PySem.W.Frag) (ad : Ad) (cf : Bool → Addr) (T : List (Addr × Str)) (Hs : Hp) (fix : Bool) (p dx d l : Addr) (fx : List (Str × V)) (st : Rm) (H : Hp) : Prop where
  sn : Sn T Hs H
  rm : RoomAt K ad.CR (cf fix) fx H p dx d l st
  fxa : FxAt K H fix fx
  g : Gd nm4 fix 9 st
section
variable {K : PySem.W.Frag} {ad : Ad} {cf : Bool → Addr} {T : List (Addr × Str)} {Hs H H' : Hp} {fix : Bool} {p dx d l q : Addr} {fx : List (Str × V)} {st : Rm}
theorem RP.to (r : RP K ad cf T Hs fix p dx d l fx st H) (s : Sn T H H') : RP K ad cf T Hs fix p dx d l fx st H' := ⟨r.sn.trans s, r.rm.sn s, r.fxa.tk (Kr.tk (CR := ad.CR) s.kr), r.g⟩
theorem RP.same (r : RP K ad cf T Hs fix p dx d l fx st H) (s : Same H H') : RP K ad cf T Hs fix p dx d l fx st H' := r.to (Sn.of s)
theorem RP.pool (r : RP K ad cf T Hs fix p dx d l fx st H) (h : PoolAt H q) (k : Kp q H H') (f : Fr Hs q) : RP K ad cf T Hs fix p dx d l fx st H' := by
  obtain ⟨xs, e⟩ := h.lst
  exact ⟨r.sn.chg (St.of k (pl_lst e)) f, pool_room h r.rm k, r.fxa.tk (kq_kr (CR := ad.CR) h k).tk, r.g⟩
theorem RP.chg {C2 dq : Addr} {gs : List (Str × V)} (r : RP K ad cf T Hs fix p dx d l fx st H) (a : St T q H H') (hq : H q = some (.ins C2 dq gs)) (ne : C2 ≠ ad.CR) (hpq : p ≠ q) (f : Fr Hs q) : RP K ad cf T Hs fix p dx d l fx st H' := ⟨r.sn.chg a f, r.rm.st a hq ne hpq, r.fxa.tk (a.kr hq ne).tk, r.g⟩
theorem RP.updL {D : Addr} {xs ys : List V} (r : RP K ad cf T Hs fix p dx d l fx st H) (e : H D = some (.lst xs)) (ne : l ≠ D) (f : Fr Hs D) : RP K ad cf T Hs fix p dx d l fx st (upd H D (.lst ys)) := by
  have a : St T D H (upd H D (.lst ys)) := St.of ((Kp.refl D H).upd) (pl_lst e)
  exact ⟨r.sn.chg a f, r.rm.updL e ne, r.fxa.tk (a.krL (CR := ad.CR) e).tk, r.g⟩
theorem RP.nd (r : RP K ad cf T Hs fix p dx d l fx st H) : (st.kept.map (·.1)).Nodup := r.g.nd
theorem RP.lk (r : RP K ad cf T Hs fix p dx d l fx st H) : st.kept.length ≤ 4 := r.g.lk
theorem RP.nat (r : RP K ad cf T Hs fix p dx d l fx st H) {m : Str} (h1 : (m == ("kept" : Str)) = false) (h2 : (m == ("calls" : Str)) = false) (h3 : (m == ("own_frame" : Str)) = false) : (roomF d l fx).lookup m = none := r.rm.fxo.look h1 h2 h3
end
def Sl (a : Addr) (k : V) (q : Addr) (fix : Bool) (p : Addr) (x5 x6 x7 x8 x9 x10 : Option V) : L2.St := [some (.ref a), some k, some (.ref q), some (.bl fix), some (.ref p), x5, x6, x7, x8, x9, x10]
section
variable {P : Program} {w : World} {K : PySem.W.Frag} {mg : Str → Option Value} {base : Heap} {f CT : Addr} {fd : FuncData} {ad : Ad} {cf : Bool → Addr} {T : List (Addr × Str)} {fFr pFr : Addr} {kF : Nat}
theorem fnP {x qual : Str} {st : Stmt} {N ps : List Str} {k : Nat} {sp : Sp} (F : FnQ K x qual st f fd) (S : FnScope N ps (defScope st))
    (len : ∀ vs H Q E, sp vs H Q E → vs.length = ps.length)
    (hbody : ∀ (cdv : Value) (A : Around) (outer : List Env) (s : Shared) (H : Hp) (vs : List V) (Q : VK) (E : XK), Room k (A.deeper (envOfC qual (defScope st) s.heap.objs.size f cdv)) → sp vs H Q E →
      ∃ t, PSs (cxOf C8.CX0 P w K mg base N qual (defScope st) f cdv A outer s H E).nox (defBody st) t ∧ t { nx := fun _ H' => Q .non H', rt := Q } (start N vs) H) : FnOk P w K mg base C8.CX0 (k + 1) f fd ps sp :=
  F.ok S len fun cdv A outer s H vs Q E hr h => let ⟨t, a, b⟩ := hbody cdv A outer s H vs Q E hr h; ⟨t, PSs.nox a, b⟩
theorem ok_law (F : FnQ K "law" "law" sLaw f fd) (B : Bt mg) (MK : ∀ fix, RmK P w K mg base ad (cf false) CT (cf fix) fix) (KK : CmpK K ad.CR cf) (RG : RgK P w K mg base ad.CR)
    (CP : C8.Cal P w K mg base 1 "_law_pool" (spPool K) []) (CTk : C8.Cal P w K mg base 1 "_law_take" spTake []) (CRw : C8.Cal P w K mg base 7 "_law_row" (spLRow K ad.CR) []) (CLt : C8.Cal P w K mg base 15 "_law_tried" (spLTried K ad cf T) []) (CRt : C8.Cal P w K mg base 22 "_law_right" (spRight K ad cf T) [])
    (CMF : C8.Mak P w K mg base 5 "FixedRoom" (cf true) (spFInit K ad.CR (cf true)) []) (CMR : C8.Mak P w K mg base 1 "Room" (cf false) (spRmInit K ad.CR (cf false)) []) (hFr : At P w K mg base 1 fFr (spFrame K (cf true))) (mFr : PropOf K (cf true) "frame" pFr fFr) : FnOk P w K mg base C8.CX0 24 f fd ["_law_script"] (spLaw K T) := by
  refine fnP F scLaw (fun vs H Q E h => ?_) (fun cdv A outer s H vs Q E hr h => ?_)
  · obtain ⟨a, ns, rfl, _⟩ := h
    rfl
  · obtain ⟨a, ns, rfl, ha, hT, k⟩ := h
    have hu : _ + 64 < cLine := hr.units
    refine ⟨_, pss_cons (ps_for PassesOwn.never rfl (pi_range1 (by rfl) B.range (pa_cons (pe_callB (call_max2 rfl) (by rfl) B.max (by decide +kernel) (pa_cons pe_int (pa_cons (pe_callB (call_min2 rfl) (by rfl) B.min (by decide +kernel) (pa_cons (pe_callB call_len_seq (by rfl) B.len (by decide +kernel) (pa_cons (pv 0) pa_nil)) (pa_cons pe_int pa_nil))) pa_nil))) pa_nil)) (pg_name (i := 1) scLaw.nd rfl (Or.inl rfl))
        (pss_cons (ps_set (i := 2) scLaw.nd rfl (Or.inr rfl) (C8.pe_c CP hr (by omega) (by rfl) (pa_cons (pv 0) (pa_cons (pv 1) pa_nil))))
        (pss_cons (ps_set (i := 3) scLaw.nd rfl (Or.inl rfl) (pe_cmpR op_eq (C8.pe_c CTk hr (by omega) (by rfl) (pa_cons (pv 2) (pa_cons pe_int pa_nil))) pe_int (nomark _)))
        (C8.pss_cut (ps_set (i := 4) scLaw.nd rfl (Or.inr rfl) (pe_ifExp (pt_val (pv 3)) (C8.pe_mk CMF hr (by omega) (by rfl) (pa_cons (pe_tup (pa_cons pe_int (pa_cons pe_int (pa_cons pe_int (pa_cons pe_int pa_nil))))) pa_nil)) (pe_mk0 CMR hr (by omega) (by rfl))))
        (C8.pss_cut (ps_for PassesOwn.never rfl (pi_range1 (by rfl) B.range (pa_cons (C8.pe_c CTk hr (by omega) (by rfl) (pa_cons (pv 2) (pa_cons pe_int pa_nil))) pa_nil)) (pg_name (i := 5) scLaw.nd rfl (Or.inl rfl))
            (pss_one (ps_expr (C8.pe_c CLt hr (by omega) (by rfl) (pa_cons (pv 4) (pa_cons (C8.pe_c CRw hr (by omega) (by rfl) (pa_cons (pv 2) pa_nil)) pa_nil))))))
        (C8.pss_cut (ps_if (pt_not (pt_val (C8.pe_c CRt hr (by omega) (by rfl) (pa_cons (pv 4) (pa_cons (pe_lc (own := [("_law_turn", 5)]) (g := gName 5) (tt := tYes) rfl scLaw.nd (pi_range1 (by rfl) B.range (pa_cons (C8.pe_c CTk hr (by omega) (by rfl) (pa_cons (pv 2) (pa_cons pe_int pa_nil))) pa_nil)) (blkOk_by (by kernel_rfl))
              (fun _ _ _ _ _ => pg_name (i := 5) scLaw.nd rfl (Or.inl rfl) (.inr rfl)) (fun _ _ _ _ _ => pts_nil) (te := tCall (spLRow K ad.CR) [] C8.E0 (tCons (tVar 2) tNil)) (fun _ _ _ _ _ => C8.pe_c CRw hr (by omega) (by rfl) (pa_cons (pv 2) pa_nil))) pa_nil))))) pss_never pss_nil)
        (pss_cons (ps_set (i := 6) scLaw.nd rfl (Or.inl rfl) (pe_mk0 CMR hr (by omega) (by rfl)))
        (C8.pss_cut (ps_forG rfl (hr.mono (by omega)) (pg1_any fun fix => pg1_meth0 (pv 4) (MK fix).R.i.cl (MK fix).mNm (MK fix).hNm1 (hr.mono (by omega)) (MK fix).bNm) (pg_name (i := 7) scLaw.nd rfl (Or.inl rfl))
            (pss_one (ps_expr (pe_mtX (E := C8.E0) (MK false).hPut (MK false).R.i.cl (MK false).mPut hr (by omega) passE0 (pv 6) (pa_cons pe_str (pa_cons (pv 7) (pa_cons (pe_any fun fix => pe_mtX (E := C8.E0) (MK fix).hRgn (MK fix).R.i.cl (MK fix).mRgn hr (by omega) passE0 (pv 4) (pa_cons (pv 7) pa_nil)) pa_nil)))))))
        (C8.pss_cut (ps_if (PW.pt (pw_or (pt_cmpR (op_roomsNe MK KK (hr.mono (by omega))) (pv 6) (pv 4) (nomark _))
            (pw_or (pt_cmpR op_ne (pe_cmpR op_gt (pe_callB (CallR.any fun fix => call_lenOwn (MK fix).hLen (hr.mono (by omega)) (MK fix).mLen) (by rfl) B.len (by decide +kernel) (pa_cons (pv 4) pa_nil)) pe_int (nomark _)) (pe_cmpR (op_neD hu) (C8.pe_mt0 (at_met (MK false).hLog (MK false).R.i.cl (MK false).mLog) hr (by omega) (pv 6)) (pe_lst pa_nil) (nomark _)) (nomark _))
            (pw_or (pt_cmpR (op_roomNo MK KK RG.G.i (hr.mono (by omega))) (pv 4) (pe_any fun fix => C8.pe_mt0 (at_met (MK fix).hLog (MK fix).R.i.cl (MK fix).mLog) hr (by omega) (pv 4)) (nomark _))
            (pw_or1 (pt_cmpR (op_roomNo MK KK RG.G.i (hr.mono (by omega))) (pv 4) (pe_any fun fix => pe_propA (pv 4) (MK fix).R.i.cl (MK fix).mWh (MK fix).hWh hr (by omega) (by rfl)) (nomark _))))))) pss_never pss_nil)
        (C8.pss_cut (ps_forG rfl (hr.mono (by omega)) (pg1_any fun fix => pg1_meth0 (pv 4) (MK fix).R.i.cl (MK fix).mNm (MK fix).hNm1 (hr.mono (by omega)) (MK fix).bNm) (pg_name (i := 7) scLaw.nd rfl (Or.inl rfl))
            (pss_cons (ps_set (i := 8) scLaw.nd rfl (Or.inl rfl) (C8.pe_mt0 (at_met (MK false).hCp (MK false).R.i.cl (MK false).mCp) hr (by omega) (pv 6)))
            (pss_cons (ps_expr (pe_mtX (E := C8.E0) (MK false).hPut (MK false).R.i.cl (MK false).mPut hr (by omega) passE0 (pv 8) (pa_cons pe_str (pa_cons (pv 7) (pa_cons (pe_un (un_own RG.hI (hr.mono (by omega)) RG.mI) (pe_any fun fix => pe_mtX (E := C8.E0) (MK fix).hRgn (MK fix).R.i.cl (MK fix).mRgn hr (by omega) passE0 (pv 4) (pa_cons (pv 7) pa_nil))) pa_nil)))))
            (pss_one (ps_if (PW.pt (pw_or (pt_cmpR (op_roomsEq MK KK (hr.mono (by omega))) (pv 8) (pv 4) (nomark _)) (pw_or (pt_cmpR (op_roomsEq MK KK (hr.mono (by omega))) (pv 8) (pv 6) (nomark _))
              (pw_or1 (pt_not (pt_cmpR (op_regEq RG (hr.mono (by omega))) (pe_mtX (E := C8.E0) (MK false).hRgn (MK false).R.i.cl (MK false).mRgn hr (by omega) passE0 (pv 8) (pa_cons (pv 7) pa_nil)) (pe_un (un_own RG.hI (hr.mono (by omega)) RG.mI) (pe_mtX (E := C8.E0) (MK false).hRgn (MK false).R.i.cl (MK false).mRgn hr (by omega) passE0 (pv 6) (pa_cons (pv 7) pa_nil))) (nomark _))))))) pss_never pss_nil)))))
        (C8.pss_cut (ps_expr (pe_mtX (E := C8.E0) (MK false).hPut (MK false).R.i.cl (MK false).mPut hr (by omega) passE0 (pv 6) (pa_cons pe_str (pa_cons pe_str (pa_cons (pe_sm0 RG.hE hr (by omega) (pe_glob (v := .ref ad.CR) (by rfl) RG.G.g rfl) RG.cr RG.sm) pa_nil)))))
        (C8.pss_cut (ps_if (PW.pt (pw_or (pt_cmpR (op_roomsEq MK KK (hr.mono (by omega))) (pv 6) (pv 4) (nomark _)) (pw_or1 (PW.pt (pw_and (pt_val (pv 3)) (pw_and1 (pt_cmpR (op_neD hu) (pe_propA (C8.pe_mt0 (at_met (MK true).hCp (MK true).R.i.cl (MK true).mCp) hr (by omega) (pv 4)) (MK true).R.i.cl mFr hFr hr (by omega) (by rfl)) (pe_tup (pa_cons pe_int (pa_cons pe_int (pa_cons pe_int (pa_cons pe_int pa_nil))))) (nomark _)))))))) pss_never pss_nil)
        (pss_cons (ps_set (i := 9) scLaw.nd rfl (Or.inr rfl) (pe_cmeth (E := C8.E0) (pe_glob (v := .ref ad.CR) (by rfl) RG.G.g rfl) RG.cr RG.cm RG.hOf (hr.mono (by omega)) C8.pass0 (pa_cons (pe_tup (pa_cons pe_int (pa_cons pe_int (pa_cons pe_int (pa_cons pe_int pa_nil))))) pa_nil)))
        (pss_cons (ps_setLcG (i := 10) (own := [("_law_name", 7)]) rfl (hr.mono (by omega)) scLaw.nd rfl rfl (sw_true rfl rfl rfl (by decide +kernel)) (pg1_any fun fix => pg1_meth0 (pv 4) (MK fix).R.i.cl (MK fix).mNm (MK fix).hNm1 (hr.mono (by omega)) (MK fix).bNm) (blkOk_by (by kernel_rfl)) (by decide +kernel)
            (fun _ _ _ _ _ => pg_name (i := 7) scLaw.nd rfl (Or.inl rfl) (.inr rfl)) (tt := tNot (tB (tMeth ad.CR "within" (spWith K ad.CR) [] C8.E0 (fun σ H Q => ∃ fix, tMeth (cf fix) "region" (spRgn K ad.CR (cf fix) ad.CN) [] C8.E0 (tVar 4) (tCons (tVar 7) tNil) σ H Q) (tCons (tVar 9) tNil)))) (fun _ _ _ _ _ => pts_one (pt_not (pt_val (C8.pe_mt (at_met RG.hW RG.G.i.cl RG.mW) hr (by omega) (pe_any fun fix => pe_mtX (E := C8.E0) (MK fix).hRgn (MK fix).R.i.cl (MK fix).mRgn hr (by omega) passE0 (pv 4) (pa_cons (pv 7) pa_nil)) (pa_cons (pv 9) pa_nil))))) (fun _ _ _ _ _ => pv 7))
        (pss_one (ps_if (PW.pt (pw_and (pt_val (pv 3)) (pw_and1 (pt_cmpR (op_neD hu) (pv 10) (pe_lst pa_nil) (nomark _))))) pss_never pss_nil))))))))))))))))
      (pss_one (ps_ret pe_bl)), ?_⟩
    have b1 : ∃ M : Int, (if (if (4 : Int) < ((ns.map V.int).length : Nat) then 4 else (((ns.map V.int).length : Nat) : Int)) > (1 : Int) then (if (4 : Int) < ((ns.map V.int).length : Nat) then 4 else (((ns.map V.int).length : Nat) : Int)) else 1) = M ∧ 1 ≤ M ∧ M ≤ 4 := by
      refine ⟨_, rfl, ?_, ?_⟩ <;> split <;> (try split) <;> omega
    obtain ⟨M, eM, m1, m4⟩ := b1
    refine ⟨_, rfl, a, _, rfl, .inl ha, _, _, rfl, _, _, rfl, M, ?_, by omega, by omega, ?_⟩
    · show [V.int _] = [V.int M]
      rw [← eM]
    refine walkF (walk_range (lo := 0) (n := M.toNat)) (fun i σ H' => ∃ x1 x2 x3 x4 x5 x6 x7 x8 x9 x10 : Option V, σ = [some (.ref a), x1, x2, x3, x4, x5, x6, x7, x8, x9, x10] ∧ Sn T H H') ⟨_, _, _, _, _, _, _, _, _, _, rfl, Sn.refl H⟩ (fun _ _ _ _ _ => trivial) ?_ ?_
    case refine_2 =>
      rintro σ H' ⟨_, _, _, _, _, _, _, _, _, _, rfl, s0⟩
      exact k H'
    rintro i y σ Hx Hs hi ⟨x1, x2, x3, x4, x5, x6, x7, x8, x9, x10, rfl, s0⟩ ⟨rfl, rfl⟩
    have ha0 := s0.seqL ha
    have hTs := s0.tb hT
    -- pool, is_fixed
    refine ⟨_, rfl, _, rfl, a, ns, i, by show [V.ref a, V.int (0 + (i : Int))] = _; rw [Int.zero_add], ha0, by omega, fun q H1 s1 hq pq => ?_⟩
    have frq : Fr Hs q := (Sn.refl (T := T) Hs).fr hq
    refine ⟨_, rfl, q, 2, rfl, pq, by decide, by decide, fun v H2 k2 p2 hv => ⟨rfl, ?_⟩⟩
    have sn2 : Sn T Hs H2 := by
      obtain ⟨xs, e⟩ := pq.lst
      exact (Sn.of s1).chg (St.of k2 (pl_lst e)) frq
    -- the room
    refine ⟨fun σ' H' => ∃ (fix : Bool) (k' : V) (p dx d l : Addr) (fx : List (Str × V)) (x5 x6 x7 x8 x9 x10 : Option V), σ' = Sl a k' q fix p x5 x6 x7 x8 x9 x10 ∧ Fr Hs p ∧ PoolAt H' q ∧ RP K ad cf T Hs fix p dx d l fx ⟨[], []⟩ H', ?_, ?_⟩
    · refine ⟨_, rfl, _, rfl, ?_⟩
      generalize decide (V.int (v : Int) = V.int 0) = fix
      cases fix with
      | true =>
        refine iteT ⟨by show 4 ≤ sizeLine; decide, fun t ht x dx hx hdx hne => ?_⟩
        have st : Same H2 (upd H2 t (.tup [.int 0, .int 0, .int 7, .int 6])) := Same.upd1 ht
        have et : upd H2 t (.tup [.int 0, .int 0, .int 7, .int 6]) t = some (.tup [.int 0, .int 0, .int 7, .int 6]) := upd_same
        generalize upd H2 t (.tup [.int 0, .int 0, .int 7, .int 6]) = H3 at st et hx hdx
        refine ⟨x, dx, t, rfl, upd_same, ?_, fun d l H4 kp r => ⟨rfl, ?_⟩⟩
        · exact sq_of_tk (fun b o hb => by rw [upd_ne (ne_of_none hb hx), upd_ne (ne_of_none hb hdx)]; exact hb) (SqT.of et)
        have s34 := mk_same hx hdx kp
        have s24 := st.trans s34
        refine ⟨true, _, x, dx, d, l, _, _, _, _, _, _, _, rfl, (sn2.trans (Sn.of st)).fr hx, p2.same s24, sn2.trans (Sn.of s24), r, ⟨t, rfl, SqT.of (s34 _ _ et)⟩, (Gd.init nm4 true).mono (Nat.zero_le _)⟩
      | false =>
        refine iteF fun x dx hx hdx hne => ⟨x, dx, rfl, upd_same, fun d l H4 kp r => ⟨rfl, ?_⟩⟩
        have s24 := mk_same hx hdx kp
        refine ⟨false, _, x, dx, d, l, _, _, _, _, _, _, _, rfl, sn2.fr hx, p2.same s24, sn2.trans (Sn.of s24), r, rfl, (Gd.init nm4 false).mono (Nat.zero_le _)⟩
    rintro σ' H3 ⟨fix, k', p, dx, d, l, fx, x5, x6, x7, x8, x9, x10, rfl, frp, p3, r3⟩
    have mcf : cf fix ≠ ad.CR := (MK fix).ne
    -- up to eight calls
    refine ⟨fun σ' H' => ∃ (d l : Addr) (st : Rm) (x5 x6 x7 x8 x9 x10 : Option V), σ' = Sl a k' q fix p x5 x6 x7 x8 x9 x10 ∧ PoolAt H' q ∧ RP K ad cf T Hs fix p dx d l fx st H', ?_, ?_⟩
    · refine ⟨_, rfl, q, 9, rfl, p3, by decide, by decide, fun v H4 k4 p4 hv => ⟨_, rfl, by omega, by omega, ?_⟩⟩
      have r4 := r3.pool p3 k4 frq
      refine walkF (walk_range (lo := 0) (n := (v : Int).toNat)) (fun i σ H' => ∃ (d l : Addr) (st : Rm) (x5 x6 x7 x8 x9 x10 : Option V), σ = Sl a k' q fix p x5 x6 x7 x8 x9 x10 ∧ PoolAt H' q ∧ RP K ad cf T Hs fix p dx d l fx st H' ∧ Gd nm4 fix i st) ⟨d, l, _, x5, x6, x7, x8, x9, x10, rfl, p4, r4, Gd.init nm4 fix⟩ (fun _ _ _ _ _ => trivial) ?_ ?_
      · rintro j y σ H5 H6 hj ⟨d, l, st, x5, x6, x7, x8, x9, x10, rfl, p5, r5, g5⟩ ⟨rfl, rfl⟩
        refine ⟨_, rfl, _, rfl, q, rfl, p5, fun z row H7 k7 p7 hz hn => ?_⟩
        have r7 := r5.pool p5 k7 frq
        refine ⟨fix, p, dx, d, l, fx, st, z, row, rfl, g5.wk.rmIn (by omega) r7.rm r7.fxa, hz, hn, r7.sn.tb hTs, fun d' l' z' H8 a8 r8 hz8 _ => ?_⟩
        have g8 := g5.next hn (fun _ h => h)
        refine ⟨d', l', _, _, _, _, _, _, _, rfl, ?_, ⟨r7.sn.chg a8 frp, r8, r7.fxa.tk (a8.kr r7.rm.obj mcf).tk, g8.mono (by omega)⟩, g8⟩
        obtain ⟨c, z0, e, b⟩ := p7
        exact ⟨c, z0, a8.lst e (ne_of e r7.rm.obj (by intro z; cases z)), b⟩
      · rintro σ H5 ⟨d, l, st, x5, x6, x7, x8, x9, x10, rfl, p5, r5, g5⟩
        exact ⟨d, l, st, x5, x6, x7, x8, x9, x10, rfl, p5, r5⟩
    clear r3 p3
    rintro σ' H3 ⟨d, l, st, x5, x6, x7, x8, x9, x10, rfl, p3, r3⟩
    have nd := r3.nd
    have lk := r3.lk
    have n4 := r3.g.names4
    have ll := r3.g.ll
    have frp2 := frp
    have nat : ∀ {m : Str}, (m == ("kept" : Str)) = false → (m == ("calls" : Str)) = false → (m == ("own_frame" : Str)) = false → (roomF d l fx).lookup m = none := fun h1 h2 h3 => r3.nat h1 h2 h3
    -- right
    refine ⟨fun σ' H' => ∃ (x5 x6 x7 x8 x9 x10 : Option V), σ' = Sl a k' q fix p x5 x6 x7 x8 x9 x10 ∧ RP K ad cf T Hs fix p dx d l fx st H', ?_, ?_⟩
    · refine ⟨_, rfl, _, rfl, q, 9, rfl, p3, by decide, by decide, fun v H4 k4 p4 hv => ⟨_, rfl, by omega, by omega, fun D hD => ?_⟩⟩
      have r4 := r3.pool p3 k4 frq
      have frD := r4.sn.fr hD
      have lD : l ≠ D := fun z => by obtain ⟨_, zs, hl, _⟩ := r4.rm.ex; rw [z, hD] at hl; cases hl
      have qD : q ≠ D := fun z => by obtain ⟨c, z0, e, _⟩ := p4; rw [z, hD] at e; cases e
      refine walkW (walk_range (lo := 0) (n := (v : Int).toNat)) (fun i H' => PoolAt H' q ∧ RP K ad cf T Hs fix p dx d l fx st H' ∧ ∃ (acc : List V) (rows : List Row), H' D = some (.lst acc) ∧ acc.length = i ∧ Paired (RowAt K ad.CR H') acc rows ∧ ∀ r ∈ rows, rowN r)
        ⟨p4.same (Same.upd1 hD), r4.same (Same.upd1 hD), [], [], upd_same, rfl, .nil, by simp⟩ (fun _ _ _ _ => trivial) ?_ ?_
      · rintro j y H5 H6 hj ⟨p5, r5, acc, rows, e5, la, pr, ok⟩ ⟨rfl, rfl⟩
        refine ⟨by kernel_rfl, _, rfl, q, rfl, p5, fun z row H7 k7 p7 hz hn => ?_⟩
        have r7 := r5.pool p5 k7 frq
        have e7 : H7 D = some (.lst acc) := k7 D _ qD.symm e5
        have krD : Kr ad.CR H7 (upd H7 D (.lst (acc ++ [z]))) := (St.of (T := T) ((Kp.refl D H7).upd) (pl_lst e7)).krL e7
        refine ⟨acc, e7, by rw [la]; exact Nat.lt_of_le_of_lt (by omega : j ≤ 10) (by decide), ?_, r7.updL e7 lD frD, acc ++ [z], rows ++ [row], upd_same, by rw [List.length_append, la]; rfl, ?_, ?_⟩
        · obtain ⟨c, z0, e, b⟩ := p7
          exact ⟨c, z0, by rw [upd_ne qD]; exact e, b⟩
        · exact Paired.snoc (Paired.mapP pr fun _ _ w => (w.kr (kq_kr p5 k7)).kr krD) (hz.kr krD)
        · intro r hr
          rcases List.mem_append.mp hr with hr | hr
          · exact ok r hr
          · have hr : r = row := by simpa using hr
            rw [hr]; exact hn
      · rintro H5 ⟨p5, r5, acc, rows, e5, la, pr, ok⟩
        have lr : acc.length = rows.length := Paired.length pr
        refine ⟨fix, p, dx, d, l, D, fx, st, 9, acc, rows, rfl, ⟨r5.rm, r5.fxa, r5.g.wk, by omega, SqL.of e5, pr, ok, r5.sn.tb hTs⟩, fun H6 s6 => ⟨_, rfl, iteF ?_⟩⟩
        exact ⟨_, _, _, _, _, _, rfl, r5.to s6⟩
    clear r3 p3
    rintro σ' H3 ⟨x5, x6, x7, x8, x9, x10, rfl, r3⟩
    -- the plain room
    refine fun pl dpl hpl hdpl hne => ⟨pl, dpl, rfl, upd_same, fun dl0 ll0 H4 kp4 rl4 => ⟨rfl, ?_⟩⟩
    have s34 := mk_same hpl hdpl kp4
    have r4 := r3.same s34
    have frl : Fr Hs pl := r3.sn.fr hpl
    have ppl : p ≠ pl := fun z => by have := r3.rm.obj; rw [z, hpl] at this; cases this
    have ncf : cf false ≠ ad.CR := (MK false).ne
    refine ⟨fun σ' H' => ∃ (dl ll : Addr) (x5 x7 x8 x9 x10 : Option V), σ' = Sl a k' q fix p x5 (some (.ref pl)) x7 x8 x9 x10 ∧ RP K ad cf T Hs fix p dx d l fx st H' ∧ RoomAt K ad.CR (cf false) [] H' pl dpl dl ll (plainS st.kept (namesM st.kept)), ?_, ?_⟩
    · refine ⟨fix, _, rfl, p, dx, _, rfl, r4.rm.obj, nat (by decide) (by decide) (by decide), nmV st.kept, ⟨p, dx, d, l, fx, st, rfl, r4.rm, by omega, rfl⟩, ?_⟩
      refine ⟨fun i σ' H' => ∃ (dl ll : Addr) (x5 x7 x8 x9 x10 : Option V), σ' = Sl a k' q fix p x5 (some (.ref pl)) x7 x8 x9 x10 ∧ RP K ad cf T Hs fix p dx d l fx st H' ∧ RoomAt K ad.CR (cf false) [] H' pl dpl dl ll (plainS st.kept ((namesM st.kept).take i)),
        ⟨dl0, ll0, _, _, _, _, _, rfl, r4, rl4⟩, ?_, ?_⟩
      · rintro i x σ' H5 hx ⟨dl, ll, x5, x7, x8, x9, x10, rfl, r5, rl5⟩
        unfold nmV at hx
        rw [List.getElem?_map] at hx
        obtain ⟨n, hn, rfl⟩ := Option.map_eq_some_iff.mp hx
        have hmem := List.mem_of_getElem? hn
        obtain ⟨r, g1, g2⟩ := names_mem hmem
        refine ⟨_, rfl, pl, dpl, _, rfl, rl5.obj, rl5.fxo.look (by decide) (by decide) (by decide), _, rfl, fix, _, rfl, p, dx, _, rfl, r5.rm.obj, nat (by decide) (by decide) (by decide), _, rfl, p, dx, d, l, fx, st, n, rfl, r5.rm, fun z => ?_, fun r' v g' hv => ?_⟩
        · rw [g1] at z; cases z
        have er : r' = regOf st.kept n := by rw [g1] at g'; rw [g2]; exact (Option.some.inj g').symm
        subst er
        have gp : Gd nm5 false 4 (plainS st.kept ((namesM st.kept).take i)) := plain_gd ((names_nd nd).sublist (List.take_sublist _ _)) fun m hm => n4 m (List.mem_of_mem_take hm)
        refine ⟨pl, dpl, dl, ll, [], _, "zoe", n, v, _, rfl, gp.rmIn (by omega) rl5 rfl, by decide +kernel, okW_nm n (n4 n hmem), hv, ?_⟩
        rw [put_plain]
        intro d' l' H6 kp6 _ rl6
        rw [plain_step (names_nd nd) hn] at rl6
        exact ⟨d', l', _, _, _, _, _, rfl, r5.chg (St.of kp6 (pl_ins rl5.obj)) rl5.obj ncf ppl frl, rl6⟩
      · rintro σ' H5 ⟨dl, ll, x5, x7, x8, x9, x10, rfl, r5, rl5⟩
        have et : (namesM st.kept).take (nmV st.kept).length = namesM st.kept := by
          apply List.take_of_length_le
          unfold nmV
          rw [List.length_map]
          exact Nat.le_refl _
        rw [et] at rl5
        exact ⟨dl, ll, _, _, _, _, _, rfl, r5, rl5⟩
    clear r3 r4 rl4
    rintro σ' H4 ⟨dl, ll', x5, x7, x8, x9, x10, rfl, r4, rl4⟩
    have natP : ∀ {dl ll : Addr} {m : Str}, (m == ("kept" : Str)) = false → (m == ("calls" : Str)) = false → (m == ("own_frame" : Str)) = false → (roomF dl ll []).lookup m = none := fun h1 h2 h3 => FxOk.look (.inl rfl) h1 h2 h3
    have plk : (plainS st.kept (namesM st.kept)).log.length ≤ 500 := by
      show ((namesM st.kept).map _).length ≤ 500
      rw [List.length_map, namesM_len]
      omega
    -- the comparisons
    refine ⟨fun σ' H' => ∃ (x5 x7 x8 x9 x10 : Option V), σ' = Sl a k' q fix p x5 (some (.ref pl)) x7 x8 x9 x10 ∧ RP K ad cf T Hs fix p dx d l fx st H' ∧ RoomAt K ad.CR (cf false) [] H' pl dpl dl ll' (plainS st.kept (namesM st.kept)), ?_, ?_⟩
    · refine ⟨_, rfl, _, rfl, fix, pl, dpl, dl, ll', p, dx, d, l, [], fx, _, st, true, rfl, rfl, rl4, r4.rm, plain_eq nd, plain_eq' nd, _, rfl, iteF ?_⟩
      refine ⟨_, rfl, fix, p, dx, _, rfl, r4.rm.obj, p, dx, d, l, fx, st, rfl, r4.rm, _, rfl, by omega, _, _, rfl, rfl, _, rfl, pl, dpl, _, rfl, rl4.obj, natP (by decide) (by decide) (by decide), pl, dpl, dl, ll', [], _, rfl, rl4, plk, fun rg xs H5 s5 _ e5 d5 => ⟨Nat.zero_le _, fun z hz => ?_⟩⟩
      have sz : Same H5 (upd H5 z (.lst [])) := Same.upd1 hz
      refine ⟨_, _, .lst (SqL.of (sz _ _ e5)) (dpAll_ext sz _ _ d5), .lst (SqL.of upd_same) .nil, plog_shaped n4, rfl, rfl, _, rfl, ?_⟩
      rw [show PyData.eqv (.list (logD (plainS st.kept (namesM st.kept)).log)) (.list []) = decide ((namesM st.kept).length = 0) from plog_nil _, namesM_len]
      have eb : (!decide (V.bl (decide ((0 : Int) < ((st.kept.length : Nat) : Int))) = V.bl (!decide (st.kept.length = 0)))) = false := by
        have : decide ((0 : Int) < ((st.kept.length : Nat) : Int)) = !decide (st.kept.length = 0) := by
          rw [Bool.eq_iff_iff]
          simp only [decide_eq_true_eq, Bool.not_eq_true', decide_eq_false_iff_not]
          omega
        rw [this]
        simp
      rw [eb]
      have s45 := s5.trans sz
      have r5 := r4.same s45
      have rl5 := rl4.same s45
      refine iteF ⟨_, rfl, fix, _, rfl, p, dx, _, rfl, r5.rm.obj, nat (by decide) (by decide) (by decide), p, dx, d, l, fx, st, rfl, r5.rm, Nat.le_trans ll (by omega), fun rg2 xs2 H6 s6 _ e6 _ => ?_⟩
      have r6 := r5.same s6
      refine ⟨fix, p, dx, d, l, fx, st, rfl, r6.rm, .inl ⟨rg2, xs2, rfl, e6⟩, _, rfl, iteF ?_⟩
      refine ⟨_, rfl, fix, _, rfl, p, dx, _, rfl, r6.rm.obj, p, dx, d, l, fx, st, rfl, r6.rm, nd, fun z7 H7 s7 hz7 => ?_⟩
      have r7 := r6.same s7
      refine ⟨fix, p, dx, d, l, fx, st, rfl, r7.rm, .inr ⟨_, hz7⟩, _, rfl, iteF ?_⟩
      exact ⟨_, _, _, _, _, rfl, r7, rl5.same (s6.trans s7)⟩
    clear r4 rl4
    rintro σ' H4 ⟨x5, x7, x8, x9, x10, rfl, r4, rl4⟩
    -- one name unlike
    refine ⟨fun σ' H' => ∃ (x5 x7 x8 x9 x10 : Option V), σ' = Sl a k' q fix p x5 (some (.ref pl)) x7 x8 x9 x10 ∧ RP K ad cf T Hs fix p dx d l fx st H' ∧ RoomAt K ad.CR (cf false) [] H' pl dpl dl ll' (plainS st.kept (namesM st.kept)), ?_, ?_⟩
    · refine ⟨fix, _, rfl, p, dx, _, rfl, r4.rm.obj, nat (by decide) (by decide) (by decide), nmV st.kept, ⟨p, dx, d, l, fx, st, rfl, r4.rm, by omega, rfl⟩, ?_⟩
      refine ⟨fun i σ' H' => ∃ (x5 x7 x8 x9 x10 : Option V), σ' = Sl a k' q fix p x5 (some (.ref pl)) x7 x8 x9 x10 ∧ RP K ad cf T Hs fix p dx d l fx st H' ∧ RoomAt K ad.CR (cf false) [] H' pl dpl dl ll' (plainS st.kept (namesM st.kept)),
        ⟨_, _, _, _, _, rfl, r4, rl4⟩, ?_, ?_⟩
      · rintro i x σ' H5 hx ⟨x5, x7, x8, x9, x10, rfl, r5, rl5⟩
        unfold nmV at hx
        rw [List.getElem?_map] at hx
        obtain ⟨n, hn, rfl⟩ := Option.map_eq_some_iff.mp hx
        have hmem := List.mem_of_getElem? hn
        obtain ⟨r, g1, g2⟩ := names_mem hmem
        have gp : Gd nm5 false 4 (plainS st.kept (namesM st.kept)) := plain_gd (names_nd nd) n4
        refine ⟨_, rfl, pl, dpl, _, rfl, rl5.obj, natP (by decide) (by decide) (by decide), pl, dpl, dl, ll', [], _, rfl, rl5, rfl, fun u du d1 l1 H6 s6 hu6 ru => ?_⟩
        have r6 := r5.same s6
        have rl6 := rl5.same s6
        have fru : Fr Hs u := r5.sn.fr hu6
        have pu : p ≠ u := fun z => by have := r5.rm.obj; rw [z, hu6] at this; cases this
        have plu : pl ≠ u := fun z => by have := rl5.obj; rw [z, hu6] at this; cases this
        refine ⟨_, rfl, u, du, _, rfl, ru.obj, natP (by decide) (by decide) (by decide), _, rfl, fix, _, rfl, p, dx, _, rfl, r6.rm.obj, nat (by decide) (by decide) (by decide), _, rfl, p, dx, d, l, fx, st, n, rfl, r6.rm, fun z => ?_, fun r' v g' hv => ?_⟩
        · rw [g1] at z; cases z
        have er : r' = regOf st.kept n := by rw [g1] at g'; rw [g2]; exact (Option.some.inj g').symm
        subst er
        obtain ⟨xa, dxa, fva, rfl, hxa, hfa⟩ := id hv
        refine ⟨xa, dxa, _, rfl, hxa, _, _, rfl, hv, fun z7 H7 s7 hz7 => ?_⟩
        have ru7 := ru.same s7
        refine ⟨u, du, d1, l1, [], _, "zoe", n, z7, _, rfl, gp.rmIn (by omega) ru7 rfl, by decide +kernel, okW_nm n (n4 n hmem), hz7, ?_⟩
        rw [put_plain]
        intro d2 l2 H8 kp8 _ ru8
        have a8 : St T u H7 H8 := St.of kp8 (pl_ins ru7.obj)
        have r8 := (r6.same s7).chg a8 ru7.obj ncf pu fru
        have rl8 := (rl6.same s7).st a8 ru7.obj ncf plu
        refine ⟨_, rfl, _, rfl, fix, u, du, d2, l2, p, dx, d, l, [], fx, _, st, false, rfl, rfl, ru8, r8.rm, unlike1 nd hmem, unlike2 nd hmem, _, rfl, iteF ?_⟩
        refine ⟨_, rfl, _, rfl, false, u, du, d2, l2, pl, dpl, dl, ll', [], [], _, _, false, rfl, rfl, ru8, rl8, unlike3 nd hmem, unlike4 nd hmem, _, rfl, iteF ?_⟩
        refine ⟨_, rfl, u, du, _, rfl, ru8.obj, natP (by decide) (by decide) (by decide), _, rfl, u, du, d2, l2, [], _, n, rfl, ru8, fun z => ?_, fun r1 v1 g1' hv1 => ?_⟩
        · have z2 : getM (setM (plainM st.kept (namesM st.kept)) n (some (turned (regOf st.kept n)))) n = none := z
          rw [setM_get (by rw [plain_names]; exact names_nd nd)] at z2
          cases z2
        have e1 : r1 = turned (regOf st.kept n) := by
          have z2 : getM (setM (plainM st.kept (namesM st.kept)) n (some (turned (regOf st.kept n)))) n = some r1 := g1'
          rw [setM_get (by rw [plain_names]; exact names_nd nd)] at z2
          exact (Option.some.inj z2).symm
        subst e1
        refine ⟨_, rfl, pl, dpl, _, rfl, rl8.obj, natP (by decide) (by decide) (by decide), _, rfl, pl, dpl, dl, ll', [], _, n, rfl, rl8, fun z => ?_, fun r2 v2 g2' hv2 => ?_⟩
        · have z2 : getM (plainM st.kept (namesM st.kept)) n = none := z
          rw [plain_get (names_nd nd) hmem] at z2
          cases z2
        have e2 : r2 = regOf st.kept n := by
          have z2 : getM (plainM st.kept (namesM st.kept)) n = some r2 := g2'
          rw [plain_get (names_nd nd) hmem] at z2
          exact (Option.some.inj z2).symm
        subst e2
        obtain ⟨xb, dxb, fvb, rfl, hxb, hfb⟩ := id hv2
        refine ⟨xb, dxb, _, rfl, hxb, _, _, rfl, hv2, fun z9 H9 s9 hz9 => ⟨_, hv1.same s9, hz9, fun H10 s10 => ⟨_, rfl, iteF ?_⟩⟩⟩
        have s810 := s9.trans s10
        exact ⟨_, _, _, _, _, rfl, r8.same s810, rl8.same s810⟩
      · rintro σ' H5 ⟨x5, x7, x8, x9, x10, rfl, r5, rl5⟩
        exact ⟨_, _, _, _, _, rfl, r5, rl5⟩
    clear r4 rl4
    rintro σ' H4 ⟨x5, x7, x8, x9, x10, rfl, r4, rl4⟩
    -- another name
    refine ⟨fun σ' H' => ∃ (dl ll : Addr) (s2 : Rm) (x5 x7 x8 x9 x10 : Option V), σ' = Sl a k' q fix p x5 (some (.ref pl)) x7 x8 x9 x10 ∧ RP K ad cf T Hs fix p dx d l fx st H' ∧ RoomAt K ad.CR (cf false) [] H' pl dpl dl ll s2 ∧ s2.kept = setM (plainM st.kept (namesM st.kept)) "other" (some ([], false)), ?_, ?_⟩
    · have gp : Gd nm5 false 4 (plainS st.kept (namesM st.kept)) := plain_gd (names_nd nd) n4
      refine ⟨_, rfl, pl, dpl, _, rfl, rl4.obj, natP (by decide) (by decide) (by decide), rfl, rfl, fun z H5 s5 hz => ?_⟩
      have rl5 := rl4.same s5
      refine ⟨pl, dpl, dl, ll', [], _, "zoe", "other", z, _, rfl, gp.rmIn (by omega) rl5 rfl, by decide +kernel, by decide +kernel, hz, ?_⟩
      rw [put_plain]
      intro d2 l2 H6 kp6 _ rl6
      exact ⟨d2, l2, _, _, _, _, _, _, rfl, (r4.same s5).chg (St.of kp6 (pl_ins rl5.obj)) rl5.obj ncf ppl frl, rl6, rfl⟩
    clear r4 rl4
    rintro σ' H4 ⟨dl, ll', s2, x5, x7, x8, x9, x10, rfl, r4, rl4, es2⟩
    have ne2 : s2.kept.length ≠ st.kept.length := by rw [es2]; exact other1 r4.g.ns
    -- unlike now; the frame
    refine ⟨fun σ' H' => ∃ (x5 x6 x7 x8 x9 x10 : Option V), σ' = Sl a k' q fix p x5 x6 x7 x8 x9 x10 ∧ RP K ad cf T Hs fix p dx d l fx st H', ?_, ?_⟩
    · refine ⟨_, rfl, _, rfl, fix, pl, dpl, dl, ll', p, dx, d, l, [], fx, s2, st, false, rfl, rfl, rl4, r4.rm, eqKept_len ne2, eqKept_len ne2.symm, _, rfl, iteF ?_⟩
      refine ⟨_, rfl, _, rfl, ?_⟩
      cases fix with
      | false => exact iteF (iteF ⟨_, _, _, _, _, _, rfl, r4⟩)
      | true =>
        refine iteT ⟨_, rfl, p, dx, _, rfl, r4.rm.obj, nat (by decide) (by decide) (by decide), p, dx, d, l, fx, st, rfl, r4.rm, r4.fxa, fun c dc d1 l1 H5 s5 hc rc => ⟨c, dc, _, rfl, rc.obj, c, dc, d1, l1, fx, rfl, rc.obj, r4.fxa.tk (TK.of s5), fun t ht => ⟨by show 4 ≤ sizeLine; decide, fun z hz => ?_⟩⟩⟩
        have sz : Same H5 (upd H5 z (.tup [.int 0, .int 0, .int 7, .int 6])) := Same.upd1 hz
        refine ⟨.tuple [.int 0, .int 0, .int 7, .int 6], .tuple [.int 0, .int 0, .int 7, .int 6], .tup (sq_of_tk sz ht) (.cons (.int _) (.cons (.int _) (.cons (.int _) (.cons (.int _) .nil)))), .tup (SqT.of upd_same) (.cons (.int _) (.cons (.int _) (.cons (.int _) (.cons (.int _) .nil)))), rfl, rfl, _, rfl, iteF ?_⟩
        exact ⟨_, _, _, _, _, _, rfl, r4.same (s5.trans sz)⟩
    clear r4 rl4
    rintro σ' H4 ⟨x5, x6, x7, x8, x9, x10, rfl, r4⟩
    -- within the box
    refine ⟨rfl, by show 4 ≤ sizeLine; decide, fun t ht => ⟨t, b0, rfl, SqT.of upd_same, b0_ok, fun bz H5 s5 hbz => ?_⟩⟩
    have s45 := (Same.upd1 ht).trans s5
    have r5 := r4.same s45
    refine ⟨fix, _, rfl, p, dx, _, rfl, r5.rm.obj, nat (by decide) (by decide) (by decide), fun D hD => ⟨nmV st.kept, ⟨p, dx, d, l, fx, st, rfl, r5.rm.same (Same.upd1 hD), by omega, rfl⟩, ?_⟩⟩
    have frD := r5.sn.fr hD
    have lD : l ≠ D := fun z => by obtain ⟨_, zs, hl, _⟩ := r5.rm.ex; rw [z, hD] at hl; cases hl
    refine ⟨fun i H' => RP K ad cf T Hs fix p dx d l fx st H' ∧ RegAt K ad.CR H' bz boxR ∧ ∃ acc : List V, H' D = some (.lst acc) ∧ acc.length ≤ i ∧ (fix = true → acc = []), ⟨r5.same (Same.upd1 hD), hbz.same (Same.upd1 hD), [], upd_same, Nat.le_refl _, fun _ => rfl⟩, ?_, ?_⟩
    · rintro i x H6 hx ⟨r6, hb6, acc, e6, la, hacc⟩
      unfold nmV at hx
      rw [List.getElem?_map] at hx
      obtain ⟨n, hn, rfl⟩ := Option.map_eq_some_iff.mp hx
      have hmem := List.mem_of_getElem? hn
      obtain ⟨r, g1, g2⟩ := names_mem hmem
      have hi : i < 5 := by
        have := (List.getElem?_eq_some_iff.mp hn).1
        rw [namesM_len] at this
        omega
      refine ⟨by kernel_rfl, fix, _, rfl, p, dx, _, rfl, r6.rm.obj, nat (by decide) (by decide) (by decide), _, rfl, p, dx, d, l, fx, st, n, rfl, r6.rm, fun z => ?_, fun r' v g' hv => ?_⟩
      · rw [g1] at z; cases z
      obtain ⟨xa, dxa, fva, rfl, hxa, hfa⟩ := id hv
      refine ⟨xa, dxa, _, rfl, hxa, rfl, _, rfl, _, bz, r', boxR, rfl, hv, hb6, fun H7 s7 => ⟨_, rfl, ?_⟩⟩
      have r7 := r6.same s7
      have e7 := s7 _ _ e6
      have ok := r6.g.get g'
      cases hw : within r' boxR with
      | true => exact iteF ⟨r7, hb6.same s7, acc, e7, Nat.le_succ_of_le la, hacc⟩
      | false =>
        refine iteT ⟨_, rfl, acc, e7, Nat.lt_of_le_of_lt (by omega : acc.length ≤ 5) (by decide), r7.updL e7 lD frD, ?_, acc ++ [.str n], upd_same, by rw [List.length_append]; exact Nat.add_le_add_right la 1, fun hf => ?_⟩
        · exact (hb6.same s7).kr ((St.of (T := T) ((Kp.refl D H7).upd) (pl_lst e7)).krL e7)
        · subst hf
          have ok : within r' boxR = true := ok
          rw [hw] at ok
          cases ok
    · rintro H6 ⟨r6, hb6, acc, e6, la, hacc⟩
      have fin : ∀ H7, Sn T H6 H7 → Sn T H H7 := fun H7 s7 => s0.trans (r6.sn.trans s7)
      refine ⟨_, rfl, _, rfl, ?_⟩
      cases fix with
      | false => exact iteF (iteF ⟨_, _, _, _, _, _, _, _, _, _, rfl, fin _ (Sn.refl H6)⟩)
      | true =>
        have ea := hacc rfl
        subst ea
        refine iteT ⟨_, rfl, Nat.zero_le _, fun z hz => ?_⟩
        have sz : Same H6 (upd H6 z (.lst [])) := Same.upd1 hz
        refine ⟨.list [], .list [], .lst (SqL.of (sz _ _ e6)) .nil, .lst (SqL.of upd_same) .nil, rfl, rfl, _, rfl, iteF ?_⟩
        exact ⟨_, _, _, _, _, _, _, _, _, _, rfl, fin _ (Sn.of sz)⟩
end
end BX
end
section
set_option Elab.async false
set_option linter.all false
set_option maxRecDepth 100000
set_option maxHeartbeats 8000000
/-! printed by gen_last.py: the facts of the head handed to the walks -/
namespace BXH
open PySem PySem.Spec PyProof.Rows L2 ClX LamX BX BXG BXL BXW BXU
abbrev LZ : PySem.W.OpenLaw := PySem.Challenge.rw_boxregions_k86_whole_trials_leave_no_tra
abbrev PZ : Program := LZ.prog
section
variable {h : Heap} {K : PySem.W.Frag}
theorem SaysZ.parts (Z : SaysZ h K) : (fnL.all fun d => d.ok K) = true ∧ (faL.all fun f => f.ok K) = true ∧ (exL K).all id = true := by
  have z := He.ba Z.ok
  exact ⟨z.1, (He.ba z.2).1, (He.ba z.2).2⟩
theorem SaysZ.fa (Z : SaysZ h K) (i : Nat) {f : He.Fa} (e : faL[i]? = some f) : f.ok K = true := List.all_eq_true.mp Z.parts.2.1 f (List.mem_of_getElem? e)
theorem SaysZ.ex (Z : SaysZ h K) (i : Nat) {b : Bool} (e : (exL K)[i]? = some b) : b = true := List.all_eq_true.mp Z.parts.2.2 b (List.mem_of_getElem? e)
theorem SaysZ.fn (Z : SaysZ h K) (i : Nat) {d : He5.DefA} (e : fnL[i]? = some d) : ∃ fd, FunD K d.name d.qual d.params d.body d.scope (d.dvs K) (d.kws K) (d.at_ K) fd := by
  have e2 : (fnL.map fun d => He5.fnA K (d.at_ K))[i]? = (fnL.map He5.DefA.val)[i]? := by rw [Z.fns]
  rw [List.getElem?_map, List.getElem?_map, e] at e2
  exact He5.DefA.funD (Option.some.inj e2) (List.all_eq_true.mp Z.parts.1 d (List.mem_of_getElem? e))
theorem SaysZ.sf (Z : SaysZ h K) (i : Nat) {d : He5.DefA} (e : sfL[i]? = some d) : fnZ K (d.at_ K) = d.val := by
  have e2 : (sfL.map fun d => fnZ K (d.at_ K))[i]? = (sfL.map He5.DefA.val)[i]? := by rw [Z.sfs]
  rw [List.getElem?_map, List.getElem?_map, e] at e2
  exact Option.some.inj e2
theorem clsI_of {C : Addr} (c : Cls K C) (h : clsIB K C = true) : ClsI K C := by
  obtain ⟨h1, h⟩ := He.ba h
  obtain ⟨h2, h⟩ := He.ba h
  obtain ⟨h3, h4⟩ := He.ba h
  exact ⟨c, He.eqO_ok h1, He.eqO_ok h2, of_decide_eq_true h3, of_decide_eq_true h4⟩
theorem cread_of {C : Addr} (h : creadB K C = true) : CRead K C (.type "type") := by
  obtain ⟨h1, h2⟩ := He.ba h
  exact ⟨h1, He.eqO_ok h2⟩
theorem fc_of {c : Value} {n : Str} {id : String} (h : fcB K c n id = true) : PySem.W.findCls K c (.type "type") n = some (.val (.builtin id)) := by
  unfold fcB at h
  split at h
  · rename_i g e
    rw [e, of_decide_eq_true h]
  · cases h
theorem prop_of {C : Addr} {m : Str} (h : propB K C m = true) : PropOf K C m (He.ma K C m) (He5.wf K C "property" m) := by
  obtain ⟨h1, h⟩ := He.ba h
  obtain ⟨h2, h⟩ := He.ba h
  obtain ⟨h3, h4⟩ := He.ba h
  refine ⟨He.eqO_ok h1, He.eqO_ok h2, of_decide_eq_true h3, ?_⟩
  unfold He5.wf
  split at h4
  · rename_i f r e
    exact ⟨r, by rw [e]⟩
  · cases h4
structure OxB (K : PySem.W.Frag) (C : Addr) (bt : List Value) (newId : String) : Prop where
  ini : PySem.W.excInitIn K C bt newId = true
  ovr : PySem.W.excOver K C bt = true
  hd : PySem.W.hasDictIn K C = true
  sa : PySem.W.findIn K (.ref C) "__setattr__" = some (some (.builtin "object.__setattr__"))
  exC : PySem.W.subIn K (.ref C) (.type "BaseException") = some true
  tyC : PySem.W.typeIn K (.ref C) = some (.type "type")
  kC : PySem.W.keepIn K (.ref C) = true
  me : PySem.W.findIn K (.ref C) "__init__" = some (some (.ref (He.ma K C "__init__")))
  ti : PySem.W.typeIn K (.ref (He.ma K C "__init__")) = some (.type "function")
theorem oxB_of {C : Addr} {bt : List Value} {newId : String} (h : oxB K C bt newId = true) : OxB K C bt newId := by
  obtain ⟨h1, h⟩ := He.ba h
  obtain ⟨h2, h⟩ := He.ba h
  obtain ⟨h3, h⟩ := He.ba h
  obtain ⟨h4, h⟩ := He.ba h
  obtain ⟨h5, h⟩ := He.ba h
  obtain ⟨h6, h⟩ := He.ba h
  obtain ⟨h7, h⟩ := He.ba h
  obtain ⟨h8, h9⟩ := He.ba h
  exact ⟨h1, h2, h3, He.eqO_ok h4, of_decide_eq_true h5, of_decide_eq_true h6, h7, He.eqO_ok h8, of_decide_eq_true h9⟩
theorem xNoName {C : Addr} (o : OxB K C keB "LookupError.__new__") (nv : NoAttr K C "value") : XcC K C (He.ma K C "__init__") "LookupError.__new__" "KeyError" "KeyError.__init__" PySem.F.keB :=
  ⟨⟨⟨_, _, _, PySem.F.excBase_LookupError, by decide⟩, PySem.HBX.iniKE, by decide +kernel, by decide, by decide, by decide, PySem.F.bx_storeKE, o.ini, o.ovr, o.hd, o.sa, o.exC, o.tyC, o.kC⟩, o.me, o.ti, nv⟩
theorem xOutside {C : Addr} (o : OxB K C veB "ValueError.__new__") (nv : NoAttr K C "value") : XcC K C (He.ma K C "__init__") "ValueError.__new__" "ValueError" "ValueError.__init__" veB :=
  ⟨⟨⟨_, _, _, PySem.F.excBase_ValueError, by decide⟩, PySem.HBX.IniF.of PySem.F.excBase_ValueError, by decide +kernel, by decide, by decide, by decide, PySem.F.store_ValueError, o.ini, o.ovr, o.hd, o.sa, o.exC, o.tyC, o.kC⟩, o.me, o.ti, nv⟩
theorem xBlocked {C : Addr} (o : OxB K C reB "RuntimeError.__new__") (nv : NoAttr K C "value") : XcC K C (He.ma K C "__init__") "RuntimeError.__new__" "RuntimeError" "RuntimeError.__init__" reB :=
  ⟨⟨⟨_, _, _, PySem.F.excBase_RuntimeError, by decide⟩, PySem.HBX.IniF.of PySem.F.excBase_RuntimeError, by decide +kernel, by decide, by decide, by decide, PySem.F.store_RuntimeError, o.ini, o.ovr, o.hd, o.sa, o.exC, o.tyC, o.kC⟩, o.me, o.ti, nv⟩
theorem xNothing {C : Addr} (o : OxB K C ieB "IndexError.__new__") (nv : NoAttr K C "value") : XcC K C (He.ma K C "__init__") "IndexError.__new__" "IndexError" "IndexError.__init__" ieB :=
  ⟨⟨⟨_, _, _, PySem.F.excBase_IndexError, by decide⟩, PySem.HBX.IniF.of PySem.F.excBase_IndexError, by decide +kernel, by decide, by decide, by decide, PySem.F.store_IndexError, o.ini, o.ovr, o.hd, o.sa, o.exC, o.tyC, o.kC⟩, o.me, o.ti, nv⟩
theorem eqc_of {C : Addr} (I : ClsI K C) (h : eqcB K C = true) : EqC K C (He.ma K C "__eq__") := by
  obtain ⟨h1, h⟩ := He.ba h
  obtain ⟨h2, h3⟩ := He.ba h
  exact ⟨He.eqO_ok h1, h2, He.eqO_ok h3, I.hm⟩
theorem supF_of {C : Addr} {m qual : Str} {st : Stmt} (e : fnZ K (He.ma K C m) = some (m, qual, defArgs st, .stmts (defBody st), defScope st, mainGlobals, [], builtinsNs)) (h : supB K C m qual = true)
    (ar : ∃ ar, ((defArgs st).posonlyargs ++ (defArgs st).args).head? = some ar ∧ ar.arg = "self") : ∃ cda cc fd, SupF PZ K m qual st (He.ma K C m) cda cc C fd := by
  obtain ⟨kp, h⟩ := He.ba h
  unfold fnZ at e
  cases q : K.lookup (He.ma K C m) with
  | none => rw [q] at h; cases h
  | some o =>
    obtain ⟨oc, od, dt, osl⟩ := o
    rw [q] at h e
    cases dt with
    | func fd =>
      obtain ⟨n1, n2, n3, n4, n5, n6, n7, n8, n9, n10, n11, n12, n13, n14, n15⟩ := fd
      have e2 : (some (n1, n2, n3, n4, n5, n6, ([] : List (Str × Addr)), n15) : He.FnW) = some (m, qual, defArgs st, .stmts (defBody st), defScope st, mainGlobals, [], builtinsNs) := e
      simp only [Option.some.injEq, Prod.mk.injEq] at e2
      obtain ⟨h1, h2, h3, h4, h5, h6, _, h8⟩ := e2
      subst h1 h2 h3 h4 h5 h6 h8
      obtain ⟨c1, h⟩ := He.ba h
      obtain ⟨c2, h⟩ := He.ba h
      obtain ⟨c3, c4⟩ := He.ba h
      dsimp only at c1 c2 c3 c4
      cases n7 with
      | nil => cases c2
      | cons p t => cases t with
        | cons p2 t2 => cases c2
        | nil =>
          obtain ⟨x, cc⟩ := p
          dsimp only at c2
          obtain ⟨d1, d2⟩ := He.ba c2
          have ex := of_decide_eq_true d1
          subst ex
          cases n8 with
          | none =>
            cases n13 with
            | ref cda =>
              dsimp only at c1 c4
              cases qc : K.lookup cc with
              | none => rw [qc] at d2; cases d2
              | some oo =>
                obtain ⟨cl, cld, cdt, csl⟩ := oo
                rw [qc] at d2
                cases cdt with
                | cell v =>
                  cases v with
                  | none => cases d2
                  | some v =>
                    cases v with
                    | ref D =>
                      have eC := of_decide_eq_true d2
                      subst eC
                      cases qd : K.lookup cda with
                      | none => rw [qd] at c4; cases c4
                      | some od =>
                        obtain ⟨ccl, cdd, vdt, ccs⟩ := od
                        rw [qd] at c4
                        cases vdt with
                        | fields vs =>
                          dsimp only at c4
                          cases qv : vs[2]? with
                          | none => rw [qv] at c4; cases c4
                          | some v =>
                            rw [qv] at c4
                            cases v with
                            | str file tf => exact ⟨cda, cc, _, ⟨⟨_, _, _, _, _, _, _, _, rfl, q⟩, c1, ⟨_, _, vs, _, file, tf, qd, qv, c4⟩, ⟨_, _, _, qc⟩, kp, ar⟩⟩
                            | _ => cases c4
                        | _ => cases c4
                    | _ => cases d2
                | _ => cases d2
            | _ => cases c4
          | _ => cases c3
    | _ => cases h
theorem supM_of {C D : Addr} {m : Str} (h : supmB K C D m = true) : SupM K C C m (He.ma K D m) := by
  obtain ⟨h1, h⟩ := He.ba h
  obtain ⟨h2, h3⟩ := He.ba h
  exact ⟨He.eqO_ok h1, of_decide_eq_true h2, h3⟩
theorem nd_inj {α β : Type} {f : α → β} : ∀ {l : List α}, (l.map f).Nodup → ∀ a ∈ l, ∀ b ∈ l, f a = f b → a = b
  | [], _, a, ha, _, _, _ => by cases ha
  | x :: l, nd, a, ha, b, hb, e => by
    rw [List.map_cons, List.nodup_cons] at nd
    rcases List.mem_cons.mp ha with ea | ha
    · rcases List.mem_cons.mp hb with eb | hb
      · rw [ea, eb]
      · exact (nd.1 (List.mem_map.mpr ⟨b, hb, by rw [← e, ea]⟩)).elim
    · rcases List.mem_cons.mp hb with eb | hb
      · exact (nd.1 (List.mem_map.mpr ⟨a, ha, by rw [e, eb]⟩)).elim
      · exact nd_inj nd.2 a ha b hb e
/-- the tables and what they hold -/
def csT (K : PySem.W.Frag) : List (Addr × Addr) := tfL.map (He.cT K)
def TZ (K : PySem.W.Frag) : List (Addr × Str) := tfL.map fun p => ((He.cT K p).2, lq p.1)
theorem ltab_of {base : Heap} {mg : Str → Option Value} {x : Str} {st : Stmt} {fd : FuncData} (F : FnQ K x x st (He.ga K x) fd) (hp : (x, none) ∈ tfL) (nd : (tfL.map fun p => (He.cT K p).2).Nodup) (hTB : ∀ p ∈ csT K, TabB base mg p.1 p.2) : LTab base mg (TZ K) fd.code x := by
  obtain ⟨oc, od, dV, kV, doc, pm, an, cdv, ct, osl, rfl, lk, hcd, _, _⟩ := F.ex
  obtain ⟨c, rfl⟩ := He.codeIn_ref hcd
  have ec : He.codeOf K (x, none) = c := He.codeOf_eq (p := (x, none)) lk rfl
  have eT : He.cT K (x, none) = (c, (He.cT K (x, none)).2) := Prod.ext ec rfl
  refine ⟨c, (He.cT K (x, none)).2, ?_, rfl, List.mem_map.mpr ⟨(x, none), hp, rfl⟩, fun q hq e => ?_⟩
  · have := hTB _ (List.mem_map.mpr ⟨(x, none), hp, rfl⟩)
    rw [eT] at this
    exact this
  · obtain ⟨p', hp', rfl⟩ := List.mem_map.mp hq
    have := nd_inj nd p' hp' (x, none) hp e
    rw [this]
theorem At.mono {P : Program} {w : World} {mg : Str → Option Value} {base : Heap} {k j : Nat} {f : Addr} {sp : Sp} (a : At P w K mg base k f sp) (hk : k ≤ j) : At P w K mg base j f sp := by
  obtain ⟨fd, ps, F, kp, b⟩ := a.ex
  exact ⟨fd, ps, ⟨F.len, fun A outer s H args us vs Q E hr => F.run A outer s H args us vs Q E (hr.mono hk)⟩, kp, b⟩
theorem AtX.mono {P : Program} {w : World} {mg : Str → Option Value} {base : Heap} {k j : Nat} {f : Addr} {sp : Sp} (a : AtX P w K mg base k f sp) (hk : k ≤ j) : AtX P w K mg base j f sp := by
  obtain ⟨fd, ps, F, kp, b⟩ := a.ex
  exact ⟨fd, ps, ⟨F.len, fun A outer s H args us vs Q E hr => F.run A outer s H args us vs Q E (hr.mono hk)⟩, kp, b⟩
def cfZ (K : PySem.W.Frag) : Bool → Addr
  | false => He.ga K "Room"
  | true => He.ga K "FixedRoom"
def adZ (K : PySem.W.Frag) : Ad := ⟨He.ga K "Region", He.ga K "NoName", He.ga K "Outside", He.ga K "Blocked", He.ga K "NothingLeft"⟩
end
theorem lawZ {w : World} {mg : Str → Option Value} {fa : Addr} {h : Heap} {K : PySem.W.Frag} (Z : SaysZ h K) (G : h.Ns mainGlobals mg) (hl : mg ("law" : Str) = some (.ref fa)) : LamX.LawAtS LZ w K C8.CX0 24 63 "_law_script" mg fa h := by
  obtain ⟨dF_g_merged, F_g_merged⟩ : ∃ dF_g_merged, FnQ K "merged" "merged" (topS 14) (He.ga K "merged") dF_g_merged := Z.fn 0 rfl
  obtain ⟨dF_g_is_covered, F_g_is_covered⟩ : ∃ dF_g_is_covered, FnQ K "is_covered" "is_covered" (topS 15) (He.ga K "is_covered") dF_g_is_covered := Z.fn 1 rfl
  obtain ⟨dF_g_is_wanted, F_g_is_wanted⟩ : ∃ dF_g_is_wanted, FnQ K "is_wanted" "is_wanted" (topS 16) (He.ga K "is_wanted") dF_g_is_wanted := Z.fn 2 rfl
  obtain ⟨dF_g_combined, F_g_combined⟩ : ∃ dF_g_combined, FnQ K "combined" "combined" (topS 17) (He.ga K "combined") dF_g_combined := Z.fn 3 rfl
  obtain ⟨dF_g_spans_at, F_g_spans_at⟩ : ∃ dF_g_spans_at, FnQ K "spans_at" "spans_at" (topS 19) (He.ga K "spans_at") dF_g_spans_at := Z.fn 4 rfl
  obtain ⟨dF_g_tidy, F_g_tidy⟩ : ∃ dF_g_tidy, FnQ K "tidy" "tidy" (topS 20) (He.ga K "tidy") dF_g_tidy := Z.fn 5 rfl
  obtain ⟨dF_g_cuts_of, F_g_cuts_of⟩ : ∃ dF_g_cuts_of, FnQ K "cuts_of" "cuts_of" (topS 21) (He.ga K "cuts_of") dF_g_cuts_of := Z.fn 6 rfl
  obtain ⟨dF_g_slabs_of, F_g_slabs_of⟩ : ∃ dF_g_slabs_of, FnQ K "slabs_of" "slabs_of" (topS 22) (He.ga K "slabs_of") dF_g_slabs_of := Z.fn 7 rfl
  obtain ⟨dF_g_mixed, F_g_mixed⟩ : ∃ dF_g_mixed, FnQ K "mixed" "mixed" (topS 24) (He.ga K "mixed") dF_g_mixed := Z.fn 8 rfl
  obtain ⟨dF_g_is_integer, F_g_is_integer⟩ : ∃ dF_g_is_integer, FnQ K "is_integer" "is_integer" (topS 31) (He.ga K "is_integer") dF_g_is_integer := Z.fn 9 rfl
  obtain ⟨dF_g_are_integers, F_g_are_integers⟩ : ∃ dF_g_are_integers, FnQ K "are_integers" "are_integers" (topS 32) (He.ga K "are_integers") dF_g_are_integers := Z.fn 10 rfl
  obtain ⟨dF_g_is_box, F_g_is_box⟩ : ∃ dF_g_is_box, FnQ K "is_box" "is_box" (topS 34) (He.ga K "is_box") dF_g_is_box := Z.fn 11 rfl
  obtain ⟨dF_g_check_box, F_g_check_box⟩ : ∃ dF_g_check_box, FnQ K "check_box" "check_box" (topS 36) (He.ga K "check_box") dF_g_check_box := Z.fn 12 rfl
  obtain ⟨dF_g_check_region, F_g_check_region⟩ : ∃ dF_g_check_region, FnQ K "check_region" "check_region" (topS 37) (He.ga K "check_region") dF_g_check_region := Z.fn 13 rfl
  obtain ⟨dF_g_united, F_g_united⟩ : ∃ dF_g_united, FnQ K "united" "united" (topS 39) (He.ga K "united") dF_g_united := Z.fn 14 rfl
  obtain ⟨dF_g_turned_out, F_g_turned_out⟩ : ∃ dF_g_turned_out, FnQ K "turned_out" "turned_out" (topS 40) (He.ga K "turned_out") dF_g_turned_out := Z.fn 15 rfl
  obtain ⟨dF_g_is_word, F_g_is_word⟩ : ∃ dF_g_is_word, FnQ K "is_word" "is_word" (topS 45) (He.ga K "is_word") dF_g_is_word := Z.fn 16 rfl
  obtain ⟨dF_g_check_word, F_g_check_word⟩ : ∃ dF_g_check_word, FnQ K "check_word" "check_word" (topS 46) (He.ga K "check_word") dF_g_check_word := Z.fn 17 rfl
  obtain ⟨dF_g_law_pool, F_g_law_pool⟩ : ∃ dF_g_law_pool, FnQ K "_law_pool" "_law_pool" (topS 51) (He.ga K "_law_pool") dF_g_law_pool := Z.fn 18 rfl
  obtain ⟨dF_g_law_take, F_g_law_take⟩ : ∃ dF_g_law_take, FnQ K "_law_take" "_law_take" (topS 52) (He.ga K "_law_take") dF_g_law_take := Z.fn 19 rfl
  obtain ⟨dF_g_law_region, F_g_law_region⟩ : ∃ dF_g_law_region, FnQ K "_law_region" "_law_region" (topS 53) (He.ga K "_law_region") dF_g_law_region := Z.fn 20 rfl
  obtain ⟨dF_g_law_row, F_g_law_row⟩ : ∃ dF_g_law_row, FnQ K "_law_row" "_law_row" (topS 54) (He.ga K "_law_row") dF_g_law_row := Z.fn 21 rfl
  obtain ⟨dF_g_law_act, F_g_law_act⟩ : ∃ dF_g_law_act, FnQ K "_law_act" "_law_act" (topS 57) (He.ga K "_law_act") dF_g_law_act := Z.fn 22 rfl
  obtain ⟨dF_g_law_told, F_g_law_told⟩ : ∃ dF_g_law_told, FnQ K "_law_told" "_law_told" (topS 58) (He.ga K "_law_told") dF_g_law_told := Z.fn 23 rfl
  obtain ⟨dF_g_law_tried, F_g_law_tried⟩ : ∃ dF_g_law_tried, FnQ K "_law_tried" "_law_tried" (topS 60) (He.ga K "_law_tried") dF_g_law_tried := Z.fn 24 rfl
  obtain ⟨dF_g_law_state, F_g_law_state⟩ : ∃ dF_g_law_state, FnQ K "_law_state" "_law_state" (topS 61) (He.ga K "_law_state") dF_g_law_state := Z.fn 25 rfl
  obtain ⟨dF_g_law_acted, F_g_law_acted⟩ : ∃ dF_g_law_acted, FnQ K "_law_acted" "_law_acted" (topS 62) (He.ga K "_law_acted") dF_g_law_acted := Z.fn 26 rfl
  obtain ⟨dF_g_law_nested, F_g_law_nested⟩ : ∃ dF_g_law_nested, FnQ K "_law_nested" "_law_nested" (topS 63) (He.ga K "_law_nested") dF_g_law_nested := Z.fn 27 rfl
  obtain ⟨dF_g_law_broken, F_g_law_broken⟩ : ∃ dF_g_law_broken, FnQ K "_law_broken" "_law_broken" (topS 64) (He.ga K "_law_broken") dF_g_law_broken := Z.fn 28 rfl
  obtain ⟨dF_g_law_right, F_g_law_right⟩ : ∃ dF_g_law_right, FnQ K "_law_right" "_law_right" (topS 65) (He.ga K "_law_right") dF_g_law_right := Z.fn 29 rfl
  obtain ⟨dF_g_law, F_g_law⟩ : ∃ dF_g_law, FnQ K "law" "law" (topS 66) (He.ga K "law") dF_g_law := Z.fn 30 rfl
  obtain ⟨dF_m_Region_init, F_m_Region_init⟩ : ∃ dF_m_Region_init, FnQ K "__init__" "Region.__init__" (mth (topS 41) 0) (He.ma K (He.ga K "Region") "__init__") dF_m_Region_init := Z.fn 31 rfl
  obtain ⟨dF_m_Region_within, F_m_Region_within⟩ : ∃ dF_m_Region_within, FnQ K "within" "Region.within" (mth (topS 41) 8) (He.ma K (He.ga K "Region") "within") dF_m_Region_within := Z.fn 32 rfl
  obtain ⟨dF_m_Region_or, F_m_Region_or⟩ : ∃ dF_m_Region_or, FnQ K "__or__" "Region.__or__" (mth (topS 41) 9) (He.ma K (He.ga K "Region") "__or__") dF_m_Region_or := Z.fn 33 rfl
  obtain ⟨dF_m_Region_sub, F_m_Region_sub⟩ : ∃ dF_m_Region_sub, FnQ K "__sub__" "Region.__sub__" (mth (topS 41) 11) (He.ma K (He.ga K "Region") "__sub__") dF_m_Region_sub := Z.fn 34 rfl
  obtain ⟨dF_m_Region_invert, F_m_Region_invert⟩ : ∃ dF_m_Region_invert, FnQ K "__invert__" "Region.__invert__" (mth (topS 41) 13) (He.ma K (He.ga K "Region") "__invert__") dF_m_Region_invert := Z.fn 35 rfl
  obtain ⟨dF_m_Region_eq, F_m_Region_eq⟩ : ∃ dF_m_Region_eq, FnQ K "__eq__" "Region.__eq__" (mth (topS 41) 18) (He.ma K (He.ga K "Region") "__eq__") dF_m_Region_eq := Z.fn 36 rfl
  obtain ⟨dF_m_Trial_init, F_m_Trial_init⟩ : ∃ dF_m_Trial_init, FnQ K "__init__" "Trial.__init__" (mth (topS 47) 0) (He.ma K (He.ga K "Trial") "__init__") dF_m_Trial_init := Z.fn 37 rfl
  obtain ⟨dF_m_Trial_enter, F_m_Trial_enter⟩ : ∃ dF_m_Trial_enter, FnQ K "__enter__" "Trial.__enter__" (mth (topS 47) 1) (He.ma K (He.ga K "Trial") "__enter__") dF_m_Trial_enter := Z.fn 38 rfl
  obtain ⟨dF_m_Trial_exit, F_m_Trial_exit⟩ : ∃ dF_m_Trial_exit, FnQ K "__exit__" "Trial.__exit__" (mth (topS 47) 2) (He.ma K (He.ga K "Trial") "__exit__") dF_m_Trial_exit := Z.fn 39 rfl
  obtain ⟨dF_m_Room_init, F_m_Room_init⟩ : ∃ dF_m_Room_init, FnQ K "__init__" "Room.__init__" (mth (topS 48) 1) (He.ma K (He.ga K "Room") "__init__") dF_m_Room_init := Z.fn 40 rfl
  obtain ⟨dF_m_Room_check_name, F_m_Room_check_name⟩ : ∃ dF_m_Room_check_name, FnQ K "check_name" "Room.check_name" (mth (topS 48) 3) (He.ma K (He.ga K "Room") "check_name") dF_m_Room_check_name := Z.fn 41 rfl
  obtain ⟨dF_m_Room_check_inside, F_m_Room_check_inside⟩ : ∃ dF_m_Room_check_inside, FnQ K "check_inside" "Room.check_inside" (mth (topS 48) 4) (He.ma K (He.ga K "Room") "check_inside") dF_m_Room_check_inside := Z.fn 42 rfl
  obtain ⟨dF_m_Room_replace, F_m_Room_replace⟩ : ∃ dF_m_Room_replace, FnQ K "replace" "Room.replace" (mth (topS 48) 5) (He.ma K (He.ga K "Room") "replace") dF_m_Room_replace := Z.fn 43 rfl
  obtain ⟨dF_m_Room_put, F_m_Room_put⟩ : ∃ dF_m_Room_put, FnQ K "put" "Room.put" (mth (topS 48) 6) (He.ma K (He.ga K "Room") "put") dF_m_Room_put := Z.fn 44 rfl
  obtain ⟨dF_m_Room_join, F_m_Room_join⟩ : ∃ dF_m_Room_join, FnQ K "join" "Room.join" (mth (topS 48) 7) (He.ma K (He.ga K "Room") "join") dF_m_Room_join := Z.fn 45 rfl
  obtain ⟨dF_m_Room_cut, F_m_Room_cut⟩ : ∃ dF_m_Room_cut, FnQ K "cut" "Room.cut" (mth (topS 48) 8) (He.ma K (He.ga K "Room") "cut") dF_m_Room_cut := Z.fn 46 rfl
  obtain ⟨dF_m_Room_drop, F_m_Room_drop⟩ : ∃ dF_m_Room_drop, FnQ K "drop" "Room.drop" (mth (topS 48) 9) (He.ma K (He.ga K "Room") "drop") dF_m_Room_drop := Z.fn 47 rfl
  obtain ⟨dF_m_Room_undo, F_m_Room_undo⟩ : ∃ dF_m_Room_undo, FnQ K "undo" "Room.undo" (mth (topS 48) 10) (He.ma K (He.ga K "Room") "undo") dF_m_Room_undo := Z.fn 48 rfl
  obtain ⟨dF_m_Room_region, F_m_Room_region⟩ : ∃ dF_m_Room_region, FnQ K "region" "Room.region" (mth (topS 48) 11) (He.ma K (He.ga K "Room") "region") dF_m_Room_region := Z.fn 49 rfl
  obtain ⟨dF_m_Room_names, F_m_Room_names⟩ : ∃ dF_m_Room_names, FnQ K "names" "Room.names" (mth (topS 48) 12) (He.ma K (He.ga K "Room") "names") dF_m_Room_names := Z.fn 50 rfl
  obtain ⟨dF_m_Room_log, F_m_Room_log⟩ : ∃ dF_m_Room_log, FnQ K "log" "Room.log" (mth (topS 48) 13) (He.ma K (He.ga K "Room") "log") dF_m_Room_log := Z.fn 51 rfl
  obtain ⟨dF_m_Room_trial, F_m_Room_trial⟩ : ∃ dF_m_Room_trial, FnQ K "trial" "Room.trial" (mth (topS 48) 15) (He.ma K (He.ga K "Room") "trial") dF_m_Room_trial := Z.fn 52 rfl
  obtain ⟨dF_m_Room_tried, F_m_Room_tried⟩ : ∃ dF_m_Room_tried, FnQ K "tried" "Room.tried" (mth (topS 48) 16) (He.ma K (He.ga K "Room") "tried") dF_m_Room_tried := Z.fn 53 rfl
  obtain ⟨dF_m_Room_handed_to, F_m_Room_handed_to⟩ : ∃ dF_m_Room_handed_to, FnQ K "handed_to" "Room.handed_to" (mth (topS 48) 17) (He.ma K (He.ga K "Room") "handed_to") dF_m_Room_handed_to := Z.fn 54 rfl
  obtain ⟨dF_m_Room_copy, F_m_Room_copy⟩ : ∃ dF_m_Room_copy, FnQ K "copy" "Room.copy" (mth (topS 48) 18) (He.ma K (He.ga K "Room") "copy") dF_m_Room_copy := Z.fn 55 rfl
  obtain ⟨dF_m_Room_len, F_m_Room_len⟩ : ∃ dF_m_Room_len, FnQ K "__len__" "Room.__len__" (mth (topS 48) 19) (He.ma K (He.ga K "Room") "__len__") dF_m_Room_len := Z.fn 56 rfl
  obtain ⟨dF_m_Room_eq, F_m_Room_eq⟩ : ∃ dF_m_Room_eq, FnQ K "__eq__" "Room.__eq__" (mth (topS 48) 20) (He.ma K (He.ga K "Room") "__eq__") dF_m_Room_eq := Z.fn 57 rfl
  obtain ⟨dF_m_FixedRoom_check_inside, F_m_FixedRoom_check_inside⟩ : ∃ dF_m_FixedRoom_check_inside, FnQ K "check_inside" "FixedRoom.check_inside" (mth (topS 49) 2) (He.ma K (He.ga K "FixedRoom") "check_inside") dF_m_FixedRoom_check_inside := Z.fn 58 rfl
  obtain ⟨dF_m_FixedRoom_copy, F_m_FixedRoom_copy⟩ : ∃ dF_m_FixedRoom_copy, FnQ K "copy" "FixedRoom.copy" (mth (topS 49) 5) (He.ma K (He.ga K "FixedRoom") "copy") dF_m_FixedRoom_copy := Z.fn 59 rfl
  obtain ⟨dF_m_NoName_init, F_m_NoName_init⟩ : ∃ dF_m_NoName_init, FnQ K "__init__" "NoName.__init__" (mth (topS 11) 0) (He.ma K (He.ga K "NoName") "__init__") dF_m_NoName_init := Z.fn 60 rfl
  obtain ⟨dF_m_Outside_init, F_m_Outside_init⟩ : ∃ dF_m_Outside_init, FnQ K "__init__" "Outside.__init__" (mth (topS 7) 0) (He.ma K (He.ga K "Outside") "__init__") dF_m_Outside_init := Z.fn 61 rfl
  obtain ⟨dF_m_Blocked_init, F_m_Blocked_init⟩ : ∃ dF_m_Blocked_init, FnQ K "__init__" "Blocked.__init__" (mth (topS 9) 0) (He.ma K (He.ga K "Blocked") "__init__") dF_m_Blocked_init := Z.fn 62 rfl
  obtain ⟨dF_m_NothingLeft_init, F_m_NothingLeft_init⟩ : ∃ dF_m_NothingLeft_init, FnQ K "__init__" "NothingLeft.__init__" (mth (topS 12) 0) (He.ma K (He.ga K "NothingLeft") "__init__") dF_m_NothingLeft_init := Z.fn 63 rfl
  obtain ⟨dF_w_Region_of, F_w_Region_of⟩ : ∃ dF_w_Region_of, FnQ K "of" "Region.of" (mth (topS 41) 1) (He5.wf K (He.ga K "Region") "classmethod" "of") dF_w_Region_of := Z.fn 64 rfl
  obtain ⟨dF_w_Region_empty, F_w_Region_empty⟩ : ∃ dF_w_Region_empty, FnQ K "empty" "Region.empty" (mth (topS 41) 2) (He5.wf K (He.ga K "Region") "staticmethod" "empty") dF_w_Region_empty := Z.fn 65 rfl
  obtain ⟨dF_w_Room_whole, F_w_Room_whole⟩ : ∃ dF_w_Room_whole, FnQ K "whole" "Room.whole" (mth (topS 48) 14) (He5.wf K (He.ga K "Room") "property" "whole") dF_w_Room_whole := Z.fn 66 rfl
  obtain ⟨dF_w_FixedRoom_frame, F_w_FixedRoom_frame⟩ : ∃ dF_w_FixedRoom_frame, FnQ K "frame" "FixedRoom.frame" (mth (topS 49) 1) (He5.wf K (He.ga K "FixedRoom") "property" "frame") dF_w_FixedRoom_frame := Z.fn 67 rfl
  have efa : fa = He.ga K "law" := by
    have e := hl.symm.trans (He.glo_ok Z.kin G (Z.fa 30 (f := .glo "law") rfl))
    cases e
    rfl
  subst efa
  have hb := FunD.bindsA (ps := ["_law_script"]) F_g_law fun _ _ _ _ _ _ us hl => match us, hl with | [_], _ => rfl
  have ndT : (tfL.map fun p => (He.cT K p).2).Nodup := of_decide_eq_true (Z.ex 62 rfl)
  have B : Bt mg := ⟨(He.free_ok Z.kin G (Z.fa 40 (f := .free "sorted") rfl)), (He.free_ok Z.kin G (Z.fa 41 (f := .free "max") rfl)), (He.free_ok Z.kin G (Z.fa 42 (f := .free "min") rfl)), (He.free_ok Z.kin G (Z.fa 43 (f := .free "tuple") rfl)), (He.free_ok Z.kin G (Z.fa 44 (f := .free "list") rfl)), (He.free_ok Z.kin G (Z.fa 45 (f := .free "dict") rfl)), (He.free_ok Z.kin G (Z.fa 46 (f := .free "any") rfl)), (He.free_ok Z.kin G (Z.fa 47 (f := .free "all") rfl)), (He.free_ok Z.kin G (Z.fa 48 (f := .free "zip") rfl)), (He.free_ok Z.kin G (Z.fa 49 (f := .free "len") rfl)), (He.free_ok Z.kin G (Z.fa 50 (f := .free "isinstance") rfl)), (He.free_ok Z.kin G (Z.fa 51 (f := .free "int") rfl)), (He.free_ok Z.kin G (Z.fa 52 (f := .free "bool") rfl)), (He.free_ok Z.kin G (Z.fa 53 (f := .free "str") rfl)), (He.free_ok Z.kin G (Z.fa 54 (f := .free "range") rfl)), (He.free_ok Z.kin G (Z.fa 55 (f := .free "enumerate") rfl)), (He.free_ok Z.kin G (Z.fa 56 (f := .free "super") rfl))⟩
  have WD : WdC mg := ⟨He.int_ok Z.kin G (Z.fa 60 (f := .int "MOST_LETTERS" 8) rfl), He.str_ok Z.kin G (Z.fa 61 (f := .str "LETTERS" "abcdefghijklmnopqrstuvwxyz") rfl)⟩
  have IRegion : ClsI K (He.ga K "Region") := clsI_of (He.cls_ok (Z.fa 62 (f := .cls "Region") rfl)) (Z.ex 0 rfl)
  have ITrial : ClsI K (He.ga K "Trial") := clsI_of (He.cls_ok (Z.fa 64 (f := .cls "Trial") rfl)) (Z.ex 1 rfl)
  have IRoom : ClsI K (He.ga K "Room") := clsI_of (He.cls_ok (Z.fa 66 (f := .cls "Room") rfl)) (Z.ex 2 rfl)
  have IFixedRoom : ClsI K (He.ga K "FixedRoom") := clsI_of (He.cls_ok (Z.fa 68 (f := .cls "FixedRoom") rfl)) (Z.ex 3 rfl)
  have RG : RegC K mg (He.ga K "Region") := ⟨(He.glo_ok Z.kin G (Z.fa 31 (f := .glo "Region") rfl)), IRegion, (He.noat_ok (Z.fa 70 (f := .noat "Region" "form") rfl)), (He.noat_ok (Z.fa 71 (f := .noat "Region" "is_outside") rfl)), of_decide_eq_true (Z.ex 4 rfl)⟩
  have TC : TrC K (He.ga K "Trial") := ⟨ITrial, (He.noat_ok (Z.fa 72 (f := .noat "Trial" "room") rfl)), (He.noat_ok (Z.fa 73 (f := .noat "Trial" "kept_before") rfl)), (He.noat_ok (Z.fa 74 (f := .noat "Trial" "calls_before") rfl))⟩
  have RM : RmC K (He.ga K "Room") := ⟨IRoom, (He.noat_ok (Z.fa 75 (f := .noat "Room" "kept") rfl)), (He.noat_ok (Z.fa 76 (f := .noat "Room" "calls") rfl))⟩
  have RF : RmC K (He.ga K "FixedRoom") := ⟨IFixedRoom, (He.noat_ok (Z.fa 77 (f := .noat "FixedRoom" "kept") rfl)), (He.noat_ok (Z.fa 78 (f := .noat "FixedRoom" "calls") rfl))⟩
  have noF : NoAttr K (He.ga K "FixedRoom") "own_frame" := (He.noat_ok (Z.fa 79 (f := .noat "FixedRoom" "own_frame") rfl))
  have neM : He.ga K "Room" ≠ He.ga K "Region" := (fun z => by have q := (Z.ex 29 rfl); rw [decide_eq_true z] at q; cases q)
  have neF : He.ga K "FixedRoom" ≠ He.ga K "Region" := (fun z => by have q := (Z.ex 34 rfl); rw [decide_eq_true z] at q; cases q)
  have neFM : He.ga K "FixedRoom" ≠ He.ga K "Room" := (fun z => by have q := (Z.ex 38 rfl); rw [decide_eq_true z] at q; cases q)
  have sfR := (Z.ex 5 rfl)
  have crR : CRead K (He.ga K "Region") (.type "type") := cread_of (Z.ex 8 rfl)
  have crB : CRead K (He.ga K "BoxError") (.type "type") := cread_of (Z.ex 9 rfl)
  have smE : SMet K (He.ga K "Region") (.type "type") "empty" (He.ma K (He.ga K "Region") "empty") (He5.wf K (He.ga K "Region") "staticmethod" "empty") := by
    have z := He.ba (Z.ex 6 rfl)
    have y := He5.wrapB_ok z.1
    exact ⟨y.1, y.2, z.2⟩
  have cmO : CMet K (He.ga K "Region") (.type "type") "of" (He.ma K (He.ga K "Region") "of") (He5.wf K (He.ga K "Region") "classmethod" "of") := by
    have z := He.ba (Z.ex 7 rfl)
    have y := He5.wrapB_ok z.1
    exact ⟨y.1, y.2, z.2⟩
  have XNoName := xNoName (oxB_of (Z.ex 19 rfl)) (He.noat_ok (Z.fa 80 (f := .noat "NoName" "value") rfl))
  have XOutside := xOutside (oxB_of (Z.ex 20 rfl)) (He.noat_ok (Z.fa 81 (f := .noat "Outside" "value") rfl))
  have XBlocked := xBlocked (oxB_of (Z.ex 21 rfl)) (He.noat_ok (Z.fa 82 (f := .noat "Blocked" "value") rfl))
  have XNothingLeft := xNothing (oxB_of (Z.ex 22 rfl)) (He.noat_ok (Z.fa 83 (f := .noat "NothingLeft" "value") rfl))
  have rq := He.ba (Z.ex 40 rfl)
  have SC : SupC PZ K mg (He.ga K "FixedRoom") (He.ga K "FixedRoom") := by
    have z := He.ba (Z.ex 61 rfl)
    have y := He.ba z.2
    exact ⟨Option.isSome_iff_exists.mp z.1, of_decide_eq_true y.1, He.eqO_ok y.2, B.super, by decide +kernel⟩
  obtain ⟨cdaS_init, ccS_init, fdS_init, S_init⟩ : ∃ cda cc fd, SupF PZ K "__init__" "FixedRoom.__init__" (mth (topS 49) 0) (He.ma K (He.ga K "FixedRoom") "__init__") cda cc (He.ga K "FixedRoom") fd := supF_of (Z.sf 0 rfl) (Z.ex 55 rfl) ⟨_, rfl, rfl⟩
  have MS_init : SupM K (He.ga K "FixedRoom") (He.ga K "FixedRoom") "__init__" (He.ma K (He.ga K "Room") "__init__") := supM_of (Z.ex 56 rfl)
  obtain ⟨cdaS_put, ccS_put, fdS_put, S_put⟩ : ∃ cda cc fd, SupF PZ K "put" "FixedRoom.put" (mth (topS 49) 3) (He.ma K (He.ga K "FixedRoom") "put") cda cc (He.ga K "FixedRoom") fd := supF_of (Z.sf 1 rfl) (Z.ex 57 rfl) ⟨_, rfl, rfl⟩
  have MS_put : SupM K (He.ga K "FixedRoom") (He.ga K "FixedRoom") "put" (He.ma K (He.ga K "Room") "put") := supM_of (Z.ex 58 rfl)
  obtain ⟨cdaS_join, ccS_join, fdS_join, S_join⟩ : ∃ cda cc fd, SupF PZ K "join" "FixedRoom.join" (mth (topS 49) 4) (He.ma K (He.ga K "FixedRoom") "join") cda cc (He.ga K "FixedRoom") fd := supF_of (Z.sf 2 rfl) (Z.ex 59 rfl) ⟨_, rfl, rfl⟩
  have MS_join : SupM K (He.ga K "FixedRoom") (He.ga K "FixedRoom") "join" (He.ma K (He.ga K "Room") "join") := supM_of (Z.ex 60 rfl)
  have mF_check_name : Meth K (He.ga K "FixedRoom") "check_name" (He.ma K (He.ga K "Room") "check_name") := by
    have z := (He.meth_ok (Z.fa 106 (f := .meth "FixedRoom" "check_name") rfl))
    rw [(of_decide_eq_true (Z.ex 41 rfl) : He.ma K (He.ga K "FixedRoom") "check_name" = He.ma K (He.ga K "Room") "check_name")] at z
    exact z
  have mF_replace : Meth K (He.ga K "FixedRoom") "replace" (He.ma K (He.ga K "Room") "replace") := by
    have z := (He.meth_ok (Z.fa 108 (f := .meth "FixedRoom" "replace") rfl))
    rw [(of_decide_eq_true (Z.ex 42 rfl) : He.ma K (He.ga K "FixedRoom") "replace" = He.ma K (He.ga K "Room") "replace")] at z
    exact z
  have mF_cut : Meth K (He.ga K "FixedRoom") "cut" (He.ma K (He.ga K "Room") "cut") := by
    have z := (He.meth_ok (Z.fa 111 (f := .meth "FixedRoom" "cut") rfl))
    rw [(of_decide_eq_true (Z.ex 43 rfl) : He.ma K (He.ga K "FixedRoom") "cut" = He.ma K (He.ga K "Room") "cut")] at z
    exact z
  have mF_drop : Meth K (He.ga K "FixedRoom") "drop" (He.ma K (He.ga K "Room") "drop") := by
    have z := (He.meth_ok (Z.fa 112 (f := .meth "FixedRoom" "drop") rfl))
    rw [(of_decide_eq_true (Z.ex 44 rfl) : He.ma K (He.ga K "FixedRoom") "drop" = He.ma K (He.ga K "Room") "drop")] at z
    exact z
  have mF_undo : Meth K (He.ga K "FixedRoom") "undo" (He.ma K (He.ga K "Room") "undo") := by
    have z := (He.meth_ok (Z.fa 113 (f := .meth "FixedRoom" "undo") rfl))
    rw [(of_decide_eq_true (Z.ex 45 rfl) : He.ma K (He.ga K "FixedRoom") "undo" = He.ma K (He.ga K "Room") "undo")] at z
    exact z
  have mF_region : Meth K (He.ga K "FixedRoom") "region" (He.ma K (He.ga K "Room") "region") := by
    have z := (He.meth_ok (Z.fa 114 (f := .meth "FixedRoom" "region") rfl))
    rw [(of_decide_eq_true (Z.ex 46 rfl) : He.ma K (He.ga K "FixedRoom") "region" = He.ma K (He.ga K "Room") "region")] at z
    exact z
  have mF_names : Meth K (He.ga K "FixedRoom") "names" (He.ma K (He.ga K "Room") "names") := by
    have z := (He.meth_ok (Z.fa 115 (f := .meth "FixedRoom" "names") rfl))
    rw [(of_decide_eq_true (Z.ex 47 rfl) : He.ma K (He.ga K "FixedRoom") "names" = He.ma K (He.ga K "Room") "names")] at z
    exact z
  have mF_log : Meth K (He.ga K "FixedRoom") "log" (He.ma K (He.ga K "Room") "log") := by
    have z := (He.meth_ok (Z.fa 116 (f := .meth "FixedRoom" "log") rfl))
    rw [(of_decide_eq_true (Z.ex 48 rfl) : He.ma K (He.ga K "FixedRoom") "log" = He.ma K (He.ga K "Room") "log")] at z
    exact z
  have mF_trial : Meth K (He.ga K "FixedRoom") "trial" (He.ma K (He.ga K "Room") "trial") := by
    have z := (He.meth_ok (Z.fa 117 (f := .meth "FixedRoom" "trial") rfl))
    rw [(of_decide_eq_true (Z.ex 49 rfl) : He.ma K (He.ga K "FixedRoom") "trial" = He.ma K (He.ga K "Room") "trial")] at z
    exact z
  have mF_tried : Meth K (He.ga K "FixedRoom") "tried" (He.ma K (He.ga K "Room") "tried") := by
    have z := (He.meth_ok (Z.fa 118 (f := .meth "FixedRoom" "tried") rfl))
    rw [(of_decide_eq_true (Z.ex 50 rfl) : He.ma K (He.ga K "FixedRoom") "tried" = He.ma K (He.ga K "Room") "tried")] at z
    exact z
  have mF_handed_to : Meth K (He.ga K "FixedRoom") "handed_to" (He.ma K (He.ga K "Room") "handed_to") := by
    have z := (He.meth_ok (Z.fa 119 (f := .meth "FixedRoom" "handed_to") rfl))
    rw [(of_decide_eq_true (Z.ex 51 rfl) : He.ma K (He.ga K "FixedRoom") "handed_to" = He.ma K (He.ga K "Room") "handed_to")] at z
    exact z
  have mF_len : Meth K (He.ga K "FixedRoom") "__len__" (He.ma K (He.ga K "Room") "__len__") := by
    have z := (He.meth_ok (Z.fa 121 (f := .meth "FixedRoom" "__len__") rfl))
    rw [(of_decide_eq_true (Z.ex 52 rfl) : He.ma K (He.ga K "FixedRoom") "__len__" = He.ma K (He.ga K "Room") "__len__")] at z
    exact z
  obtain ⟨uvM, conM⟩ := He.conB_ok (Z.ex 17 rfl)
  obtain ⟨uvF, conF⟩ := He.conB_ok (Z.ex 18 rfl)
  have pwF : PropOf K (He.ga K "FixedRoom") "whole" (He.ma K (He.ga K "FixedRoom") "whole") (He5.wf K (He.ga K "Room") "property" "whole") := by
    have z := prop_of (Z.ex 15 rfl)
    have e : He5.wf K (He.ga K "FixedRoom") "property" "whole" = He5.wf K (He.ga K "Room") "property" "whole" := by unfold He5.wf; rw [(of_decide_eq_true (Z.ex 54 rfl) : He.ma K (He.ga K "FixedRoom") "whole" = He.ma K (He.ga K "Room") "whole")]
    rw [e] at z
    exact z
  have eqF : EqC K (He.ga K "FixedRoom") (He.ma K (He.ga K "Room") "__eq__") := by
    have z := eqc_of IFixedRoom (Z.ex 35 rfl)
    rw [(of_decide_eq_true (Z.ex 53 rfl) : He.ma K (He.ga K "FixedRoom") "__eq__" = He.ma K (He.ga K "Room") "__eq__")] at z
    exact z
  have EX : ExK K mg (adZ K) := ⟨(He.glo_ok Z.kin G (Z.fa 35 (f := .glo "NoName") rfl)), (He.glo_ok Z.kin G (Z.fa 37 (f := .glo "Blocked") rfl)), (He.glo_ok Z.kin G (Z.fa 38 (f := .glo "NothingLeft") rfl)), (He.glo_ok Z.kin G (Z.fa 36 (f := .glo "Outside") rfl)), xfB_ok (Z.ex 23 rfl), (He.noat_ok (Z.fa 80 (f := .noat "NoName" "value") rfl)), xfB_ok (Z.ex 25 rfl), (He.noat_ok (Z.fa 82 (f := .noat "Blocked" "value") rfl)), xfB_ok (Z.ex 24 rfl), (He.noat_ok (Z.fa 81 (f := .noat "Outside" "value") rfl)), (He.exm_ok (Z.fa 122 (f := .exm "NoName" "NoName" true) rfl)), (He.exm_ok (Z.fa 123 (f := .exm "Blocked" "NoName" false) rfl)), (He.exm_ok (Z.fa 124 (f := .exm "NothingLeft" "NoName" false) rfl)), (He.exm_ok (Z.fa 125 (f := .exm "Outside" "NoName" false) rfl)), (He.exm_ok (Z.fa 126 (f := .exm "Blocked" "Blocked" true) rfl)), (He.exm_ok (Z.fa 127 (f := .exm "NothingLeft" "Blocked" false) rfl)), (He.exm_ok (Z.fa 128 (f := .exm "Outside" "Blocked" false) rfl)), (He.exm_ok (Z.fa 129 (f := .exm "NothingLeft" "NothingLeft" true) rfl)), (He.exm_ok (Z.fa 130 (f := .exm "Outside" "NothingLeft" false) rfl)), (He.exm_ok (Z.fa 131 (f := .exm "Outside" "Outside" true) rfl))⟩
  have KK : CmpK K (He.ga K "Region") (cfZ K) := ⟨fun fix => match fix with | false => of_decide_eq_true (Z.ex 26 rfl) | true => of_decide_eq_true (Z.ex 31 rfl), of_decide_eq_true (Z.ex 36 rfl), of_decide_eq_true (Z.ex 37 rfl), neFM, of_decide_eq_true (Z.ex 39 rfl), fun fix => match fix with | false => (Z.ex 27 rfl) | true => (Z.ex 32 rfl), fun fix => match fix with | false => (Z.ex 28 rfl) | true => (Z.ex 33 rfl)⟩
  refine ⟨_, csT K, spLaw K (TZ K), fun p hp => ?_, fun p hp => ?_, fun p hp => ?_, fun s u => hb s [u] rfl, fun H a ns _ _ hT hS => ⟨a, ns, rfl, hS, fun p hp => ?_, fun _ => rfl⟩, fun base KB GB hTB => ?_⟩
  · obtain ⟨q, hq, rfl⟩ := List.mem_map.mp hp
    exact Z.empty q hq
  · obtain ⟨q, hq, rfl⟩ := List.mem_map.mp hp
    exact Z.out q hq
  · obtain ⟨q, hq, rfl⟩ := List.mem_map.mp hp
    exact PySem.W.codeHd_of_K Z.kin (Z.hd q hq)
  · obtain ⟨q, hq, rfl⟩ := List.mem_map.mp hp
    exact TabS.nil (hT (He.cT K q) (List.mem_map.mpr ⟨q, hq, rfl⟩))
  have cMerged := ok_merged (P := PZ) (w := w) (mg := mg) (base := base) F_g_merged (He.glo_ok Z.kin G (Z.fa 0 (f := .glo "merged") rfl)) B
  have cCov := ok_cov (P := PZ) (w := w) (mg := mg) (base := base) F_g_is_covered (He.glo_ok Z.kin G (Z.fa 1 (f := .glo "is_covered") rfl)) B
  have cWant := ok_want (P := PZ) (w := w) (mg := mg) (base := base) F_g_is_wanted (He.glo_ok Z.kin G (Z.fa 2 (f := .glo "is_wanted") rfl))
  have cComb := ok_comb F_g_combined (He.glo_ok Z.kin G (Z.fa 3 (f := .glo "combined") rfl)) B cMerged cCov cWant
  have cSpAt := ok_spAt (P := PZ) (w := w) (mg := mg) (base := base) F_g_spans_at (He.glo_ok Z.kin G (Z.fa 4 (f := .glo "spans_at") rfl))
  have cTidy := ok_tidy (P := PZ) (w := w) (mg := mg) (base := base) F_g_tidy (He.glo_ok Z.kin G (Z.fa 5 (f := .glo "tidy") rfl)) B
  have cCuts := ok_cuts (P := PZ) (w := w) (mg := mg) (base := base) F_g_cuts_of (He.glo_ok Z.kin G (Z.fa 6 (f := .glo "cuts_of") rfl)) B
  have cMix := ok_mix F_g_mixed (He.glo_ok Z.kin G (Z.fa 8 (f := .glo "mixed") rfl)) B cTidy cCuts cComb cSpAt
  have cSlabs := ok_slabs F_g_slabs_of (He.glo_ok Z.kin G (Z.fa 7 (f := .glo "slabs_of") rfl)) B cTidy cMerged
  have nRegion := at_mak (ok_rinit (P := PZ) (w := w) (mg := mg) (base := base) F_m_Region_init RG) (He.mkr_ok (Z.fa 63 (f := .mkr "Region") rfl)) (He.glo_ok Z.kin G (Z.fa 31 (f := .glo "Region") rfl))
  have cUni := at_cal (ok_uni F_g_united RG cMix nRegion) (He.glo_ok Z.kin G (Z.fa 14 (f := .glo "united") rfl))
  have cTurn := at_cal (ok_turn F_g_turned_out RG nRegion) (He.glo_ok Z.kin G (Z.fa 15 (f := .glo "turned_out") rfl))
  have cChkR := at_cal (ok_chkR (P := PZ) (w := w) (mg := mg) (base := base) F_g_check_region RG B) (He.glo_ok Z.kin G (Z.fa 13 (f := .glo "check_region") rfl))
  have aWith := At.mono (ok_with F_m_Region_within RG cChkR cUni cTurn) (by omega : 5 ≤ 6)
  have aOr := ok_or F_m_Region_or cChkR cUni
  have aSub := ok_sub F_m_Region_sub cChkR cUni cTurn
  have aInv := ok_inv F_m_Region_invert cTurn
  have aReq := ok_req (P := PZ) (w := w) (mg := mg) (base := base) F_m_Region_eq RG B
  have aEmp := ok_emp F_w_Region_empty nRegion
  have cInt := at_cal (ok_int (P := PZ) (w := w) (mg := mg) (base := base) F_g_is_integer B) (He.glo_ok Z.kin G (Z.fa 9 (f := .glo "is_integer") rfl))
  have cInts := at_cal (ok_ints F_g_are_integers B cInt) (He.glo_ok Z.kin G (Z.fa 10 (f := .glo "are_integers") rfl))
  have cBox := at_cal (ok_box F_g_is_box cInts) (He.glo_ok Z.kin G (Z.fa 11 (f := .glo "is_box") rfl))
  have cChkB := at_cal (ok_chkB F_g_check_box cBox) (He.glo_ok Z.kin G (Z.fa 12 (f := .glo "check_box") rfl))
  have fOf := ok_of F_w_Region_of RG B nRegion cChkB cSlabs
  have cWord := at_cal (ok_word (P := PZ) (w := w) (mg := mg) (base := base) F_g_is_word B WD) (He.glo_ok Z.kin G (Z.fa 16 (f := .glo "is_word") rfl))
  have cChkW := at_cal (ok_chkW F_g_check_word cWord) (He.glo_ok Z.kin G (Z.fa 17 (f := .glo "check_word") rfl))
  have xNo := ok_xNo (P := PZ) (w := w) (mg := mg) (base := base) F_m_NoName_init XNoName (He.free_ok Z.kin G (Z.fa 57 (f := .free "KeyError") rfl)) (fc_of (Z.ex 11 rfl))
  have xBl := ok_xBl (P := PZ) (w := w) (mg := mg) (base := base) F_m_Blocked_init XBlocked (He.free_ok Z.kin G (Z.fa 58 (f := .free "RuntimeError") rfl)) (fc_of (Z.ex 12 rfl))
  have xOu := ok_xOu (P := PZ) (w := w) (mg := mg) (base := base) F_m_Outside_init XOutside (He.glo_ok Z.kin G (Z.fa 39 (f := .glo "BoxError") rfl)) crB (fc_of (Z.ex 10 rfl))
  have xNl := ok_xNl (P := PZ) (w := w) (mg := mg) (base := base) F_m_NothingLeft_init XNothingLeft (He.free_ok Z.kin G (Z.fa 59 (f := .free "IndexError") rfl)) (fc_of (Z.ex 13 rfl))
  have nTrial := at_mak (ok_tInit (P := PZ) (w := w) (mg := mg) (base := base) F_m_Trial_init TC) (He.mkr_ok (Z.fa 65 (f := .mkr "Trial") rfl)) (He.glo_ok Z.kin G (Z.fa 32 (f := .glo "Trial") rfl))
  have aTE := ok_tEnter (P := PZ) (w := w) (mg := mg) (base := base) F_m_Trial_enter TC
  have aTX := ok_tExit (P := PZ) (w := w) (mg := mg) (base := base) F_m_Trial_exit TC
  have hTX := okH_tExit (P := PZ) (w := w) (mg := mg) (base := base) F_m_Trial_exit TC
  have aTrial := ok_trial F_m_Room_trial nTrial
  have aRepM := ok_rep (P := PZ) (w := w) (mg := mg) (base := base) (CR := He.ga K "Region") (C := He.ga K "Room") F_m_Room_replace RM neM
  have aChkNM := ok_chkN (P := PZ) (w := w) (mg := mg) (base := base) (CR := He.ga K "Region") (C := He.ga K "Room") F_m_Room_check_name RM B XNoName (He.glo_ok Z.kin G (Z.fa 35 (f := .glo "NoName") rfl)) xNo
  have aRgnM := ok_rgn F_m_Room_region RM aChkNM (He.meth_ok (Z.fa 90 (f := .meth "Room" "check_name") rfl))
  have aInsM := AtX.mono (ok_ins0 (C := He.ga K "Room") (ad := adZ K) F_m_Room_check_inside cChkR) (by omega : 2 ≤ 9)
  have aPutM := ok_put (ad := adZ K) (fix := false) F_m_Room_put RM B conM cChkW cChkR aInsM (He.meth_ok (Z.fa 91 (f := .meth "Room" "check_inside") rfl)) aRepM (He.meth_ok (Z.fa 92 (f := .meth "Room" "replace") rfl))
  have aJoinM := ok_join (ad := adZ K) (fix := false) F_m_Room_join RM cChkW cChkR aChkNM (He.meth_ok (Z.fa 90 (f := .meth "Room" "check_name") rfl)) aOr sfR (He.meth_ok (Z.fa 85 (f := .meth "Region" "__or__") rfl)) aInsM (He.meth_ok (Z.fa 91 (f := .meth "Room" "check_inside") rfl)) aRepM (He.meth_ok (Z.fa 92 (f := .meth "Room" "replace") rfl))
  have aCutM := ok_cut (ad := adZ K) (fix := false) F_m_Room_cut RM cChkW cChkR aChkNM (He.meth_ok (Z.fa 90 (f := .meth "Room" "check_name") rfl)) aSub sfR (He.meth_ok (Z.fa 86 (f := .meth "Region" "__sub__") rfl)) aRepM (He.meth_ok (Z.fa 92 (f := .meth "Room" "replace") rfl))
  have aDropM := ok_drop (ad := adZ K) (fix := false) F_m_Room_drop RM cChkW aChkNM (He.meth_ok (Z.fa 90 (f := .meth "Room" "check_name") rfl)) aRepM (He.meth_ok (Z.fa 92 (f := .meth "Room" "replace") rfl))
  have aUndoM := ok_undo (ad := adZ K) (fix := false) (C := He.ga K "Room") F_m_Room_undo RM neM B cChkW XBlocked (He.glo_ok Z.kin G (Z.fa 37 (f := .glo "Blocked") rfl)) xBl XNothingLeft (He.glo_ok Z.kin G (Z.fa 38 (f := .glo "NothingLeft") rfl)) xNl
  have aLogM := ok_log (P := PZ) (w := w) (mg := mg) (base := base) (CR := He.ga K "Region") (C := He.ga K "Room") F_m_Room_log RM
  have aWhM := ok_whole (C := He.ga K "Room") F_w_Room_whole RM RG aOr sfR (He.meth_ok (Z.fa 85 (f := .meth "Region" "__or__") rfl)) aEmp crR smE
  have aLenM := ok_rmLen (P := PZ) (w := w) (mg := mg) (base := base) (CR := He.ga K "Region") (C := He.ga K "Room") F_m_Room_len RM B
  have aNGM := ok_namesG (P := PZ) (w := w) (mg := mg) (base := base) (CR := He.ga K "Region") (C := He.ga K "Room") F_m_Room_names RM B
  have aN1M := ok_names1 (P := PZ) (w := w) (mg := mg) (base := base) (CR := He.ga K "Region") (C := He.ga K "Room") F_m_Room_names RM B
  have aHandM := ok_hand (P := PZ) (w := w) (mg := mg) (base := base) (CR := He.ga K "Region") (C := He.ga K "Room") F_m_Room_handed_to RM B
  have aEqM := ok_rmEq (C := He.ga K "Room") F_m_Room_eq RM B (He.glo_ok Z.kin G (Z.fa 33 (f := .glo "Room") rfl)) aReq (He.eqO_ok rq.1) rq.2
  have aRepF := ok_rep (P := PZ) (w := w) (mg := mg) (base := base) (CR := He.ga K "Region") (C := He.ga K "FixedRoom") F_m_Room_replace RF neF
  have aChkNF := ok_chkN (P := PZ) (w := w) (mg := mg) (base := base) (CR := He.ga K "Region") (C := He.ga K "FixedRoom") F_m_Room_check_name RF B XNoName (He.glo_ok Z.kin G (Z.fa 35 (f := .glo "NoName") rfl)) xNo
  have aRgnF := ok_rgn F_m_Room_region RF aChkNF mF_check_name
  have aInsF := ok_fins (ad := adZ K) F_m_FixedRoom_check_inside RF noF RG cChkR aWith (He.meth_ok (Z.fa 84 (f := .meth "Region" "within") rfl)) fOf crR cmO XOutside (He.glo_ok Z.kin G (Z.fa 36 (f := .glo "Outside") rfl)) xOu
  have aPutF := ok_put (ad := adZ K) (fix := true) F_m_Room_put RF B conF cChkW cChkR aInsF (He.meth_ok (Z.fa 107 (f := .meth "FixedRoom" "check_inside") rfl)) aRepF mF_replace
  have aJoinF := ok_join (ad := adZ K) (fix := true) F_m_Room_join RF cChkW cChkR aChkNF mF_check_name aOr sfR (He.meth_ok (Z.fa 85 (f := .meth "Region" "__or__") rfl)) aInsF (He.meth_ok (Z.fa 107 (f := .meth "FixedRoom" "check_inside") rfl)) aRepF mF_replace
  have aCutF := ok_cut (ad := adZ K) (fix := true) F_m_Room_cut RF cChkW cChkR aChkNF mF_check_name aSub sfR (He.meth_ok (Z.fa 86 (f := .meth "Region" "__sub__") rfl)) aRepF mF_replace
  have aDropF := ok_drop (ad := adZ K) (fix := true) F_m_Room_drop RF cChkW aChkNF mF_check_name aRepF mF_replace
  have aUndoF := ok_undo (ad := adZ K) (fix := true) (C := He.ga K "FixedRoom") F_m_Room_undo RF neF B cChkW XBlocked (He.glo_ok Z.kin G (Z.fa 37 (f := .glo "Blocked") rfl)) xBl XNothingLeft (He.glo_ok Z.kin G (Z.fa 38 (f := .glo "NothingLeft") rfl)) xNl
  have aLogF := ok_log (P := PZ) (w := w) (mg := mg) (base := base) (CR := He.ga K "Region") (C := He.ga K "FixedRoom") F_m_Room_log RF
  have aWhF := ok_whole (C := He.ga K "FixedRoom") F_w_Room_whole RF RG aOr sfR (He.meth_ok (Z.fa 85 (f := .meth "Region" "__or__") rfl)) aEmp crR smE
  have aLenF := ok_rmLen (P := PZ) (w := w) (mg := mg) (base := base) (CR := He.ga K "Region") (C := He.ga K "FixedRoom") F_m_Room_len RF B
  have aNGF := ok_namesG (P := PZ) (w := w) (mg := mg) (base := base) (CR := He.ga K "Region") (C := He.ga K "FixedRoom") F_m_Room_names RF B
  have aN1F := ok_names1 (P := PZ) (w := w) (mg := mg) (base := base) (CR := He.ga K "Region") (C := He.ga K "FixedRoom") F_m_Room_names RF B
  have aHandF := ok_hand (P := PZ) (w := w) (mg := mg) (base := base) (CR := He.ga K "Region") (C := He.ga K "FixedRoom") F_m_Room_handed_to RF B
  have aEqF := ok_rmEq (C := He.ga K "FixedRoom") F_m_Room_eq RF B (He.glo_ok Z.kin G (Z.fa 33 (f := .glo "Room") rfl)) aReq (He.eqO_ok rq.1) rq.2
  have bNm := FunD.bindsN (ps := ["self"]) F_m_Room_names fun _ _ _ _ _ _ us hl => match us, hl with | [_], _ => rfl
  have nRoom := at_mak (ok_rmInit (P := PZ) (w := w) (mg := mg) (base := base) (CR := He.ga K "Region") (C := He.ga K "Room") F_m_Room_init RM) (He.mkr_ok (Z.fa 67 (f := .mkr "Room") rfl)) (He.glo_ok Z.kin G (Z.fa 33 (f := .glo "Room") rfl))
  have aFI := ok_finit (ad := adZ K) S_init SC MS_init RF noF cChkB (ok_rmInit (C := He.ga K "FixedRoom") F_m_Room_init RF)
  have nFixed := at_mak aFI (He.mkr_ok (Z.fa 69 (f := .mkr "FixedRoom") rfl)) (He.glo_ok Z.kin G (Z.fa 34 (f := .glo "FixedRoom") rfl))
  have aCopyM := At.mono (ok_copy (ad := adZ K) F_m_Room_copy RM neM aHandM (He.meth_ok (Z.fa 103 (f := .meth "Room" "handed_to") rfl)) nRoom) (by omega : 3 ≤ 7)
  have aCopyF := ok_fcopy (ad := adZ K) F_m_FixedRoom_copy RF noF neF aHandF mF_handed_to nFixed
  have aFr := ok_fframe (P := PZ) (w := w) (mg := mg) (base := base) F_w_FixedRoom_frame RF noF
  have aFPut := ok_fput S_put SC MS_put aPutF
  have aFJoin := ok_fjoin S_join SC MS_join aJoinF
  have MKM : RmK PZ w K mg base (adZ K) (cfZ K false) (He.ga K "Trial") (He.ga K "Room") false :=
    { R := RM, ne := neM, fPut := _, hPut := AtX.mono aPutM (by omega : 10 ≤ 11), mPut := (He.meth_ok (Z.fa 93 (f := .meth "Room" "put") rfl)), fJoin := _, hJoin := AtX.mono aJoinM (by omega : 10 ≤ 11), mJoin := (He.meth_ok (Z.fa 94 (f := .meth "Room" "join") rfl)), fCut := _, hCut := aCutM, mCut := (He.meth_ok (Z.fa 95 (f := .meth "Room" "cut") rfl)), fDrop := _, hDrop := aDropM, mDrop := (He.meth_ok (Z.fa 96 (f := .meth "Room" "drop") rfl)), fUndo := _, hUndo := aUndoM, mUndo := (He.meth_ok (Z.fa 97 (f := .meth "Room" "undo") rfl)),
      fRgn := _, hRgn := aRgnM, mRgn := (He.meth_ok (Z.fa 98 (f := .meth "Room" "region") rfl)), fNm := _, dNm := _, hNm := aNGM, hNm1 := aN1M, bNm := bNm, mNm := (He.meth_ok (Z.fa 99 (f := .meth "Room" "names") rfl)), fLog := _, hLog := aLogM, mLog := (He.meth_ok (Z.fa 100 (f := .meth "Room" "log") rfl)), fWh := _, pWh := _, hWh := aWhM, mWh := prop_of (Z.ex 14 rfl),
      fTr := _, hTr := fun k kl h1 h2 => ok_tried F_m_Room_tried RM aTrial (He.meth_ok (Z.fa 101 (f := .meth "Room" "trial") rfl)) aTE (He.meth_ok (Z.fa 88 (f := .meth "Trial" "__enter__") rfl)) aTX hTX (He.meth_ok (Z.fa 89 (f := .meth "Trial" "__exit__") rfl)) h1 h2, mTr := (He.meth_ok (Z.fa 102 (f := .meth "Room" "tried") rfl)), fCp := _, hCp := aCopyM, mCp := (He.meth_ok (Z.fa 104 (f := .meth "Room" "copy") rfl)), fLen := _, hLen := aLenM, mLen := (He.meth_ok (Z.fa 105 (f := .meth "Room" "__len__") rfl)), fEq := _, hEq := aEqM, tEq := eqc_of IRoom (Z.ex 30 rfl) }
  have MKF : RmK PZ w K mg base (adZ K) (cfZ K false) (He.ga K "Trial") (He.ga K "FixedRoom") true :=
    { R := RF, ne := neF, fPut := _, hPut := aFPut, mPut := (He.meth_ok (Z.fa 109 (f := .meth "FixedRoom" "put") rfl)), fJoin := _, hJoin := aFJoin, mJoin := (He.meth_ok (Z.fa 110 (f := .meth "FixedRoom" "join") rfl)), fCut := _, hCut := aCutF, mCut := mF_cut, fDrop := _, hDrop := aDropF, mDrop := mF_drop, fUndo := _, hUndo := aUndoF, mUndo := mF_undo,
      fRgn := _, hRgn := aRgnF, mRgn := mF_region, fNm := _, dNm := _, hNm := aNGF, hNm1 := aN1F, bNm := bNm, mNm := mF_names, fLog := _, hLog := aLogF, mLog := mF_log, fWh := _, pWh := _, hWh := aWhF, mWh := pwF,
      fTr := _, hTr := fun k kl h1 h2 => ok_tried F_m_Room_tried RF aTrial mF_trial aTE (He.meth_ok (Z.fa 88 (f := .meth "Trial" "__enter__") rfl)) aTX hTX (He.meth_ok (Z.fa 89 (f := .meth "Trial" "__exit__") rfl)) h1 h2, mTr := mF_tried, fCp := _, hCp := aCopyF, mCp := (He.meth_ok (Z.fa 120 (f := .meth "FixedRoom" "copy") rfl)), fLen := _, hLen := aLenF, mLen := mF_len, fEq := _, hEq := aEqF, tEq := eqF }
  let MK : ∀ fix, RmK PZ w K mg base (adZ K) (cfZ K false) (He.ga K "Trial") (cfZ K fix) fix := fun fix => match fix with | false => MKM | true => MKF
  have RGK : RgK PZ w K mg base (He.ga K "Region") :=
    { G := RG, sf := sfR, fO := _, hO := aOr, mO := (He.meth_ok (Z.fa 85 (f := .meth "Region" "__or__") rfl)), fI := _, hI := aInv, mI := (He.meth_ok (Z.fa 87 (f := .meth "Region" "__invert__") rfl)), mc := _, cr := crR, fE := _, pE := _, hE := aEmp, sm := smE, fOf := _, pOf := _, hOf := fOf, cm := cmO, fW := _, hW := aWith, mW := (He.meth_ok (Z.fa 84 (f := .meth "Region" "within") rfl)), fQ := _, hQ := aReq, sQ := He.eqO_ok rq.1, fnQ := rq.2 }
  have cPool := at_cal (ok_pool (P := PZ) (w := w) (mg := mg) (base := base) F_g_law_pool B) (He.glo_ok Z.kin G (Z.fa 18 (f := .glo "_law_pool") rfl))
  have cTake := at_cal (ok_take (P := PZ) (w := w) (mg := mg) (base := base) F_g_law_take) (He.glo_ok Z.kin G (Z.fa 19 (f := .glo "_law_take") rfl))
  have cReg := at_cal (ok_lregion F_g_law_region B RGK cTake) (He.glo_ok Z.kin G (Z.fa 20 (f := .glo "_law_region") rfl))
  have cRow := at_cal (ok_lrow F_g_law_row cTake cReg) (He.glo_ok Z.kin G (Z.fa 21 (f := .glo "_law_row") rfl))
  have aAct := ok_act F_g_law_act MK
  have aTold := ok_told (P := PZ) (w := w) (mg := mg) (base := base) (k := 13) (kl := 13) F_g_law_told EX (by omega)
  have LT_law_tried := ltab_of (mg := mg) F_g_law_tried (by decide) ndT hTB
  have LT_law_nested := ltab_of (mg := mg) F_g_law_nested (by decide) ndT hTB
  have LT_law_broken := ltab_of (mg := mg) F_g_law_broken (by decide) ndT hTB
  have LT_law_right := ltab_of (mg := mg) F_g_law_right (by decide) ndT hTB
  have cLT := at_cal (ok_ltried F_g_law_tried EX LT_law_tried aAct (He.glo_ok Z.kin G (Z.fa 22 (f := .glo "_law_act") rfl)) aTold (He.glo_ok Z.kin G (Z.fa 23 (f := .glo "_law_told") rfl))) (He.glo_ok Z.kin G (Z.fa 24 (f := .glo "_law_tried") rfl))
  have cSt := at_cal (ok_lstate F_g_law_state B MK) (He.glo_ok Z.kin G (Z.fa 25 (f := .glo "_law_state") rfl))
  have cActed := at_cal (ok_acted F_g_law_acted (fun fix => (MK fix).ne) cLT cSt) (He.glo_ok Z.kin G (Z.fa 26 (f := .glo "_law_acted") rfl))
  have cNest := at_cal (ok_nested F_g_law_nested LT_law_nested MK RGK cActed cSt) (He.glo_ok Z.kin G (Z.fa 27 (f := .glo "_law_nested") rfl))
  have cBrok := at_cal (ok_broken F_g_law_broken EX LT_law_broken MK cActed) (He.glo_ok Z.kin G (Z.fa 28 (f := .glo "_law_broken") rfl))
  have cRight := at_cal (ok_right F_g_law_right LT_law_right MK KK.kit RGK cActed cSt cNest cBrok) (He.glo_ok Z.kin G (Z.fa 29 (f := .glo "_law_right") rfl))
  exact ok_law F_g_law B MK KK RGK cPool cTake cRow cLT cRight nFixed nRoom aFr (prop_of (Z.ex 16 rfl))
end BXH
end
open PySem PySem.W PySem.Calls PyProof.Rows
set_option Elab.async false
set_option maxRecDepth 100000 in
set_option maxHeartbeats 0 in
theorem PySem.Challenge.cw_boxregions_k86_whole_trials_leave_no_tra_holds : PySem.Challenge.rw_boxregions_k86_whole_trials_leave_no_tra.Holds := by
  w_on; o_law
  refine HandSHeadRun.head_any (r := OpenLaw.row BXH.LZ) (q := view (OpenLaw.row BXH.LZ).prog [66]) (H := BXH.hk) (ob := BXH.ob) (M := 8000) (loose := BXH.names) (d := HandSHeadRun.topDef (OpenLaw.row BXH.LZ).prog 66) (kwd := []) BXH.ob_eq
    (by kernel_rfl) (fun s => by kernel_rfl) BXH.run (by kernel_rfl) (by kernel_rfl) (by kernel_rfl) (by rfl) (by first | assumption | decide +kernel) (by decide +kernel) ⟨rfl, rfl, rfl, rfl, rfl, by decide +kernel⟩ ?hw ?hc
  case hw => w_witness2
  case hc =>
    refine LamX.walk_ofTsE (l := BXH.LZ) (n := 63) (k := 24) (x := "_law_script") (CX := fun _ => C8.CX0) rfl (by decide) (by kernel_rfl) ⟨rfl, by decide, by decide⟩ ?F (fun _ _ _ _ _ z => z)
    intro w mg fa h Y G hmg0
    obtain ⟨K, Z⟩ := Y
    have en : (HandSHeadRun.topDef (OpenLaw.row BXH.LZ).prog 66).name = "law" := by kernel_rfl
    rw [en] at hmg0
    exact ⟨K, Z.kin, BXH.lawZ Z G hmg0⟩
