import PyProof.Rows.All
import HandS.ForMost
import HandS.Lambda
import HandS.Exc
import HandS.TryOnly
import HandS.TryMany
import HandS.ExcInit
import HandS.ExcField
import HandS.ExcSuper
import HandS.WordsExc
import HandS.Conv
import HandS.Deep
import HandS.TupAny
import HandS.Flow
import HandS.IsInst
import HandS.More
import HandS.Zip
import HandS.Wide
import KE.SortData
import KE.KDflt
import HandS.ExcValue
import HandS.CallSlots
import HandS.TupLen
import HandS.TupMul
import HandS.Style
import HandS.RevTup
import HandS.Steps
import KE.KRevSl
import HandS.Text
import HandS.Iter
import KE.GoesMore
import KE.GoesEnum
import HandS.Small
import KE.KExcSuper
import KE.KSuper
import HandS.DictComp
import HandS.Ends
import PyProof.ReprRoads
import HandS.EndTab
import HandS.HeadHook4
import HandS.EndOwn
import HandS.Strs
import PySem.Challenge.RW_groupsheets_k04_whole_permutations
set_option Elab.async false
set_option linter.all false
set_option maxRecDepth 100000
set_option maxHeartbeats 4000000
namespace M0
open List
/-! lists of numbers -/
theorem nodup_sub_perm {α : Type} [BEq α] [LawfulBEq α] : ∀ (xs ys : List α), xs.Nodup → (∀ x ∈ xs, x ∈ ys) → ∃ zs, ys ~ xs ++ zs
  | [], ys, _, _ => ⟨ys, .refl _⟩
  | x :: xs, ys, h, hs => by
    have hx : x ∈ ys := hs x mem_cons_self
    obtain ⟨zs, hz⟩ := nodup_sub_perm xs (ys.erase x) (List.nodup_cons.1 h).2 fun z hz => by
      have hne : z ≠ x := fun e => (List.nodup_cons.1 h).1 (e ▸ hz)
      exact (List.mem_erase_of_ne hne).2 (hs z (mem_cons_of_mem _ hz))
    exact ⟨zs, (List.perm_cons_erase hx).trans (hz.cons x)⟩
theorem nodup_len_le {α : Type} [BEq α] [LawfulBEq α] {xs ys : List α} (h : xs.Nodup) (hs : ∀ x ∈ xs, x ∈ ys) : xs.length ≤ ys.length := by
  obtain ⟨zs, hz⟩ := nodup_sub_perm xs ys h hs
  rw [hz.length_eq, List.length_append]; omega
theorem nodup_perm_of_len {α : Type} [BEq α] [LawfulBEq α] {xs ys : List α} (h : xs.Nodup) (hs : ∀ x ∈ xs, x ∈ ys) (hl : ys.length ≤ xs.length) : xs ~ ys := by
  obtain ⟨zs, hz⟩ := nodup_sub_perm xs ys h hs
  have : zs.length = 0 := by have := hz.length_eq; rw [List.length_append] at this; omega
  rw [List.length_eq_zero_iff.1 this, List.append_nil] at hz
  exact hz.symm
/-- a row: all numbers below n, each once -/
theorem row_iff {n : Nat} {xs : List Nat} (hb : ∀ x ∈ xs, x < n) : xs ~ range n ↔ xs.length = n ∧ xs.Nodup :=
  ⟨fun h => ⟨by rw [h.length_eq, length_range], h.symm.nodup nodup_range⟩, fun h => nodup_perm_of_len h.2 (fun x hx => mem_range.2 (hb x hx)) (by rw [length_range]; omega)⟩
theorem sort_range_iff {n : Nat} {xs : List Nat} : xs.mergeSort (fun a b => decide (a ≤ b)) = range n ↔ xs ~ range n := by
  constructor
  · intro h
    have p := (mergeSort_perm xs (fun a b => decide (a ≤ b))).symm
    rw [h] at p
    exact p
  · intro h
    refine Perm.eq_of_pairwise (le := fun a b => decide (a ≤ b) = true) ?_ ?_ ?_ ((mergeSort_perm xs _).trans h)
    · intro a b _ _ h1 h2; have h1 := of_decide_eq_true h1; have h2 := of_decide_eq_true h2; omega
    · exact pairwise_mergeSort (fun a b c h1 h2 => by have h1 := of_decide_eq_true h1; have h2 := of_decide_eq_true h2; exact decide_eq_true (by omega))
        (fun a b => by simp only [Bool.or_eq_true, decide_eq_true_eq]; omega) xs
    · exact pairwise_lt_range.imp fun h => decide_eq_true (by omega)
/-- first occurrences, by and by -/
def putNew (ks : List Nat) (x : Nat) : List Nat := if x ∈ ks then ks else ks ++ [x]
def dist (ks : List Nat) : List Nat → List Nat
  | [] => ks
  | x :: xs => dist (putNew ks x) xs
theorem dist_spec : ∀ (xs ks : List Nat), ks.Nodup → (dist ks xs).Nodup ∧ (∀ x, x ∈ dist ks xs ↔ x ∈ ks ∨ x ∈ xs) ∧ (dist ks xs).length ≤ ks.length + xs.length ∧ ((dist ks xs).length = ks.length + xs.length ↔ (ks ++ xs).Nodup)
  | [], ks, h => ⟨h, fun x => by simp [dist], by simp [dist], by simp [dist, h]⟩
  | x :: xs, ks, h => by
    unfold dist putNew
    by_cases hx : x ∈ ks
    · rw [if_pos hx]
      obtain ⟨h1, h2, h3, h4⟩ := dist_spec xs ks h
      refine ⟨h1, fun z => ?_, by simp only [List.length_cons]; omega, ?_⟩
      · rw [h2, List.mem_cons]
        constructor
        · intro z; exact z.elim .inl fun z => .inr (.inr z)
        · intro z; exact z.elim .inl fun z => z.elim (fun z => .inl (z ▸ hx)) .inr
      · constructor
        · intro e; simp only [List.length_cons] at e; omega
        · intro e
          rw [List.nodup_append] at e
          exact absurd rfl (e.2.2 x hx x List.mem_cons_self)
    · rw [if_neg hx]
      have hn : (ks ++ [x]).Nodup := by
        rw [List.nodup_append]
        refine ⟨h, by simp, ?_⟩
        intro a ha b hb e
        rw [List.mem_singleton] at hb
        exact hx (hb ▸ e ▸ ha)
      obtain ⟨h1, h2, h3, h4⟩ := dist_spec xs (ks ++ [x]) hn
      refine ⟨h1, fun z => ?_, by simp only [List.length_append, List.length_cons, List.length_nil] at h3 ⊢; omega, ?_⟩
      · rw [h2, List.mem_append, List.mem_singleton, List.mem_cons]
        constructor
        · intro z; exact z.elim (fun z => z.elim .inl fun z => .inr (.inl z)) fun z => .inr (.inr z)
        · intro z; exact z.elim (fun z => .inl (.inl z)) fun z => z.elim (fun z => .inl (.inr z)) .inr
      · rw [show ks ++ x :: xs = (ks ++ [x]) ++ xs by simp, ← h4]
        simp only [List.length_append, List.length_cons, List.length_nil]
        omega
theorem dist_len {xs : List Nat} : (dist [] xs).length = xs.length ↔ xs.Nodup := by
  have := (dist_spec xs [] List.nodup_nil).2.2.2
  simpa using this
theorem map_erase {α β : Type} (f : α → β) : ∀ (l : List α) (j : Nat), (l.map f).eraseIdx j = (l.eraseIdx j).map f
  | [], _ => rfl
  | _ :: _, 0 => rfl
  | x :: l, j + 1 => by simp only [List.map_cons, List.eraseIdx_cons_succ, map_erase f l j]
theorem perm_erase {α : Type} : ∀ (l : List α) (j : Nat) (h : j < l.length), (l[j] :: l.eraseIdx j).Perm l
  | [], _, h => absurd h (Nat.not_lt_zero _)
  | x :: l, 0, _ => .refl _
  | x :: l, j + 1, h => by
    have h' : j < l.length := by simpa using h
    exact (List.Perm.swap x _ _).trans ((perm_erase l j h').cons x)
/-! tables -/
abbrev Tab := List (List Nat)
def el (t : Tab) (a b : Nat) : Nat := (t.getD a []).getD b 0
theorem getD_lt {α : Type} {l : List α} {i : Nat} {d : α} (h : i < l.length) : l.getD i d = l[i] := by
  rw [List.getD_eq_getElem?_getD, List.getElem?_eq_getElem h]; rfl
structure Rows (n : Nat) (t : Tab) : Prop where
  len : t.length = n
  row : ∀ r ∈ t, r ~ range n
theorem Rows.rlen {n : Nat} {t : Tab} (h : Rows n t) {a : Nat} (ha : a < n) : (t.getD a []).length = n := by
  have hl := h.len
  rw [getD_lt (by omega), (h.row _ (List.getElem_mem (by omega))).length_eq, length_range]
theorem Rows.lt {n : Nat} {t : Tab} (h : Rows n t) {a b : Nat} (ha : a < n) (hb : b < n) : el t a b < n := by
  have hl := h.len
  have hr := h.rlen ha
  unfold el
  rw [getD_lt (by omega)]
  refine mem_range.1 (((h.row _ ?_).mem_iff).1 (List.getElem_mem (by omega)))
  rw [getD_lt (by omega)]
  exact List.getElem_mem (by omega)
structure Unit1 (n : Nat) (t : Tab) : Prop where
  l : ∀ a, a < n → el t 0 a = a
  r : ∀ a, a < n → el t a 0 = a
def Assoc (n : Nat) (t : Tab) : Prop := ∀ a b c, a < n → b < n → c < n → el t (el t a b) c = el t a (el t b c)
/-- b fits in the middle -/
def Mid (n : Nat) (t : Tab) (b : Nat) : Prop := ∀ a c, a < n → c < n → el t (el t a b) c = el t a (el t b c)
/-- what the members make, from the right -/
inductive Reach (t : Tab) (ms : List Nat) : Nat → Prop
  | zero : Reach t ms 0
  | step {a m : Nat} : Reach t ms a → m ∈ ms → Reach t ms (el t a m)
theorem mid_zero {n : Nat} {t : Tab} (hu : Unit1 n t) (hr : Rows n t) (hn : 0 < n) : Mid n t 0 := fun a c ha hc => by rw [hu.r a ha, hu.l c hc]
theorem mid_mul {n : Nat} {t : Tab} (hr : Rows n t) {a b : Nat} (ha : a < n) (hb : b < n) (h1 : Mid n t a) (h2 : Mid n t b) : Mid n t (el t a b) := fun x y hx hy => by
  rw [← h1 x b hx hb, h2 (el t x a) y (hr.lt hx ha) hy, h1 x (el t b y) hx (hr.lt hb hy), h2 a y ha hy]
theorem reach_lt {n : Nat} {t : Tab} {ms : List Nat} (hr : Rows n t) (hn : 0 < n) (hm : ∀ m ∈ ms, m < n) : ∀ {a : Nat}, Reach t ms a → a < n
  | _, .zero => hn
  | _, .step h m => hr.lt (reach_lt hr hn hm h) (hm _ m)
theorem assoc_of_mids {n : Nat} {t : Tab} {ms : List Nat} (hr : Rows n t) (hu : Unit1 n t) (hn : 0 < n) (hm : ∀ m ∈ ms, m < n) (hmid : ∀ m ∈ ms, Mid n t m) (hall : ∀ a, a < n → Reach t ms a) : Assoc n t := by
  have key : ∀ {a : Nat}, Reach t ms a → Mid n t a := by
    intro a h
    induction h with
    | zero => exact mid_zero hu hr hn
    | step h m ih => exact mid_mul hr (reach_lt hr hn hm h) (hm _ m) ih (hmid _ m)
  intro a b c ha hb hc
  exact key (hall b hb) a c ha hc
end M0
namespace M0
open List
/-! cycles of a permutation -/
abbrev st (ps : List Nat) (x : Nat) : Nat := ps.getD x 0
def it (ps : List Nat) : Nat → Nat → Nat
  | 0, x => x
  | n + 1, x => st ps (it ps n x)
theorem least {P : Nat → Prop} (h : ∃ n, P n) : ∃ n, P n ∧ ∀ m, m < n → ¬ P m := by
  obtain ⟨n, hn⟩ := h
  induction n using Nat.strongRecOn with
  | ind n ih =>
    by_cases hm : ∃ m, m < n ∧ P m
    · obtain ⟨m, h1, h2⟩ := hm; exact ih m h1 h2
    · exact ⟨n, hn, fun m h1 h2 => hm ⟨m, h1, h2⟩⟩
section
variable {k : Nat} {ps : List Nat}
theorem pm_len (h : ps ~ range k) : ps.length = k := by rw [h.length_eq, length_range]
theorem pm_nodup (h : ps ~ range k) : ps.Nodup := h.symm.nodup nodup_range
theorem st_lt (h : ps ~ range k) {x : Nat} (hx : x < k) : st ps x < k := by
  have hl := pm_len h
  unfold st
  rw [getD_lt (by omega)]
  exact mem_range.1 ((h.mem_iff).1 (getElem_mem _))
theorem st_inj (h : ps ~ range k) {x y : Nat} (hx : x < k) (hy : y < k) (e : st ps x = st ps y) : x = y := by
  have hl := pm_len h
  unfold st at e
  rw [getD_lt (by omega), getD_lt (by omega)] at e
  exact (List.getElem_inj (pm_nodup h)).1 e
theorem it_lt (h : ps ~ range k) {x : Nat} (hx : x < k) : ∀ {n : Nat}, it ps n x < k
  | 0 => hx
  | n + 1 => st_lt h (it_lt h hx)
theorem it_add {x : Nat} : ∀ {m n : Nat}, it ps (m + n) x = it ps m (it ps n x)
  | 0, n => by rw [Nat.zero_add]; rfl
  | m + 1, n => by rw [Nat.succ_add]; show st ps _ = st ps _; rw [it_add]
theorem it_cancel (h : ps ~ range k) {x : Nat} (hx : x < k) : ∀ {i d : Nat}, it ps i x = it ps (i + d) x → it ps d x = x
  | 0, d, e => by rw [Nat.zero_add] at e; exact e.symm
  | i + 1, d, e => by
    rw [Nat.succ_add] at e
    exact it_cancel h hx (st_inj h (it_lt h hx) (it_lt h hx) e)
def Per (k : Nat) (ps : List Nat) (x m : Nat) : Prop := 1 ≤ m ∧ m ≤ k ∧ it ps m x = x ∧ ∀ i, 0 < i → i < m → it ps i x ≠ x
theorem per_ex (h : ps ~ range k) {x : Nat} (hx : x < k) : ∃ m, Per k ps x m := by
  have h1 : ¬ ((range (k + 1)).map fun i => it ps i x).Nodup := fun hn => by
    have := nodup_len_le (ys := range k) hn fun y hy => by
      obtain ⟨i, _, rfl⟩ := mem_map.1 hy
      exact mem_range.2 (it_lt h hx)
    rw [length_map, length_range, length_range] at this
    omega
  have h2 : ∃ i d, 0 < d ∧ i + d ≤ k ∧ it ps i x = it ps (i + d) x := by
    apply Classical.byContradiction
    intro hne
    apply h1
    rw [List.nodup_iff_pairwise_ne, List.pairwise_map]
    refine (List.pairwise_lt_range (n := k + 1)).imp_of_mem ?_
    intro a b ha hb hab e
    have hb' := mem_range.1 hb
    exact hne ⟨a, b - a, by omega, by omega, by rw [show a + (b - a) = b by omega]; exact e⟩
  obtain ⟨i, d, hd, hi, e⟩ := h2
  obtain ⟨m, ⟨hm1, hm2, hm3⟩, hm4⟩ := least (P := fun m => 1 ≤ m ∧ m ≤ k ∧ it ps m x = x) ⟨d, hd, by omega, it_cancel h hx e⟩
  exact ⟨m, hm1, hm2, hm3, fun i h1 h2 h3 => hm4 i h2 ⟨h1, by omega, h3⟩⟩
open Classical in
noncomputable def per (k : Nat) (ps : List Nat) (x : Nat) : Nat := if h : ∃ m, Per k ps x m then choose h else 0
theorem per_spec (h : ps ~ range k) {x : Nat} (hx : x < k) : Per k ps x (per k ps x) := by
  have he := per_ex h hx
  unfold per
  rw [dif_pos he]
  exact Classical.choose_spec he
def itc (ps : List Nat) (x n : Nat) : List Nat := (range n).map fun i => it ps i x
theorem itc_succ {x n : Nat} : itc ps x (n + 1) = itc ps x n ++ [it ps n x] := by
  unfold itc; rw [range_succ, map_append]; rfl
theorem itc_len {x n : Nat} : (itc ps x n).length = n := by simp [itc]
theorem mem_itc {x n y : Nat} : y ∈ itc ps x n ↔ ∃ i, i < n ∧ it ps i x = y := by simp [itc]
theorem it_ne (h : ps ~ range k) {x m : Nat} (hx : x < k) (hp : Per k ps x m) {i j : Nat} (hij : i < j) (hj : j < m) : it ps i x ≠ it ps j x := fun e => by
  refine hp.2.2.2 (j - i) (by omega) (by omega) (it_cancel h hx (i := i) ?_)
  rw [show i + (j - i) = j by omega]; exact e
/-- the next one is new -/
theorem it_new (h : ps ~ range k) {x m n : Nat} (hx : x < k) (hp : Per k ps x m) (hn : n < m) : it ps n x ∉ itc ps x n := fun z => by
  obtain ⟨i, hi, e⟩ := mem_itc.1 z
  exact it_ne h hx hp hi hn e
theorem itc_nodup (h : ps ~ range k) {x m : Nat} (hx : x < k) (hp : Per k ps x m) : ∀ {n : Nat}, n ≤ m → (itc ps x n).Nodup
  | 0, _ => by simp [itc]
  | n + 1, hn => by
    rw [itc_succ, nodup_append]
    refine ⟨itc_nodup h hx hp (by omega), by simp, fun a ha b hb e => ?_⟩
    rw [mem_singleton] at hb
    exact it_new h hx hp (n := n) (by omega) (hb ▸ e ▸ ha)
theorem itc_lt (h : ps ~ range k) {x n : Nat} (hx : x < k) : ∀ y ∈ itc ps x n, y < k := fun y hy => by
  obtain ⟨i, _, rfl⟩ := mem_itc.1 hy; exact it_lt h hx
/-- closed by the step -/
def Clo (ps F : List Nat) : Prop := ∀ y ∈ F, st ps y ∈ F
theorem itc_clo {x m : Nat} (hp : Per k ps x m) : Clo ps (itc ps x m) := fun y hy => by
  obtain ⟨i, hi, rfl⟩ := mem_itc.1 hy
  by_cases h : i + 1 < m
  · exact mem_itc.2 ⟨i + 1, h, rfl⟩
  · have e : it ps (i + 1) x = x := by
      rw [show i + 1 = m by omega]; exact hp.2.2.1
    exact mem_itc.2 ⟨0, hp.1, e.symm⟩
theorem Clo.it {F : List Nat} (h : Clo ps F) {y : Nat} (hy : y ∈ F) : ∀ {n : Nat}, it ps n y ∈ F
  | 0 => hy
  | n + 1 => h _ (Clo.it h hy)
/-- what is not met stays off -/
theorem it_off {F : List Nat} {x m n : Nat} (hF : Clo ps F) (hx : x ∉ F) (hp : Per k ps x m) (hn : n ≤ m) : it ps n x ∉ F := fun z => hx (by
  have := hF.it z (n := m - n)
  rwa [← it_add, show m - n + n = m by omega, hp.2.2.1] at this)
noncomputable def cycs (k : Nat) (ps : List Nat) : Nat → List (List Nat)
  | 0 => []
  | n + 1 => if n ∈ (cycs k ps n).flatten then cycs k ps n else cycs k ps n ++ [itc ps n (per k ps n)]
theorem cycs_succ {k : Nat} {ps : List Nat} {n : Nat} : cycs k ps (n + 1) = if n ∈ (cycs k ps n).flatten then cycs k ps n else cycs k ps n ++ [itc ps n (per k ps n)] := by with_unfolding_all exact rfl
structure CycOk (k : Nat) (ps : List Nat) (L : List (List Nat)) : Prop where
  clo : Clo ps L.flatten
  nd : L.flatten.Nodup
  lt : ∀ y ∈ L.flatten, y < k
  ne : ∀ c ∈ L, c ≠ []
theorem cycs_ok (h : ps ~ range k) : ∀ {n : Nat}, n ≤ k → CycOk k ps (cycs k ps n)
  | 0, _ => { clo := fun y hy => (nomatch hy), nd := List.nodup_nil, lt := fun y hy => (nomatch hy), ne := fun c hc => (nomatch hc) }
  | n + 1, hn => by
    have ih := cycs_ok h (n := n) (by omega)
    rw [cycs_succ]
    by_cases hm : n ∈ (cycs k ps n).flatten
    · rw [if_pos hm]; exact ih
    · rw [if_neg hm]
      have hp := per_spec h (x := n) (by omega)
      have ef : (cycs k ps n ++ [itc ps n (per k ps n)]).flatten = (cycs k ps n).flatten ++ itc ps n (per k ps n) := by simp
      refine ⟨?_, ?_, ?_, ?_⟩
      · rw [ef]
        intro y hy
        rcases mem_append.1 hy with hy | hy
        · exact mem_append_left _ (ih.clo y hy)
        · exact mem_append_right _ (itc_clo hp y hy)
      · rw [ef, nodup_append]
        refine ⟨ih.nd, itc_nodup h (by omega) hp (Nat.le_refl _), fun a ha b hb e => ?_⟩
        subst e
        obtain ⟨i, hi, rfl⟩ := mem_itc.1 hb
        exact it_off ih.clo hm hp (by omega) ha
      · rw [ef]
        intro y hy
        rcases mem_append.1 hy with hy | hy
        · exact ih.lt y hy
        · exact itc_lt h (by omega) y hy
      · intro c hc
        rcases mem_append.1 hc with hc | hc
        · exact ih.ne c hc
        · rw [mem_singleton.1 hc]
          intro e
          have hl := itc_len (ps := ps) (x := n) (n := per k ps n)
          rw [e, length_nil] at hl
          have := hp.1
          omega
theorem CycOk.len {L : List (List Nat)} (h : CycOk k ps L) : L.flatten.length ≤ k := by
  have := nodup_len_le (ys := range k) h.nd fun y hy => mem_range.2 (h.lt y hy)
  rwa [length_range] at this
theorem len_flat : ∀ {L : List (List Nat)}, (∀ c ∈ L, c ≠ []) → L.length ≤ L.flatten.length
  | [], _ => Nat.le_refl _
  | c :: L, h => by
    have h1 := len_flat (L := L) fun c hc => h c (mem_cons_of_mem _ hc)
    have h2 : 0 < c.length := length_pos_iff.2 (h c mem_cons_self)
    simp only [length_cons, flatten_cons, length_append]
    omega
end
end M0
namespace VL
open PySem PySem.Spec PyProof.Rows L2

/-! values as trees -/
abbrev DK := Sum Key (List Key)
inductive D where
  | non | bl (b : Bool) | int (i : Int) | str (x : Str)
  | tup (xs : List D) | lst (xs : List D) | dct (ks : List DK) (vs : List D) | ins (c : Str) (fs : List Str) (vs : List D)
  | ty (n : String) | cls (c : Str) | clo (n : Nat) (C : List (Str × Addr))
deriving Inhabited

/-- a lambda of the program: its text, and the name of what makes it -/
structure LamS where
  params : Arguments
  body : Expr
  scope : Scope
  qual : Str
class TabList where
  T : List (Addr × Str)
  lam : Nat → LamS
structure Bas where
  K : PySem.W.Frag
  mg : Str → Option Value
  lam : Nat → LamS
abbrev mkB [tt : TabList] (K : PySem.W.Frag) (mg : Str → Option Value) : Bas := ⟨K, mg, tt.lam⟩
/-- no code object's table: what only the making of a lambda changes -/
def NT (o : HO) : Prop := ∀ ps, o ≠ .tbl ps
def isNT : HO → Bool
  | .tbl _ => false
  | _ => true
theorem nt_of {o : HO} (h : isNT o = true) : NT o := fun ps e => by subst e; cases h


/-! a lambda as a thing of the heap -/
structure LamI where
  params : Arguments
  body : Expr
  scope : Scope
  qual : Str
  clos : List (Str × Addr)
def dvO : Option Addr → Value
  | some t => .ref t
  | none => .none
/-- the function object: its default values are the tuple at t, if there are any -/
def FnO (f : Addr) (L : LamI) (c' : Addr) (t : Option Addr) : HO := .ext fun h => ∃ (doc pm ctv : Value), h.get? f = some (PySem.W.kdv_obj "<lambda>" L.qual L.params (.expr L.body) L.scope L.clos (dvO t) doc pm c' ctv)
theorem FnO.ok {P : Program} {w : World} {H : Hp} {h : Heap} {f c' : Addr} {L : LamI} {t : Option Addr} {doc pm ctv : Value} (e : h.get? f = some (PySem.W.kdv_obj "<lambda>" L.qual L.params (.expr L.body) L.scope L.clos (dvO t) doc pm c' ctv)) : ObjOk P w H h f (FnO f L c' t) :=
  ⟨⟨doc, pm, ctv, e⟩, ⟨_, e⟩, fun h1 h2 ⟨doc, pm, ctv, a⟩ st => ⟨doc, pm, ctv, st _ a⟩⟩
/-- the default values: none, or one number -/
def DefO (H : Hp) (params : Arguments) : Option Addr → Prop
  | none => params.defaults = []
  | some t => params.defaults ≠ [] ∧ ∃ i, H t = some (.tup [V.int i])
theorem defO_keep {H H' : Hp} {params : Arguments} {t : Option Addr} (k : ∀ a o, NT o → H a = some o → t = some a → H' a = some o) (h : DefO H params t) : DefO H' params t := by
  cases t with
  | none => exact h
  | some t =>
    obtain ⟨n, i, h⟩ := h
    exact ⟨n, i, k _ _ (nt_of rfl) h rfl⟩
theorem defO_ext {H H' : Hp} {params : Arguments} {t : Option Addr} (e : LamX.ExtN H H') (h : DefO H params t) : DefO H' params t := by
  cases t with
  | none => exact h
  | some t =>
    obtain ⟨n, i, h⟩ := h
    exact ⟨n, i, e _ _ h fun ps z => by cases z⟩
/-- the function object of lambda n, made with the cells C -/
def LamS.on (L : LamS) (C : List (Str × Addr)) : LamI := ⟨L.params, L.body, L.scope, L.qual ++ "<lambda>", cloFrom C L.scope.names []⟩

mutual
inductive Rep (B : Bas) (H : Hp) (av : Addr → Prop) : V → D → Prop
  | non : Rep B H av .non .non
  | bl (b : Bool) : Rep B H av (.bl b) (.bl b)
  | int (i : Int) : Rep B H av (.int i) (.int i)
  | str (x : Str) : Rep B H av (.str x) (.str x)
  | ty (n : String) : Rep B H av (.ty n) (.ty n)
  | cls {c : Str} {C : Addr} : B.mg c = some (.ref C) → Rep B H av (.ref C) (.cls c)
  | clo {f c' : Addr} {t : Option Addr} (n : Nat) (C : List (Str × Addr)) : H f = some (FnO f ((B.lam n).on C) c' t) → H c' = some (LamX.CodeO c' ((B.lam n).qual ++ "<lambda>")) → DefO H (B.lam n).params t → ¬ av f → ¬ av c' → (∀ a, t = some a → ¬ av a) → Rep B H av (.ref f) (.clo n C)
  | tup {a : Addr} {vs : List V} {ds : List D} : H a = some (.tup vs) → ¬ av a → Reps B H av vs ds → Rep B H av (.ref a) (.tup ds)
  | lst {a : Addr} {vs : List V} {ds : List D} : Rd H a (.lst vs) → ¬ av a → Reps B H av vs ds → Rep B H av (.ref a) (.lst ds)
  | dK {a : Addr} {kvs : List (Key × V)} {ks : List DK} {ds : List D} : Rd H a (.dK kvs) → ¬ av a → ks = kvs.map (fun p => Sum.inl p.1) → Reps B H av (kvs.map (·.2)) ds → Rep B H av (.ref a) (.dct ks ds)
  | dT {a : Addr} {kvs : List (List Key × V)} {ks : List DK} {ds : List D} : Rd H a (.dT kvs) → ¬ av a → ks = kvs.map (fun p => Sum.inr p.1) → Reps B H av (kvs.map (·.2)) ds → Rep B H av (.ref a) (.dct ks ds)
  | ins {a C dx : Addr} {fs : List (Str × V)} {c : Str} {ns : List Str} {ds : List D} : H a = some (.ins C dx fs) → ¬ av a → B.mg c = some (.ref C) → ns = fs.map (·.1) → Reps B H av (fs.map (·.2)) ds → Rep B H av (.ref a) (.ins c ns ds)
inductive Reps (B : Bas) (H : Hp) (av : Addr → Prop) : List V → List D → Prop
  | nil : Reps B H av [] []
  | cons {v : V} {vs : List V} {d : D} {ds : List D} : Rep B H av v d → Reps B H av vs ds → Reps B H av (v :: vs) (d :: ds)
end

def Chg (ow : Addr → Prop) (H H' : Hp) : Prop := ∀ a o, H a = some o → ¬ ow a → H' a = some o
def Grow (H H' : Hp) : Prop := ∀ a o, H a = some o → H' a = some o

section
variable {B : Bas} {H H' : Hp} {av av' : Addr → Prop}
theorem rd_keep {a : Addr} {u : HO} (k : ∀ o, NT o → H a = some o → H' a = some o) (h : Rd H a u) (hu : isNT u = true := by rfl) : Rd H' a u := by
  rcases h with h | ⟨o, h⟩
  · exact .inl (k _ (nt_of hu) h)
  · exact .inr ⟨o, k _ (fun _ z => by cases z) h⟩
theorem rd_some {a : Addr} {u : HO} (h : Rd H a u) : H a ≠ none := by
  rcases h with h | ⟨o, h⟩ <;> rw [h] <;> exact fun z => nomatch z
mutual
theorem Rep.mono (k : ∀ a o, NT o → H a = some o → ¬ av a → H' a = some o) (hav : ∀ a, av' a → av a ∨ H a = none) : ∀ (d : D) (v : V), Rep B H av v d → Rep B H' av' v d
  | .non, _, h => by cases h; exact .non
  | .bl _, _, h => by cases h; exact .bl _
  | .int _, _, h => by cases h; exact .int _
  | .str _, _, h => by cases h; exact .str _
  | .ty _, _, h => by cases h; exact .ty _
  | .cls _, _, h => by
    cases h with
    | cls h1 => exact .cls h1
  | .clo _ _, _, h => by
    cases h with
    | clo _ _ h1 h2 h3 n1 n2 n3 => exact .clo _ _ (k _ _ (nt_of rfl) h1 n1) (k _ _ (nt_of rfl) h2 n2) (defO_keep (fun a o nt e q => k a o nt e (n3 a q)) h3) (fun z => (hav _ z).elim n1 (by rw [h1]; exact fun z => nomatch z)) (fun z => (hav _ z).elim n2 (by rw [h2]; exact fun z => nomatch z)) fun a q z => (hav a z).elim (n3 a q) (by subst q; obtain ⟨_, i, h⟩ := h3; rw [h]; exact fun z => nomatch z)
  | .tup ds, _, h => by
    cases h with
    | tup h1 h2 h3 => exact .tup (k _ _ (nt_of rfl) h1 h2) (fun z => (hav _ z).elim h2 (rd_some (.inl h1))) (Reps.mono k hav ds _ h3)
  | .lst ds, _, h => by
    cases h with
    | lst h1 h2 h3 => exact .lst (rd_keep (fun o nt e => k _ o nt e h2) h1) (fun z => (hav _ z).elim h2 (rd_some h1)) (Reps.mono k hav ds _ h3)
  | .dct ks ds, _, h => by
    cases h with
    | dK h1 h2 e h3 => exact .dK (rd_keep (fun o nt e => k _ o nt e h2) h1) (fun z => (hav _ z).elim h2 (rd_some h1)) e (Reps.mono k hav ds _ h3)
    | dT h1 h2 e h3 => exact .dT (rd_keep (fun o nt e => k _ o nt e h2) h1) (fun z => (hav _ z).elim h2 (rd_some h1)) e (Reps.mono k hav ds _ h3)
  | .ins c ns ds, _, h => by
    cases h with
    | ins h1 h2 m e h3 => exact .ins (k _ _ (nt_of rfl) h1 h2) (fun z => (hav _ z).elim h2 (by rw [h1]; exact fun z => nomatch z)) m e (Reps.mono k hav ds _ h3)
theorem Reps.mono (k : ∀ a o, NT o → H a = some o → ¬ av a → H' a = some o) (hav : ∀ a, av' a → av a ∨ H a = none) : ∀ (ds : List D) (vs : List V), Reps B H av vs ds → Reps B H' av' vs ds
  | [], _, h => by cases h; exact .nil
  | d :: ds, _, h => by
    cases h with
    | cons h1 h2 => exact .cons (Rep.mono k hav d _ h1) (Reps.mono k hav ds _ h2)
end
theorem Rep.weak (hav : ∀ a, av' a → av a) {d : D} {v : V} (h : Rep B H av v d) : Rep B H av' v d := h.mono (fun _ _ _ e _ => e) (fun a z => .inl (hav a z))
theorem Reps.weak (hav : ∀ a, av' a → av a) {d : List D} {v : List V} (h : Reps B H av v d) : Reps B H av' v d := h.mono (fun _ _ _ e _ => e) (fun a z => .inl (hav a z))
theorem Rep.grow (g : Grow H H') {d : D} {v : V} (h : Rep B H av v d) : Rep B H' av v d := h.mono (fun a o _ e _ => g a o e) (fun a z => .inl z)
theorem Reps.grow (g : Grow H H') {d : List D} {v : List V} (h : Reps B H av v d) : Reps B H' av v d := h.mono (fun a o _ e _ => g a o e) (fun a z => .inl z)

theorem Reps.length : ∀ {vs : List V} {ds : List D}, Reps B H av vs ds → vs.length = ds.length
  | _, _, .nil => rfl
  | _, _, .cons _ t => by simp only [List.length_cons, Reps.length t]
theorem Reps.get : ∀ {vs : List V} {ds : List D} {i : Nat} {v : V}, Reps B H av vs ds → vs[i]? = some v → ∃ d, ds[i]? = some d ∧ Rep B H av v d
  | _, _, _, _, .nil, e => by simp at e
  | _, _, 0, _, .cons r _, e => by simp at e; subst e; exact ⟨_, rfl, r⟩
  | _, _, i + 1, v, .cons _ t, e => by
    obtain ⟨d, h1, h2⟩ := Reps.get (i := i) (v := v) t (by simpa using e)
    exact ⟨d, by simpa using h1, h2⟩
theorem Reps.getD : ∀ {vs : List V} {ds : List D} {i : Nat} {d : D}, Reps B H av vs ds → ds[i]? = some d → ∃ v, vs[i]? = some v ∧ Rep B H av v d
  | _, _, _, _, .nil, e => by simp at e
  | _, _, 0, _, .cons r _, e => by simp at e; subst e; exact ⟨_, rfl, r⟩
  | _, _, i + 1, v, .cons _ t, e => by
    obtain ⟨d, h1, h2⟩ := Reps.getD (i := i) (d := v) t (by simpa using e)
    exact ⟨d, by simpa using h1, h2⟩
theorem Reps.append : ∀ {vs ws : List V} {ds es : List D}, Reps B H av vs ds → Reps B H av ws es → Reps B H av (vs ++ ws) (ds ++ es)
  | _, _, _, _, .nil, s => s
  | _, _, _, _, .cons r t, s => .cons r (Reps.append t s)
theorem Reps.take : ∀ {vs : List V} {ds : List D} (n : Nat), Reps B H av vs ds → Reps B H av (vs.take n) (ds.take n)
  | _, _, 0, _ => .nil
  | _, _, _ + 1, .nil => .nil
  | _, _, n + 1, .cons r t => .cons r (Reps.take n t)
theorem Reps.drop : ∀ {vs : List V} {ds : List D} (n : Nat), Reps B H av vs ds → Reps B H av (vs.drop n) (ds.drop n)
  | _, _, 0, r => r
  | _, _, _ + 1, .nil => .nil
  | _, _, n + 1, .cons _ t => Reps.drop n t
theorem Reps.set {x : V} {d : D} (r : Rep B H av x d) : ∀ {xs : List V} {us : List D} (i : Nat), Reps B H av xs us → Reps B H av (xs.set i x) (us.set i d)
  | _, _, _, .nil => .nil
  | _, _, 0, .cons _ t => .cons r t
  | _, _, i + 1, .cons q t => .cons q (Reps.set r i t)
theorem Reps.dropLast {vs : List V} {ds : List D} (h : Reps B H av vs ds) : Reps B H av vs.dropLast ds.dropLast := by
  rw [List.dropLast_eq_take, List.dropLast_eq_take, h.length]; exact h.take _
theorem Reps.reverse : ∀ {vs : List V} {ds : List D}, Reps B H av vs ds → Reps B H av vs.reverse ds.reverse
  | _, _, .nil => .nil
  | _, _, .cons r t => by simp only [List.reverse_cons]; exact (Reps.reverse t).append (.cons r .nil)
theorem Reps.eraseIdx : ∀ {vs : List V} {ds : List D} (n : Nat), Reps B H av vs ds → Reps B H av (vs.eraseIdx n) (ds.eraseIdx n)
  | _, _, _, .nil => .nil
  | _, _, 0, .cons _ t => t
  | _, _, n + 1, .cons r t => .cons r (Reps.eraseIdx n t)
theorem Reps.map_int : ∀ {vs : List V} {ns : List Int}, Reps B H av vs (ns.map D.int) → vs = ns.map V.int
  | [], [], _ => rfl
  | _, [], .nil => rfl
  | _, n :: ns, .cons r t => by cases r; rw [List.map_cons, Reps.map_int t]
theorem Reps.map_bl : ∀ {vs : List V} {ns : List Bool}, Reps B H av vs (ns.map D.bl) → vs = ns.map V.bl
  | _, [], .nil => rfl
  | _, n :: ns, .cons r t => by cases r; rw [List.map_cons, Reps.map_bl t]
theorem Reps.ints : ∀ (ns : List Int), Reps B H av (ns.map V.int) (ns.map D.int)
  | [] => .nil
  | _ :: ns => .cons (.int _) (Reps.ints ns)
end

/-- the top cell may be anyone's, what it holds is frozen -/
inductive Rep1 (B : Bas) (H : Hp) (av : Addr → Prop) : V → D → Prop
  | non : Rep1 B H av .non .non
  | bl (b : Bool) : Rep1 B H av (.bl b) (.bl b)
  | int (i : Int) : Rep1 B H av (.int i) (.int i)
  | str (x : Str) : Rep1 B H av (.str x) (.str x)
  | ty (n : String) : Rep1 B H av (.ty n) (.ty n)
  | cls {c : Str} {C : Addr} : B.mg c = some (.ref C) → Rep1 B H av (.ref C) (.cls c)
  | clo {f c' : Addr} {t : Option Addr} (n : Nat) (C : List (Str × Addr)) : H f = some (FnO f ((B.lam n).on C) c' t) → H c' = some (LamX.CodeO c' ((B.lam n).qual ++ "<lambda>")) → DefO H (B.lam n).params t → ¬ av c' → (∀ a, t = some a → ¬ av a) → Rep1 B H av (.ref f) (.clo n C)
  | tup {a : Addr} {vs : List V} {ds : List D} : H a = some (.tup vs) → Reps B H av vs ds → Rep1 B H av (.ref a) (.tup ds)
  | lst {a : Addr} {vs : List V} {ds : List D} : Rd H a (.lst vs) → Reps B H av vs ds → Rep1 B H av (.ref a) (.lst ds)
  | dK {a : Addr} {kvs : List (Key × V)} {ks : List DK} {ds : List D} : Rd H a (.dK kvs) → ks = kvs.map (fun p => Sum.inl p.1) → Reps B H av (kvs.map (·.2)) ds → Rep1 B H av (.ref a) (.dct ks ds)
  | dT {a : Addr} {kvs : List (List Key × V)} {ks : List DK} {ds : List D} : Rd H a (.dT kvs) → ks = kvs.map (fun p => Sum.inr p.1) → Reps B H av (kvs.map (·.2)) ds → Rep1 B H av (.ref a) (.dct ks ds)
  | ins {a C dx : Addr} {fs : List (Str × V)} {c : Str} {ns : List Str} {ds : List D} : H a = some (.ins C dx fs) → B.mg c = some (.ref C) → ns = fs.map (·.1) → Reps B H av (fs.map (·.2)) ds → Rep1 B H av (.ref a) (.ins c ns ds)
section
variable {B : Bas} {H H' : Hp} {av av' : Addr → Prop}
theorem Rep.one {d : D} {v : V} (h : Rep B H av v d) : Rep1 B H av v d := by
  cases h with
  | non => exact .non
  | bl b => exact .bl b
  | int i => exact .int i
  | str x => exact .str x
  | ty x => exact .ty x
  | cls h1 => exact .cls h1
  | clo _ _ h1 h2 h3 n1 n2 n3 => exact .clo _ _ h1 h2 h3 n2 n3
  | tup h1 _ h3 => exact .tup h1 h3
  | lst h1 _ h3 => exact .lst h1 h3
  | dK h1 _ e h3 => exact .dK h1 e h3
  | dT h1 _ e h3 => exact .dT h1 e h3
  | ins h1 _ m e h3 => exact .ins h1 m e h3
/-- the top cell -/
def topV : V → Addr → Prop
  | .ref a, b => b = a
  | _, _ => False
theorem Rep1.rep {d : D} {v : V} (h : Rep1 B H av v d) (ht : ∀ a, topV v a → ¬ av a) : Rep B H av v d := by
  cases h with
  | non => exact .non
  | bl b => exact .bl b
  | int i => exact .int i
  | str x => exact .str x
  | ty x => exact .ty x
  | cls h1 => exact .cls h1
  | clo _ _ h1 h2 h3 n2 n3 => exact .clo _ _ h1 h2 h3 (ht _ rfl) n2 n3
  | tup h1 h3 =>
    exact .tup h1 (ht _ rfl) h3
  | lst h1 h3 =>
    exact .lst h1 (ht _ rfl) h3
  | dK h1 e h3 => exact .dK h1 (ht _ rfl) e h3
  | dT h1 e h3 => exact .dT h1 (ht _ rfl) e h3
  | ins h1 m e h3 => exact .ins h1 (ht _ rfl) m e h3
theorem Rep1.mono {d : D} {v : V} (k : ∀ a o, NT o → H a = some o → ¬ av a → H' a = some o) (hav : ∀ a, av' a → av a ∨ H a = none) (ht : ∀ a o, topV v a → H a = some o → H' a = some o) (h : Rep1 B H av v d) : Rep1 B H' av' v d := by
  cases h with
  | non => exact .non
  | bl b => exact .bl b
  | int i => exact .int i
  | str x => exact .str x
  | ty x => exact .ty x
  | cls h1 => exact .cls h1
  | clo _ _ h1 h2 h3 n2 n3 => exact .clo _ _ (ht _ _ rfl h1) (k _ _ (nt_of rfl) h2 n2) (defO_keep (fun a o nt e q => k a o nt e (n3 a q)) h3) (fun z => (hav _ z).elim n2 (by rw [h2]; exact fun z => nomatch z)) fun a q z => (hav a z).elim (n3 a q) (by subst q; obtain ⟨_, i, h⟩ := h3; rw [h]; exact fun z => nomatch z)
  | tup h1 h3 => exact .tup (ht _ _ rfl h1) (h3.mono k hav)
  | lst h1 h3 => exact .lst (rd_keep (fun o _ e => ht _ o rfl e) h1) (h3.mono k hav)
  | dK h1 e h3 => exact .dK (rd_keep (fun o _ e => ht _ o rfl e) h1) e (h3.mono k hav)
  | dT h1 e h3 => exact .dT (rd_keep (fun o _ e => ht _ o rfl e) h1) e (h3.mono k hav)
  | ins h1 m e h3 => exact .ins (ht _ _ rfl h1) m e (h3.mono k hav)
end

/-- what is known of sizes -/
def HB (H : Hp) : Prop := ∀ a xs, Rd H a (.lst xs) ∨ Rd H a (.tup xs) → xs.length ≤ sizeLine
theorem HB.of {P : Program} {w : World} {H : Hp} {h : Heap} (ok : HOk P w H h) : HB H := fun a xs e => by
  rcases e with e | e
  · obtain ⟨z, _⟩ := e.ok ok
    exact z
  · obtain ⟨z, _⟩ := e.ok ok
    exact z
theorem HB.l {K : PySem.W.Frag} {H : Hp} {a : Addr} {xs : List V} (h : HB H) (q : SqL K H a xs) : xs.length ≤ sizeLine := by
  rcases q with q | ⟨o, its, n, _, _, _, _, hz, r⟩
  · exact h a xs (.inl q)
  · have e := r.length
    simp only [Array.length_toList] at e
    omega
theorem HB.t {K : PySem.W.Frag} {H : Hp} {a : Addr} {xs : List V} (h : HB H) (q : SqT K H a xs) : xs.length ≤ sizeLine := by
  rcases q with q | ⟨o, its, n, _, _, _, hz, r⟩
  · exact h a xs (.inr q)
  · have e := r.length
    simp only [Array.length_toList] at e
    omega

/-! what a slot owns -/
def mK (x : Str) : Key := Sum.inr x
inductive Kd | l | dk | dt | l2 | m
deriving DecidableEq
def Own (B : Bas) (H : Hp) (av : Addr → Prop) : Kd → V → D → (Addr → Prop) → Prop
  | .l, v, d, fp => ∃ a vs ds, v = .ref a ∧ d = .lst ds ∧ H a = some (.lst vs) ∧ Reps B H av vs ds ∧ fp = (fun b => b = a)
  | .dk, v, d, fp => ∃ a kvs ds, v = .ref a ∧ d = .dct (kvs.map fun p => Sum.inl p.1) ds ∧ H a = some (.dK kvs) ∧ Reps B H av (kvs.map (·.2)) ds ∧ fp = (fun b => b = a)
  | .dt, v, d, fp => ∃ a kvs ds, v = .ref a ∧ d = .dct (kvs.map fun p => Sum.inr p.1) ds ∧ H a = some (.dT kvs) ∧ Reps B H av (kvs.map (·.2)) ds ∧ fp = (fun b => b = a)
  | .l2, v, d, fp => ∃ (a : Addr) (rs : List Addr) (ds : List (List D)), v = .ref a ∧ d = .lst (ds.map D.lst) ∧ H a = some (.lst (rs.map V.ref)) ∧ rs.length = ds.length ∧ (a :: rs).Nodup ∧
      (∀ (i : Nat) (r : Addr) (es : List D), rs[i]? = some r → ds[i]? = some es → ∃ ws, H r = some (.lst ws) ∧ Reps B H av ws es) ∧ fp = (fun b => b = a ∨ b ∈ rs)
  | .m, v, d, fp => ∃ (a c l : Addr) (at_ : Int) (cs ls : List V) (cd ld : List D), v = .ref a ∧ d = .dct [.inl (mK "cells"), .inl (mK "at"), .inl (mK "left")] [.lst cd, .int at_, .lst ld] ∧
      H a = some (.dK [(mK "cells", .ref c), (mK "at", .int at_), (mK "left", .ref l)]) ∧ H c = some (.lst cs) ∧ Reps B H av cs cd ∧ H l = some (.lst ls) ∧ Reps B H av ls ld ∧ c ≠ l ∧ fp = (fun b => b = a ∨ b = c ∨ b = l)

/-- a list, a dict: what may be owned -/
def ownO : HO → Prop
  | .lst _ => True
  | .dK _ => True
  | .dT _ => True
  | .ins _ _ _ => True
  | _ => False
section
variable {B : Bas} {H H' : Hp} {av av' : Addr → Prop} {κ : Kd} {v : V} {d : D} {fp : Addr → Prop}
theorem Own.cells (h : Own B H av κ v d fp) : ∀ a, fp a → ∃ o, H a = some o ∧ ownO o := by
  intro b hb
  cases κ with
  | l => obtain ⟨a, vs, ds, _, _, e, _, rfl⟩ := h; subst hb; exact ⟨_, e, trivial⟩
  | dk => obtain ⟨a, vs, ds, _, _, e, _, rfl⟩ := h; subst hb; exact ⟨_, e, trivial⟩
  | dt => obtain ⟨a, vs, ds, _, _, e, _, rfl⟩ := h; subst hb; exact ⟨_, e, trivial⟩
  | l2 =>
    obtain ⟨a, rs, ds, _, _, e, hl, _, hr, rfl⟩ := h
    rcases hb with rfl | hb
    · exact ⟨_, e, trivial⟩
    · obtain ⟨i, hi, rfl⟩ := List.getElem_of_mem hb
      obtain ⟨ws, q, _⟩ := hr i _ ds[i] (List.getElem?_eq_getElem hi) (List.getElem?_eq_getElem (by omega))
      exact ⟨_, q, trivial⟩
  | m =>
    obtain ⟨a, c, l, at_, cs, ls, cd, ld, _, _, e, ec, _, el, _, _, rfl⟩ := h
    rcases hb with rfl | rfl | rfl
    · exact ⟨_, e, trivial⟩
    · exact ⟨_, ec, trivial⟩
    · exact ⟨_, el, trivial⟩
theorem Own.top (h : Own B H av κ v d fp) : ∀ a, topV v a → fp a := by
  intro b hb
  cases κ with
  | l => obtain ⟨a, vs, ds, rfl, _, e, _, rfl⟩ := h; exact hb
  | dk => obtain ⟨a, vs, ds, rfl, _, e, _, rfl⟩ := h; exact hb
  | dt => obtain ⟨a, vs, ds, rfl, _, e, _, rfl⟩ := h; exact hb
  | l2 => obtain ⟨a, rs, ds, rfl, _, e, hl, _, hr, rfl⟩ := h; exact .inl hb
  | m => obtain ⟨a, c, l, at_, cs, ls, cd, ld, rfl, _, e, ec, _, el, _, _, rfl⟩ := h; exact .inl hb
theorem Own.mono (k : ∀ a o, NT o → H a = some o → ¬ av a → H' a = some o) (hav : ∀ a, av' a → av a ∨ H a = none) (hf : ∀ a o, fp a → H a = some o → H' a = some o) (h : Own B H av κ v d fp) : Own B H' av' κ v d fp := by
  cases κ with
  | l => obtain ⟨a, vs, ds, h1, h2, e, h3, rfl⟩ := h; exact ⟨a, vs, ds, h1, h2, hf _ _ rfl e, h3.mono k hav, rfl⟩
  | dk => obtain ⟨a, vs, ds, h1, h2, e, h3, rfl⟩ := h; exact ⟨a, vs, ds, h1, h2, hf _ _ rfl e, h3.mono k hav, rfl⟩
  | dt => obtain ⟨a, vs, ds, h1, h2, e, h3, rfl⟩ := h; exact ⟨a, vs, ds, h1, h2, hf _ _ rfl e, h3.mono k hav, rfl⟩
  | l2 =>
    obtain ⟨a, rs, ds, h1, h2, e, h3, h4, h5, rfl⟩ := h
    refine ⟨a, rs, ds, h1, h2, hf _ _ (.inl rfl) e, h3, h4, fun i r es q1 q2 => ?_, rfl⟩
    obtain ⟨ws, q, q3⟩ := h5 i r es q1 q2
    exact ⟨ws, hf _ _ (.inr (List.mem_of_getElem? q1)) q, q3.mono k hav⟩
  | m =>
    obtain ⟨a, c, l, at_, cs, ls, cd, ld, h1, h2, e, ec, r1, el, r2, h3, rfl⟩ := h
    exact ⟨a, c, l, at_, cs, ls, cd, ld, h1, h2, hf _ _ (.inl rfl) e, hf _ _ (.inr (.inl rfl)) ec, r1.mono k hav, hf _ _ (.inr (.inr rfl)) el, r2.mono k hav, h3, rfl⟩
/-- given up -/
theorem Own.rep (hav : ∀ a, av' a → av a) (hf : ∀ a, fp a → ¬ av' a) (h : Own B H av κ v d fp) : Rep B H av' v d := by
  cases κ with
  | l => obtain ⟨a, vs, ds, rfl, rfl, e, h3, rfl⟩ := h; exact .lst (.inl e) (hf _ rfl) (h3.weak hav)
  | dk => obtain ⟨a, vs, ds, rfl, rfl, e, h3, rfl⟩ := h; exact .dK (.inl e) (hf _ rfl) rfl (h3.weak hav)
  | dt => obtain ⟨a, vs, ds, rfl, rfl, e, h3, rfl⟩ := h; exact .dT (.inl e) (hf _ rfl) rfl (h3.weak hav)
  | l2 =>
    obtain ⟨a, rs, ds, rfl, rfl, e, h3, h4, h5, rfl⟩ := h
    refine .lst (.inl e) (hf _ (.inl rfl)) ?_
    have all : ∀ (rs : List Addr) (ds : List (List D)), rs.length = ds.length → (∀ (i : Nat) (r : Addr) (es : List D), rs[i]? = some r → ds[i]? = some es → ∃ ws, H r = some (.lst ws) ∧ Reps B H av ws es) → (∀ r ∈ rs, ¬ av' r) → Reps B H av' (rs.map V.ref) (ds.map D.lst) := by
      intro rs
      induction rs with
      | nil => intro ds hl _ _; cases ds with
        | nil => exact .nil
        | cons _ _ => simp at hl
      | cons r rs ih =>
        intro ds hl hh hn
        cases ds with
        | nil => simp at hl
        | cons es ds =>
          obtain ⟨ws, q1, q2⟩ := hh 0 r es rfl rfl
          exact .cons (.lst (.inl q1) (hn _ List.mem_cons_self) (q2.weak hav)) (ih ds (by simpa using hl) (fun i r es a b => hh (i + 1) r es (by simpa using a) (by simpa using b)) fun r hr => hn r (List.mem_cons_of_mem _ hr))
    exact all rs ds h3 h5 fun r hr => hf r (.inr hr)
  | m =>
    obtain ⟨a, c, l, at_, cs, ls, cd, ld, rfl, rfl, e, ec, r1, el, r2, h3, rfl⟩ := h
    exact .dK (.inl e) (hf _ (.inl rfl)) rfl (.cons (.lst (.inl ec) (hf _ (.inr (.inl rfl))) (r1.weak hav)) (.cons (.int _) (.cons (.lst (.inl el) (hf _ (.inr (.inr rfl))) (r2.weak hav)) .nil)))
def Kd.one : Kd → Bool
  | .l2 => false
  | .m => false
  | _ => true
theorem Own.rep1 (h : Own B H av κ v d fp) (hk : κ.one = true) : Rep1 B H av v d := by
  cases κ with
  | l => obtain ⟨a, vs, ds, rfl, rfl, e, h3, rfl⟩ := h; exact .lst (.inl e) h3
  | dk => obtain ⟨a, vs, ds, rfl, rfl, e, h3, rfl⟩ := h; exact .dK (.inl e) rfl h3
  | dt => obtain ⟨a, vs, ds, rfl, rfl, e, h3, rfl⟩ := h; exact .dT (.inl e) rfl h3
  | l2 => exact absurd hk (by decide)
  | m => exact absurd hk (by decide)
end

/-! the environment -/
inductive SV where
  | no | fz (d : D) | ow (κ : Kd) (d : D) | lk (κ : Kd) (d : D)
abbrev Env := List SV
def avOf (T : Addr → Prop) (fp : Nat → Addr → Prop) (a : Addr) : Prop := T a ∨ ∃ i, fp i a
def SlotR (B : Bas) (H : Hp) (av : Addr → Prop) : SV → Option V → (Addr → Prop) → Prop
  | .no, _, fp => ∀ a, ¬ fp a
  | .fz d, x, fp => (∃ v, x = some v ∧ Rep B H av v d) ∧ ∀ a, ¬ fp a
  | .ow κ d, x, fp => ∃ v, x = some v ∧ Own B H av κ v d fp
  | .lk κ d, x, fp => ∃ v, x = some v ∧ Own B H av κ v d fp
def Lk (env : Env) (i : Nat) : Prop := ∃ κ d, env[i]? = some (.lk κ d)

variable [tt : TabList]
structure R (B : Bas) (E T : Addr → Prop) (io : Option V) (fp : Nat → Addr → Prop) (env : Env) (σ : L2.St) (H : Hp) : Prop where
  len : env.length = σ.length
  slot : ∀ i sv x, env[i]? = some sv → σ[i]? = some x → SlotR B H (avOf T fp) sv x (fp i)
  out : ∀ i a, fp i a → i < env.length
  dis : ∀ i j a, fp i a → fp j a → i = j
  offT : ∀ i a, fp i a → ¬ T a
  all : ∀ a, avOf T fp a → ∃ o, H a = some o ∧ ownO o
  new : ∀ i a, fp i a → E a → i = 0 ∧ io.isSome = true
  io0 : ∀ v, io = some v → σ[0]? = some (some v)
  old : ∀ a, E a → H a ≠ none
  hb : HB H
  tabs : ∀ p ∈ tt.T, LamX.TabS H p.1 p.2

structure Ext (env : Env) (fp : Nat → Addr → Prop) (H : Hp) (env' : Env) (fp' : Nat → Addr → Prop) (H' : Hp) : Prop where
  chg : ∀ a o, NT o → H a = some o → (∀ i, fp i a → Lk env i) → H' a = some o
  sub : ∀ i a, fp' i a → H a ≠ none → ∃ j, fp j a ∧ (Lk env j → i = j ∧ Lk env' i)
  dom : ∀ a, H a ≠ none → H' a ≠ none
  typ : ∀ a o, H a = some o → ownO o → ∃ o', H' a = some o' ∧ ownO o'
  tab : ∀ p ∈ tt.T, LamX.TabS H p.1 p.2 → LamX.TabS H' p.1 p.2
theorem tab_keep {H H' : Hp} (k : ∀ a o, ¬ ownO o → H a = some o → H' a = some o) : ∀ p ∈ tt.T, LamX.TabS H p.1 p.2 → LamX.TabS H' p.1 p.2 := fun _ _ ⟨ps, h1, h2, h3⟩ => ⟨ps, k _ _ (fun z => z) h1, h2, fun pos cv hc => by
  obtain ⟨c, e1, e2⟩ := h3 pos cv hc
  exact ⟨c, e1, k _ _ (fun z => z) e2⟩⟩
theorem grow_dom {H H' : Hp} (g : Grow H H') : ∀ a, H a ≠ none → H' a ≠ none := fun a h => by
  cases q : H a with
  | none => exact absurd q h
  | some o => rw [g a o q]; exact fun z => nomatch z
section
variable {env env1 env2 : Env} {fp fp1 fp2 : Nat → Addr → Prop} {H H1 H2 : Hp}
theorem Ext.grow (g : Grow H H1) : Ext env fp H env fp H1 := ⟨fun a o _ e _ => g a o e, fun i _ h _ => ⟨i, h, fun z => ⟨rfl, z⟩⟩, grow_dom g, fun a o e h => ⟨o, g a o e, h⟩, tab_keep fun a o _ e => g a o e⟩
theorem Ext.refl : Ext env fp H env fp H := Ext.grow fun _ _ e => e
theorem Ext.trans (a : Ext env fp H env1 fp1 H1) (b : Ext env1 fp1 H1 env2 fp2 H2) : Ext env fp H env2 fp2 H2 where
  chg := fun x o nt e n => b.chg x o nt (a.chg x o nt e n) fun i z => by
    obtain ⟨j, q, l⟩ := a.sub i x z (by rw [e]; exact fun z => nomatch z)
    exact (l (n j q)).2
  sub := fun i x h hx => by
    obtain ⟨j, q, l⟩ := b.sub i x h (a.dom x hx)
    obtain ⟨k, q', l'⟩ := a.sub j x q hx
    refine ⟨k, q', fun z => ?_⟩
    obtain ⟨e1, z1⟩ := l' z
    obtain ⟨e2, z2⟩ := l z1
    exact ⟨e2.trans e1, z2⟩
  dom := fun x h => b.dom x (a.dom x h)
  typ := fun x o e h => by
    obtain ⟨o', e', h'⟩ := a.typ x o e h
    exact b.typ x o' e' h'
  tab := fun P q h => b.tab P q (a.tab P q h)
end

section
variable {B : Bas} {E T T' : Addr → Prop} {io : Option V} {fp fp' : Nat → Addr → Prop} {env env' : Env} {σ σ' : L2.St} {H H' : Hp}
theorem SlotR.mono {av av' : Addr → Prop} {sv : SV} {x : Option V} {q : Addr → Prop} (k : ∀ a o, NT o → H a = some o → ¬ av a → H' a = some o) (hav : ∀ a, av' a → av a ∨ H a = none) (hf : ∀ a o, q a → H a = some o → H' a = some o)
    (h : SlotR B H av sv x q) : SlotR B H' av' sv x q := by
  cases sv with
  | no => exact h
  | fz d => obtain ⟨⟨v, e, r⟩, n⟩ := h; exact ⟨⟨v, e, r.mono k hav⟩, n⟩
  | ow κ d => obtain ⟨v, e, r⟩ := h; exact ⟨v, e, r.mono k hav hf⟩
  | lk κ d => obtain ⟨v, e, r⟩ := h; exact ⟨v, e, r.mono k hav hf⟩
theorem own_nt {o : HO} (h : ownO o) : NT o := fun ps e => by subst e; exact h
theorem R.own_at (r : R B E T io fp env σ H) {i : Nat} {a : Addr} {o : HO} (h : fp i a) (e : H a = some o) : ownO o := by
  obtain ⟨o', e', w⟩ := r.all a (.inr ⟨i, h⟩)
  rw [e] at e'; cases e'; exact w
theorem R.avH (r : R B E T io fp env σ H) {a : Addr} (h : avOf T fp a) : H a ≠ none := by
  obtain ⟨o, e, _⟩ := r.all a h
  rw [e]; exact fun z => nomatch z
theorem R.grow (r : R B E T io fp env σ H) (g : Grow H H') (hb : HB H') : R B E T io fp env σ H' where
  len := r.len
  slot := fun i sv x h1 h2 => (r.slot i sv x h1 h2).mono (fun a o _ e _ => g a o e) (fun a z => .inl z) (fun a o _ => g a o)
  out := r.out
  dis := r.dis
  offT := r.offT
  all := fun a h => by obtain ⟨o, e, q⟩ := r.all a h; exact ⟨o, g a o e, q⟩
  new := r.new
  io0 := r.io0
  old := fun a h => grow_dom g a (r.old a h)
  hb := hb
  tabs := fun p hp => tab_keep (fun a o _ e => g a o e) _ hp (r.tabs p hp)
/-- more is protected: new cells -/
theorem R.more (r : R B E T io fp env σ H) {q : Addr → Prop} (g : Grow H H') (hq : ∀ a, q a → H a = none) (ho : ∀ a, q a → ∃ o, H' a = some o ∧ ownO o) (hb : HB H') : R B E (fun a => T a ∨ q a) io fp env σ H' := by
  have r' := r.grow g hb
  refine ⟨r'.len, fun i sv x h1 h2 => ?_, r'.out, r'.dis, fun i a h => ?_, fun a h => ?_, r'.new, r'.io0, r'.old, hb, r'.tabs⟩
  · refine (r.slot i sv x h1 h2).mono (fun a o _ e _ => g a o e) (fun a z => ?_) (fun a o _ => g a o)
    rcases z with (z | z) | z
    · exact .inl (.inl z)
    · exact .inr (hq a z)
    · exact .inl (.inr z)
  · rintro (z | z)
    · exact r.offT i a h z
    · exact r.avH (.inr ⟨i, h⟩) (hq a z)
  · rcases h with (z | z) | z
    · exact r'.all a (.inl z)
    · exact ho a z
    · exact r'.all a (.inr z)
/-- fewer cells are protected -/
theorem R.sub (r : R B E T' io fp env σ H) (hT : ∀ a, T a → T' a) : R B E T io fp env σ H := by
  have sub : ∀ a, avOf T fp a → avOf T' fp a := fun a h => h.elim (fun z => .inl (hT a z)) .inr
  exact ⟨r.len, fun i sv x h1 h2 => (r.slot i sv x h1 h2).mono (fun _ _ _ e _ => e) (fun a z => .inl (sub a z)) fun _ _ _ e => e, r.out, r.dis, fun i a h z => r.offT i a h (hT a z), fun a h => r.all a (sub a h), r.new, r.io0, r.old, r.hb, r.tabs⟩

def setF (fp : Nat → Addr → Prop) (i : Nat) (q : Addr → Prop) : Nat → Addr → Prop := fun j a => if j = i then q a else fp j a
theorem setF_same {i : Nat} {q : Addr → Prop} {a : Addr} : setF fp i q i a = q a := by unfold setF; rw [if_pos rfl]
theorem setF_eq {i : Nat} {q : Addr → Prop} : setF fp i q i = q := by funext a; exact setF_same
theorem setF_ne {i j : Nat} {q : Addr → Prop} {a : Addr} (h : j ≠ i) : setF fp i q j a = fp j a := by unfold setF; rw [if_neg h]
theorem setF_id {i : Nat} : setF fp i (fp i) = fp := by
  funext j a
  by_cases h : j = i
  · subst h; exact setF_same
  · exact setF_ne h

/-- THE STEP: slot i is set anew -/
theorem R.put' {i : Nat} {sv : SV} {x : Option V} {q : Addr → Prop} (r : R B E T' io fp env σ H) (hi : i < env.length) (hT : ∀ a, T a → T' a ∨ (H a = none ∧ ∃ o, H' a = some o ∧ ownO o))
    (hq : ∀ a, q a → T' a ∨ fp i a ∨ H a = none) (hqT : ∀ a, q a → ¬ T a) (hqo : ∀ a, q a → ∃ o, H' a = some o ∧ ownO o) (hqE : ∀ a, q a → E a → i = 0 ∧ io.isSome = true)
    (k : ∀ a o, NT o → H a = some o → ¬ fp i a → H' a = some o) (kT : ∀ p ∈ tt.T, LamX.TabS H p.1 p.2 → LamX.TabS H' p.1 p.2) (kt : ∀ a o, H a = some o → ownO o → ∃ o', H' a = some o' ∧ ownO o') (dom : ∀ a, H a ≠ none → H' a ≠ none)
    (hlen : σ'.length = σ.length) (hσ : ∀ j, j ≠ i → σ'[j]? = σ[j]?) (hx : σ'[i]? = some x) (hio : ∀ v, io = some v → σ'[0]? = some (some v))
    (hb : HB H') (hs : SlotR B H' (avOf T (setF fp i q)) sv x q) : R B E T io (setF fp i q) (env.set i sv) σ' H' := by
  have avs : ∀ a, avOf T (setF fp i q) a → avOf T' fp a ∨ H a = none := fun a h => by
    rcases h with h | ⟨j, h⟩
    · exact (hT a h).imp .inl (·.1)
    · by_cases e : j = i
      · subst e; rw [setF_same] at h
        rcases hq a h with z | z | z
        · exact .inl (.inl z)
        · exact .inl (.inr ⟨j, z⟩)
        · exact .inr z
      · rw [setF_ne e] at h; exact .inl (.inr ⟨j, h⟩)
  refine ⟨?_, fun j sv' x' h1 h2 => ?_, fun j a h => ?_, fun j l a h1 h2 => ?_, fun j a h => ?_, fun a h => ?_, fun j a h hE => ?_, hio, fun a h => dom a (r.old a h), hb, fun p hp => kT _ hp (r.tabs p hp)⟩
  · rw [List.length_set, r.len, hlen]
  · by_cases e : j = i
    · subst e
      rw [List.getElem?_set_self hi] at h1
      cases h1
      rw [hx] at h2; cases h2
      rw [setF_eq]; exact hs
    · rw [List.getElem?_set_ne (Ne.symm e)] at h1
      rw [hσ j e] at h2
      have ef : setF fp i q j = fp j := by funext a; exact setF_ne e
      rw [ef]
      exact (r.slot j sv' x' h1 h2).mono (fun a o nt e n => k a o nt e fun z => n (.inr ⟨i, z⟩)) avs fun a o z e' => k a o (own_nt (r.own_at z e')) e' fun z' => e (r.dis j i a z z')
  · rw [List.length_set]
    by_cases e : j = i
    · subst e; exact hi
    · rw [setF_ne e] at h; exact r.out j a h
  · by_cases e1 : j = i
    · by_cases e2 : l = i
      · rw [e1, e2]
      · subst e1
        rw [setF_same] at h1; rw [setF_ne e2] at h2
        exfalso
        rcases hq a h1 with z | z | z
        · exact r.offT l a h2 z
        · exact e2 (r.dis l j a h2 z)
        · exact r.avH (.inr ⟨l, h2⟩) z
    · rw [setF_ne e1] at h1
      by_cases e2 : l = i
      · subst e2
        rw [setF_same] at h2
        exfalso
        rcases hq a h2 with z | z | z
        · exact r.offT j a h1 z
        · exact e1 (r.dis j l a h1 z)
        · exact r.avH (.inr ⟨j, h1⟩) z
      · rw [setF_ne e2] at h2; exact r.dis j l a h1 h2
  · by_cases e : j = i
    · subst e; rw [setF_same] at h; exact hqT a h
    · rw [setF_ne e] at h
      exact fun z => (hT a z).elim (r.offT j a h) fun z => r.avH (.inr ⟨j, h⟩) z.1
  · rcases h with h | ⟨j, h⟩
    · rcases hT a h with z | z
      · obtain ⟨o, e, w⟩ := r.all a (.inl z); exact kt a o e w
      · exact z.2
    · by_cases e : j = i
      · subst e; rw [setF_same] at h; exact hqo a h
      · rw [setF_ne e] at h
        obtain ⟨o, e', w⟩ := r.all a (.inr ⟨j, h⟩); exact kt a o e' w
  · by_cases e : j = i
    · subst e; rw [setF_same] at h; exact hqE a h hE
    · rw [setF_ne e] at h; exact r.new j a h hE
theorem R.put {i : Nat} {sv : SV} {x : Option V} {q : Addr → Prop} (r : R B E T' io fp env σ H) (hi : i < env.length) (hT : ∀ a, T a → T' a)
    (hq : ∀ a, q a → T' a ∨ fp i a ∨ H a = none) (hqT : ∀ a, q a → ¬ T a) (hqo : ∀ a, q a → ∃ o, H' a = some o ∧ ownO o) (hqE : ∀ a, q a → E a → i = 0 ∧ io.isSome = true)
    (k : ∀ a o, NT o → H a = some o → ¬ fp i a → H' a = some o) (kT : ∀ p ∈ tt.T, LamX.TabS H p.1 p.2 → LamX.TabS H' p.1 p.2) (kt : ∀ a o, H a = some o → ownO o → ∃ o', H' a = some o' ∧ ownO o') (dom : ∀ a, H a ≠ none → H' a ≠ none)
    (hlen : σ'.length = σ.length) (hσ : ∀ j, j ≠ i → σ'[j]? = σ[j]?) (hx : σ'[i]? = some x) (hio : ∀ v, io = some v → σ'[0]? = some (some v))
    (hb : HB H') (hs : SlotR B H' (avOf T (setF fp i q)) sv x q) : R B E T io (setF fp i q) (env.set i sv) σ' H' :=
  r.put' hi (fun a z => .inl (hT a z)) hq hqT hqo hqE k kT kt dom hlen hσ hx hio hb hs
theorem lk_set {i j : Nat} {sv : SV} (h : Lk (env.set i sv) j) : (j = i ∧ ∃ κ d, sv = .lk κ d) ∨ (j ≠ i ∧ Lk env j) := by
  obtain ⟨κ, d, e⟩ := h
  by_cases hij : j = i
  · subst hij
    refine .inl ⟨rfl, κ, d, ?_⟩
    by_cases hl : j < env.length
    · rw [List.getElem?_set_self hl] at e; exact Option.some.inj e
    · rw [List.getElem?_eq_none (by rw [List.length_set]; omega)] at e; cases e
  · rw [List.getElem?_set_ne (Ne.symm hij)] at e
    exact .inr ⟨hij, κ, d, e⟩
theorem lk_keep {i j : Nat} {sv : SV} (hij : j ≠ i) (h : Lk env j) : Lk (env.set i sv) j := by
  obtain ⟨κ, d, e⟩ := h
  exact ⟨κ, d, by rw [List.getElem?_set_ne (Ne.symm hij)]; exact e⟩
/-- what such a step changes -/
theorem Ext.put {i : Nat} {sv : SV} {q : Addr → Prop} (hq : ∀ a, q a → fp i a ∧ ¬ Lk env i ∨ H a = none)
    (k : ∀ a o, NT o → H a = some o → (fp i a → Lk env i) → H' a = some o) (kT : ∀ p ∈ tt.T, LamX.TabS H p.1 p.2 → LamX.TabS H' p.1 p.2) (kt : ∀ a o, H a = some o → ownO o → ∃ o', H' a = some o' ∧ ownO o') (dom : ∀ a, H a ≠ none → H' a ≠ none) :
    Ext env fp H (env.set i sv) (setF fp i q) H' where
  chg := fun a o nt e h => k a o nt e fun z => h i z
  sub := fun j a h hx => by
    by_cases e : j = i
    · subst e; rw [setF_same] at h
      rcases hq a h with ⟨z, l⟩ | z
      · exact ⟨j, z, fun l' => absurd l' l⟩
      · exact absurd z hx
    · rw [setF_ne e] at h; exact ⟨j, h, fun z => ⟨rfl, lk_keep e z⟩⟩
  dom := dom
  typ := kt
  tab := kT
end
end VL
namespace VL
open PySem PySem.Spec PyProof.Rows L2
variable [tt : TabList]

/-! what an expression is worth -/
inductive TV | sl (i : Nat) | fz (d : D) | ow (κ : Kd) (d : D)
structure Exn where
  nm : Str
  arg : D
inductive Res (α : Type) | ok (a : α) (env : Env) | ex (e : Exn) (env : Env) | stuck
abbrev M (α : Type) := Env → Res α
def Res.bind {α β : Type} : Res α → (α → Env → Res β) → Res β
  | .ok a env, k => k a env
  | .ex e env, _ => .ex e env
  | .stuck, _ => .stuck
/-- what an operation on values gives -/
inductive ORes | val (d : D) | new (κ : Kd) (d : D) | stuck
def fin : ORes → M TV
  | .val d, env => .ok (.fz d) env
  | .new κ d, env => .ok (.ow κ d) env
  | .stuck, _ => .stuck
/-- the value at the moment of use -/
def getV (env : Env) : TV → Option D
  | .fz d => some d
  | .ow _ d => some d
  | .sl i => match env[i]? with
    | some (.fz d) => some d
    | some (.ow κ d) => if κ.one then some d else none
    | some (.lk κ d) => if κ.one then some d else none
    | _ => none

def fldOf (nm : Str) : Str := if nm = "BadNumber" ∨ nm = "NoSuch" then "value" else if nm = "TooMany" then "most" else "place"
def ExR (B : Bas) (H : Hp) (av : Addr → Prop) (e : Exn) (cls : Value) (dx : Option Addr) : Prop :=
  ∃ C d v, cls = .ref C ∧ B.mg e.nm = some (.ref C) ∧ dx = some d ∧ H d = some (.xd [(fldOf e.nm, v)]) ∧ Rep B H av v e.arg

def OKE (B : Bas) (E T : Addr → Prop) (io : Option V) (env : Env) (fp : Nat → Addr → Prop) (H : Hp) (σ : L2.St) (Q : VK) (W : WX) : Res TV → Prop
  | .ok tv env' => ∀ v fp' H', Ext env fp H env' fp' H' → (match tv with
    | .sl i => R B E T io fp' env' σ H' → σ[i]? = some (some v) → Q v H'
    | .fz d => R B E T io fp' env' σ H' → Rep B H' (avOf T fp') v d → Q v H'
    | .ow κ d => ∀ q, R B E (fun a => T a ∨ q a) io fp' env' σ H' → Own B H' (avOf (fun a => T a ∨ q a) fp') κ v d q →
        (∀ a, q a → ¬ T a ∧ ¬ E a ∧ (H a = none ∨ ∃ j, fp j a ∧ ¬ Lk env j)) → Q v H')
  | .ex e env' => ∀ cls dx fp' H', Ext env fp H env' fp' H' → R B E T io fp' env' σ H' → ExR B H' (avOf T fp') e cls dx → W cls dx σ H'
  | .stuck => False

abbrev bas (X : Cx) : Bas := mkB X.K X.mg
def cE (B : Bas) (W : WX) (f : M TV) : TE := fun σ H Q => ∃ E T io env fp, R B E T io fp env σ H ∧ OKE B E T io env fp H σ Q W (f env)
def DE (X : Cx) (W : WX) (e : Expr) (f : M TV) : Prop := PE X e (cE (bas X) W f)
theorem DE.out {X : Cx} {W : WX} {e : Expr} {f : M TV} (h : DE X W e f) : ∃ t, PE X e t ∧ ∀ E T io env fp σ H Q, R (bas X) E T io fp env σ H → OKE (bas X) E T io env fp H σ Q W (f env) → t σ H Q :=
  ⟨_, h, fun E T io env fp σ H Q r h => ⟨E, T, io, env, fp, r, h⟩⟩
theorem DE.mk {X : Cx} {W : WX} {e : Expr} {f : M TV} (h : ∃ t, PE X e t ∧ ∀ E T io env fp σ H Q, R (bas X) E T io fp env σ H → OKE (bas X) E T io env fp H σ Q W (f env) → t σ H Q) : DE X W e f := by
  obtain ⟨t, p, s⟩ := h
  exact ⟨fun pins sh σ H Q I ⟨E, T, io, env, fp, r, h⟩ => p.run pins sh σ H Q I (s E T io env fp σ H Q r h)⟩

/-- what is known of a value kept over further steps -/
def Hold (B : Bas) (T : Addr → Prop) (fp : Nat → Addr → Prop) (H : Hp) (σ : L2.St) (v : V) : TV → Prop
  | .sl i => σ[i]? = some (some v)
  | .fz d => Rep B H (avOf T fp) v d
  | .ow _ d => Rep B H (avOf T fp) v d
section
variable {B : Bas} {E T : Addr → Prop} {io : Option V} {env env' env1 : Env} {fp fp' fp1 : Nat → Addr → Prop} {σ : L2.St} {H H' H1 : Hp} {Q : VK} {W : WX} {tv : TV} {v : V} {d : D}
theorem Hold.ext (x : Ext env fp H env' fp' H') (h : Hold B T fp H σ v tv) : Hold B T fp' H' σ v tv := by
  have k : ∀ a o, NT o → H a = some o → ¬ avOf T fp a → H' a = some o := fun a o nt e n => x.chg a o nt e fun i z => absurd (.inr ⟨i, z⟩) n
  have hav : ∀ a, avOf T fp' a → avOf T fp a ∨ H a = none := fun a z => by
    rcases z with z | ⟨i, z⟩
    · exact .inl (.inl z)
    · cases q : H a with
      | none => exact .inr rfl
      | some o =>
        obtain ⟨j, z', _⟩ := x.sub i a z (by rw [q]; exact fun z => nomatch z)
        exact .inl (.inr ⟨j, z'⟩)
  cases tv with
  | sl i => exact h
  | fz d => exact Rep.mono k hav _ _ h
  | ow κ d => exact Rep.mono k hav _ _ h
/-- an owned one may be had as a frozen one -/
theorem oke_hold (h : ∀ v fp' H', Ext env fp H env' fp' H' → R B E T io fp' env' σ H' → Hold B T fp' H' σ v tv → Q v H') : OKE B E T io env fp H σ Q W (.ok tv env') := by
  intro v fp' H' x
  cases tv with
  | sl i => exact fun r e => h v fp' H' x r e
  | fz d => exact fun r e => h v fp' H' x r e
  | ow κ d =>
    intro q r o hq
    refine h v fp' H' x (r.sub fun a z => .inl z) (o.rep (fun a z => z.elim (fun z => .inl (.inl z)) .inr) fun a z z' => ?_)
    rcases z' with z' | ⟨i, z'⟩
    · exact (hq a z).1 z'
    · exact r.offT i a z' (.inr z)
/-- the value at the moment of use -/
theorem Hold.get (r : R B E T io fp env σ H) (h : Hold B T fp H σ v tv) (g : getV env tv = some d) : Rep1 B H (avOf T fp) v d := by
  cases tv with
  | fz d' => cases g; exact Rep.one h
  | ow κ d' => cases g; exact Rep.one h
  | sl i =>
    have h : σ[i]? = some (some v) := h
    simp only [getV] at g
    cases e : env[i]? with
    | none => simp only [e] at g; cases g
    | some sv =>
      simp only [e] at g
      have s := r.slot i sv _ e h
      cases sv with
      | no => cases g
      | fz d' =>
        cases g
        obtain ⟨⟨v', ev, p⟩, _⟩ := s
        cases ev; exact p.one
      | ow κ d' =>
        obtain ⟨v', ev, p⟩ := s
        cases ev
        by_cases k : κ.one = true
        · simp only [k, if_true] at g; cases g; exact p.rep1 k
        · simp only [k, if_false] at g; cases g
      | lk κ d' =>
        obtain ⟨v', ev, p⟩ := s
        cases ev
        by_cases k : κ.one = true
        · simp only [k, if_true] at g; cases g; exact p.rep1 k
        · simp only [k, if_false] at g; cases g
theorem oke_ex (h : ∀ cls dx fp' H', Ext env fp H env' fp' H' → R B E T io fp' env' σ H' → ExR B H' (avOf T fp') e cls dx → W cls dx σ H') : OKE B E T io env fp H σ Q W (.ex e env') := h
/-- what was wanted from the start, wanted from a later state -/
theorem OKE.after (x : Ext env fp H env1 fp1 H1) {r : Res TV} (h : OKE B E T io env fp H σ Q W r) : OKE B E T io env1 fp1 H1 σ Q W r := by
  cases r with
  | stuck => exact h
  | ex e env' => exact fun cls dx fp' H' y => h cls dx fp' H' (x.trans y)
  | ok tv env' =>
    intro v fp' H' y
    have h := h v fp' H' (x.trans y)
    cases tv with
    | sl i => exact h
    | fz d => exact h
    | ow κ d =>
      intro q r o hq
      refine h q r o fun a z => ?_
      obtain ⟨h1, h2, h3⟩ := hq a z
      refine ⟨h1, h2, ?_⟩
      cases e : H a with
      | none => exact .inl rfl
      | some o =>
        have hH : H a ≠ none := by rw [e]; exact fun z => nomatch z
        rcases h3 with h3 | ⟨j, h3, h4⟩
        · exact absurd h3 (x.dom a hH)
        · obtain ⟨k, z1, z2⟩ := x.sub j a h3 hH
          exact .inr ⟨k, z1, fun l => h4 (by obtain ⟨e1, e2⟩ := z2 l; exact e2)⟩
/-- bind -/
theorem oke_bind {G : Prop} {f : M TV} {k : TV → M TV} {Q' : VK} (hs : OKE B E T io env fp H σ Q' W (f env) → G)
    (h : OKE B E T io env fp H σ Q W ((f env).bind k)) (hk : ∀ tv env' v fp' H', Ext env fp H env' fp' H' → R B E T io fp' env' σ H' → Hold B T fp' H' σ v tv → OKE B E T io env' fp' H' σ Q W (k tv env') → Q' v H') : G := by
  refine hs ?_
  cases e : f env with
  | stuck => rw [e] at h; exact h
  | ex x env' => rw [e] at h; exact h
  | ok tv env' =>
    rw [e] at h
    exact oke_hold fun v fp' H' x r hh => hk tv env' v fp' H' x r hh (OKE.after x h)
end

/-! ### operations on values -/
def OpQ (B : Bas) (H : Hp) (av : Addr → Prop) (Q : VK) : ORes → Prop
  | .val d => ∀ v H', Grow H H' → Rep B H' av v d → Q v H'
  | .new κ d => ∀ v H' q, Grow H H' → (∀ a, q a → H a = none) → Own B H' (fun a => av a ∨ q a) κ v d q → Q v H'
  | .stuck => False
def AvOk (H : Hp) (av : Addr → Prop) : Prop := ∀ a, av a → ∃ o, H a = some o ∧ ownO o
section
variable {B : Bas} {E T : Addr → Prop} {io : Option V} {env : Env} {fp : Nat → Addr → Prop} {σ : L2.St} {H : Hp} {Q : VK} {W : WX}
theorem oke_fin (r : R B E T io fp env σ H) {o : ORes} (h : OKE B E T io env fp H σ Q W (fin o env)) : OpQ B H (avOf T fp) (fun v H' => HB H' → Q v H') o := by
  cases o with
  | stuck => exact h
  | val d => exact fun v H' g p hb => h v fp H' (Ext.grow g) (r.grow g hb) p
  | new κ d =>
    intro v H' q g hq p hb
    have h2 : ∀ a, q a → ¬ T a := fun a z z' => r.avH (.inl z') (hq a z)
    have e : avOf (fun a => T a ∨ q a) fp = fun a => avOf T fp a ∨ q a := by
      funext a
      refine propext ⟨fun z => ?_, fun z => ?_⟩
      · rcases z with (z | z) | z
        · exact .inl (.inl z)
        · exact .inr z
        · exact .inl (.inr z)
      · rcases z with (z | z) | z
        · exact .inl (.inl z)
        · exact .inr z
        · exact .inl (.inr z)
    exact h v fp H' (Ext.grow g) q (r.more g hq p.cells hb) (by rw [e]; exact p) fun a z => ⟨h2 a z, fun z' => r.old a z' (hq a z), .inl (hq a z)⟩
end
def Op2S (X : Cx) (r : R2) (op : D → D → ORes) : Prop := ∀ H av x y d1 d2 Q, AvOk H av → Rep1 (bas X) H av x d1 → Rep1 (bas X) H av y d2 → OpQ (bas X) H av Q (op d1 d2) → r x y H Q
def Op1S (X : Cx) (r : V → Hp → VK → Prop) (op : D → ORes) : Prop := ∀ H av x d1 Q, AvOk H av → Rep1 (bas X) H av x d1 → OpQ (bas X) H av Q (op d1) → r x H Q
inductive Rep1s (B : Bas) (H : Hp) (av : Addr → Prop) : List V → List D → Prop
  | nil : Rep1s B H av [] []
  | cons {v : V} {vs : List V} {d : D} {ds : List D} : Rep1 B H av v d → Rep1s B H av vs ds → Rep1s B H av (v :: vs) (d :: ds)
def OpNS (X : Cx) (r : List V → Hp → VK → Prop) (op : List D → ORes) : Prop := ∀ H av xs ds Q, AvOk H av → Rep1s (bas X) H av xs ds → OpQ (bas X) H av Q (op ds) → r xs H Q
def OpMS (X : Cx) (r : V → List V → Hp → VK → Prop) (op : D → List D → ORes) : Prop := ∀ H av x xs d ds Q, AvOk H av → Rep1 (bas X) H av x d → Rep1s (bas X) H av xs ds → OpQ (bas X) H av Q (op d ds) → r x xs H Q

/-! ### sizes known behind every step -/
def tHB (t : TE) : TE := fun σ H Q => t σ H fun v H' => HB H' → Q v H'
def tHBT (t : TT) : TT := fun σ H Q => t σ H fun v H' => HB H' → Q v H'
theorem peHB {X : Cx} {e : Expr} {t : TE} (h : PE X e t) : PE X e (tHB t) := ⟨fun pins s σ H Q I hw =>
  thn (h.run pins s σ H _ I hw) fun u s1 ⟨v, H1, I1, r, q⟩ => ⟨v, H1, I1, r, q (HB.of I1.hok)⟩⟩
theorem ptHB {X : Cx} {e : Expr} {t : TT} (h : PT X e t) : PT X e (tHBT t) := ⟨fun pins s σ H Q I hw =>
  thn (h.run pins s σ H _ I hw) fun u s1 ⟨H1, I1, q⟩ => ⟨H1, I1, q (HB.of I1.hok)⟩⟩

/-! ### the words -/
def cC (d : D) : M TV := fun env => .ok (.fz d) env
def cV (i : Nat) : M TV := fun env => match env[i]? with
  | some (.fz d) => .ok (.fz d) env
  | some .no => .stuck
  | some _ => .ok (.sl i) env
  | none => .stuck
/-- read and given up -/
def cF (i : Nat) : M TV := fun env => match env[i]? with
  | some (.fz d) => .ok (.fz d) env
  | some (.ow κ d) => .ok (.fz d) (env.set i (.fz d))
  | _ => .stuck
/-- read and moved away -/
def cM (i : Nat) : M TV := fun env => match env[i]? with
  | some (.fz d) => .ok (.fz d) env
  | some (.ow κ d) => if i = 0 then .stuck else .ok (.ow κ d) (env.set i .no)
  | _ => .stuck
def cBin (op : D → D → ORes) (fa fb : M TV) : M TV := fun env => (fa env).bind fun t1 env1 => (fb env1).bind fun t2 env2 =>
  match getV env2 t1, getV env2 t2 with
  | some d1, some d2 => fin (op d1 d2) env2
  | _, _ => .stuck
def cUn (op : D → ORes) (fa : M TV) : M TV := fun env => (fa env).bind fun t1 env1 => match getV env1 t1 with
  | some d1 => fin (op d1) env1
  | none => .stuck
def cIf (fc : M Bool) (fa fb : M TV) : M TV := fun env => (fc env).bind fun b env1 => if b then fa env1 else fb env1
def cAndV (fa fb : M TV) : M TV := fun env => (fa env).bind fun t1 env1 => match getV env1 t1 with
  | some (.bl true) => fb env1
  | some (.bl false) => .ok (.fz (.bl false)) env1
  | _ => .stuck
def cOrV (fa fb : M TV) : M TV := fun env => (fa env).bind fun t1 env1 => match getV env1 t1 with
  | some (.bl true) => .ok (.fz (.bl true)) env1
  | some (.bl false) => fb env1
  | _ => .stuck
def oNot : D → ORes
  | .bl b => .val (.bl (!b))
  | _ => .stuck
/-- chained: a < b < c -/
def cChain (op op' : D → D → ORes) (fa fb fc : M TV) : M TV := fun env => (fa env).bind fun t1 env1 => (fb env1).bind fun t2 env2 =>
  match getV env2 t1, getV env2 t2 with
  | some d1, some d2 => match op d1 d2 with
    | .val (.bl true) => (fc env2).bind fun t3 env3 => match getV env3 t2, getV env3 t3 with
      | some d2', some d3 => match op' d2' d3 with
        | .val (.bl k) => .ok (.fz (.bl k)) env3
        | _ => .stuck
      | _, _ => .stuck
    | .val (.bl false) => .ok (.fz (.bl false)) env2
    | _ => .stuck
  | _, _ => .stuck

section
variable {X : Cx} {W : WX} {a b c : Expr} {fa fb fc : M TV} {pos : Pos}
theorem de_const {e : Expr} {d : D} {v : V} (h : PE X e (tC v)) (hr : ∀ H av, Rep (bas X) H av v d) : DE X W e (cC d) :=
  .mk ⟨_, h, fun E T io env fp σ H Q r h => h v fp H Ext.refl r (hr _ _)⟩
theorem de_var {i : Nat} {x : Str} (h : PE X (.Name x pos) (tVar i)) : DE X W (.Name x pos) (cV i) := by
  refine DE.mk ⟨_, h, fun E T io env fp σ H Q r h => ?_⟩
  unfold cV at h
  cases e : env[i]? with
  | none => rw [e] at h; exact h.elim
  | some sv =>
    rw [e] at h
    have hl : i < σ.length := by rw [← r.len]; exact (List.getElem?_eq_some_iff.mp e).1
    have s := r.slot i sv _ e (List.getElem?_eq_getElem hl)
    have ee : σ[i]? = some σ[i] := List.getElem?_eq_getElem hl
    cases sv with
    | no => exact h.elim
    | fz d =>
      obtain ⟨⟨v, ev, p⟩, _⟩ := s
      rw [ev] at ee
      exact ⟨v, ee, h v fp H Ext.refl r p⟩
    | ow κ d =>
      obtain ⟨v, ev, p⟩ := s
      rw [ev] at ee
      exact ⟨v, ee, h v fp H Ext.refl r ee⟩
    | lk κ d =>
      obtain ⟨v, ev, p⟩ := s
      rw [ev] at ee
      exact ⟨v, ee, h v fp H Ext.refl r ee⟩
theorem unlk {env : Env} {i : Nat} {sv : SV} (e : env[i]? = some sv) (h : ∀ κ d, sv ≠ .lk κ d) : ¬ Lk env i := fun ⟨κ, d, z⟩ => by
  rw [e] at z; exact h κ d (Option.some.inj z)
theorem de_frz {i : Nat} {x : Str} (h : PE X (.Name x pos) (tVar i)) : DE X W (.Name x pos) (cF i) := by
  refine DE.mk ⟨_, h, fun E T io env fp σ H Q r h => ?_⟩
  unfold cF at h
  cases e : env[i]? with
  | none => rw [e] at h; exact h.elim
  | some sv =>
    rw [e] at h
    have hi := (List.getElem?_eq_some_iff.mp e).1
    have hl : i < σ.length := by rw [← r.len]; exact hi
    have s := r.slot i sv _ e (List.getElem?_eq_getElem hl)
    have ee : σ[i]? = some σ[i] := List.getElem?_eq_getElem hl
    cases sv with
    | no => exact h.elim
    | lk κ d => exact h.elim
    | fz d =>
      obtain ⟨⟨v, ev, p⟩, _⟩ := s
      rw [ev] at ee
      exact ⟨v, ee, h v fp H Ext.refl r p⟩
    | ow κ d =>
      obtain ⟨v, ev, p⟩ := s
      rw [ev] at ee
      have hav : ∀ a, avOf T (setF fp i fun _ => False) a → avOf T fp a := fun a z => by
        rcases z with z | ⟨j, z⟩
        · exact .inl z
        · by_cases hj : j = i
          · subst hj; rw [setF_same] at z; exact z.elim
          · rw [setF_ne hj] at z; exact .inr ⟨j, z⟩
      have p' : Rep (bas X) H (avOf T (setF fp i fun _ => False)) v d := p.rep hav fun a z z' => by
        rcases z' with z' | ⟨j, z'⟩
        · exact r.offT i a z z'
        · by_cases hj : j = i
          · subst hj; rw [setF_same] at z'; exact z'
          · rw [setF_ne hj] at z'; exact hj (r.dis j i a z' z)
      refine ⟨v, ee, h v (setF fp i fun _ => False) H (Ext.put (fun a z => z.elim) (fun a o _ e _ => e) (fun _ _ z => z) (fun a o e q => ⟨o, e, q⟩) fun _ z => z) (r.put hi (fun _ z => z) (fun a z => z.elim) (fun a z => z.elim) (fun a z => z.elim) (fun a z => z.elim)
        (fun a o _ e _ => e) (fun _ _ z => z) (fun a o e q => ⟨o, e, q⟩) (fun _ z => z) rfl (fun _ _ => rfl) ee r.io0 r.hb ⟨⟨v, rfl, p'⟩, fun _ z => z⟩) p'⟩
theorem de_mov {i : Nat} {x : Str} (h : PE X (.Name x pos) (tVar i)) : DE X W (.Name x pos) (cM i) := by
  refine DE.mk ⟨_, h, fun E T io env fp σ H Q r h => ?_⟩
  unfold cM at h
  cases e : env[i]? with
  | none => rw [e] at h; exact h.elim
  | some sv =>
    rw [e] at h
    have hi := (List.getElem?_eq_some_iff.mp e).1
    have hl : i < σ.length := by rw [← r.len]; exact hi
    have s := r.slot i sv _ e (List.getElem?_eq_getElem hl)
    have ee : σ[i]? = some σ[i] := List.getElem?_eq_getElem hl
    cases sv with
    | no => exact h.elim
    | lk κ d => exact h.elim
    | fz d =>
      obtain ⟨⟨v, ev, p⟩, _⟩ := s
      rw [ev] at ee
      exact ⟨v, ee, h v fp H Ext.refl r p⟩
    | ow κ d =>
      by_cases i0 : i = 0
      · simp only [i0, if_true] at h; exact h.elim
      simp only [i0, if_false] at h
      obtain ⟨v, ev, p⟩ := s
      rw [ev] at ee
      have l := unlk e (fun _ _ z => nomatch z)
      have nE : ∀ a, fp i a → ¬ E a := fun a z z' => i0 (r.new i a z z').1
      have av2 : avOf (fun a => T a ∨ fp i a) (setF fp i fun _ => False) = avOf T fp := by
        funext a
        refine propext ⟨fun z => ?_, fun z => ?_⟩
        · rcases z with (z | z) | ⟨j, z⟩
          · exact .inl z
          · exact .inr ⟨i, z⟩
          · by_cases hj : j = i
            · subst hj; rw [setF_same] at z; exact z.elim
            · rw [setF_ne hj] at z; exact .inr ⟨j, z⟩
        · rcases z with z | ⟨j, z⟩
          · exact .inl (.inl z)
          · by_cases hj : j = i
            · subst hj; exact .inl (.inr z)
            · exact .inr ⟨j, by rw [setF_ne hj]; exact z⟩
      refine ⟨v, ee, h v (setF fp i fun _ => False) H (Ext.put (fun a z => z.elim) (fun a o _ e _ => e) (fun _ _ z => z) (fun a o e q => ⟨o, e, q⟩) fun _ z => z) (fp i) ?_ (by rw [av2]; exact p) fun a z => ⟨r.offT i a z, nE a z, .inr ⟨i, z, l⟩⟩⟩
      have r1 : R (bas X) E (fun a => T a ∨ fp i a) io (setF fp i fun _ => False) (env.set i .no) σ H := by
        refine ⟨by rw [List.length_set]; exact r.len, fun j sv' x' h1 h2 => ?_, fun j a z => ?_, fun j l a z1 z2 => ?_, fun j a z z' => ?_, fun a z => r.all a (by rw [av2] at z; exact z), fun j a z zE => ?_, r.io0, r.old, r.hb, r.tabs⟩
        · by_cases hj : j = i
          · subst hj
            rw [List.getElem?_set_self hi] at h1; cases h1
            intro a z; rw [setF_same] at z; exact z
          · rw [List.getElem?_set_ne (Ne.symm hj)] at h1
            have ef : setF fp i (fun _ => False) j = fp j := by funext a; exact setF_ne hj
            rw [ef, av2]
            exact r.slot j sv' x' h1 h2
        · by_cases hj : j = i
          · subst hj; rw [setF_same] at z; exact z.elim
          · rw [setF_ne hj] at z; rw [List.length_set]; exact r.out j a z
        · by_cases hj : j = i
          · subst hj; rw [setF_same] at z1; exact z1.elim
          · rw [setF_ne hj] at z1
            by_cases hl' : l = i
            · subst hl'; rw [setF_same] at z2; exact z2.elim
            · rw [setF_ne hl'] at z2; exact r.dis j l a z1 z2
        · by_cases hj : j = i
          · subst hj; rw [setF_same] at z; exact z.elim
          · rw [setF_ne hj] at z
            rcases z' with z' | z'
            · exact r.offT j a z z'
            · exact hj (r.dis j i a z z')
        · by_cases hj : j = i
          · subst hj; rw [setF_same] at z; exact z.elim
          · rw [setF_ne hj] at z; exact r.new j a z zE
      exact r1
theorem AvOk.of {B : Bas} {E T : Addr → Prop} {io : Option V} {env : Env} {fp : Nat → Addr → Prop} {σ : L2.St} {H : Hp} (r : R B E T io fp env σ H) : AvOk H (avOf T fp) := r.all

theorem sound_bin {r : R2} {op : D → D → ORes} (hs : Op2S X r op) (ha : ∃ t, PE X a t ∧ ∀ E T io env fp σ H Q, R (bas X) E T io fp env σ H → OKE (bas X) E T io env fp H σ Q W (fa env) → t σ H Q)
    (hb : ∃ t, PE X b t ∧ ∀ E T io env fp σ H Q, R (bas X) E T io fp env σ H → OKE (bas X) E T io env fp H σ Q W (fb env) → t σ H Q) :
    ∃ ta tb, PE X a ta ∧ PE X b tb ∧ ∀ E T io env fp σ H Q, R (bas X) E T io fp env σ H → OKE (bas X) E T io env fp H σ Q W (cBin op fa fb env) → tHB (tOp r ta tb) σ H Q := by
  obtain ⟨ta, pa, sa⟩ := ha
  obtain ⟨tb, pb, sb⟩ := hb
  refine ⟨ta, tb, pa, pb, fun E T io env fp σ H Q R0 h => ?_⟩
  refine oke_bind (f := fa) (sa E T io env fp σ H _ R0) h fun t1 env1 v1 fp1 H1 x1 R1 h1 k1 => ?_
  refine oke_bind (f := fb) (sb E T io env1 fp1 σ H1 _ R1) k1 fun t2 env2 v2 fp2 H2 x2 R2 h2 k2 => ?_
  have h1' := h1.ext x2
  cases g1 : getV env2 t1 with
  | none => simp only [g1] at k2; exact k2.elim
  | some d1 =>
    cases g2 : getV env2 t2 with
    | none => simp only [g1, g2] at k2; exact k2.elim
    | some d2 =>
      simp only [g1, g2] at k2
      exact hs H2 _ v1 v2 d1 d2 _ (AvOk.of R2) (h1'.get R2 g1) (h2.get R2 g2) (oke_fin R2 k2)
theorem de_bin {op : Operator} {r : R2} {o : D → D → ORes} (ho : OpR X (binaryOp op) r) (hs : Op2S X r o) (ha : DE X W a fa) (hb : DE X W b fb) : DE X W (.BinOp a op b pos) (cBin o fa fb) := by
  obtain ⟨ta, tb, pa, pb, s⟩ := sound_bin hs ha.out hb.out
  exact DE.mk ⟨_, peHB (pe_op ho pa pb), s⟩
theorem de_cmp {op : CmpOp} {r : R2} {o : D → D → ORes} (ho : OpR X (compareOp op) r) (hs : Op2S X r o) (ha : DE X W a fa) (hb : DE X W b fb) (hm : behindInMarks op b = false) : DE X W (.Compare a [op] [b] pos) (cBin o fa fb) := by
  obtain ⟨ta, tb, pa, pb, s⟩ := sound_bin hs ha.out hb.out
  exact DE.mk ⟨_, peHB (pe_cmpR ho pa pb hm), s⟩
theorem de_ix {r : R2} {o : D → D → ORes} (ho : IxR X r) (hs : Op2S X r o) (ha : DE X W a fa) (hb : DE X W b fb) (hp : PlainIx b) : DE X W (.Subscript a b pos) (cBin o fa fb) := by
  obtain ⟨ta, tb, pa, pb, s⟩ := sound_bin hs ha.out hb.out
  exact DE.mk ⟨_, peHB (pe_ix ho pa pb hp), s⟩
theorem de_un {op : UnaryOp} {r : V → Hp → VK → Prop} {o : D → ORes} (ho : UnR X (unaryOp op) r) (hs : Op1S X r o) (ha : DE X W a fa) : DE X W (.UnaryOp op a pos) (cUn o fa) := by
  obtain ⟨ta, pa, sa⟩ := ha.out
  refine DE.mk ⟨_, peHB (pe_un ho pa), fun E T io env fp σ H Q R0 h => ?_⟩
  refine oke_bind (f := fa) (sa E T io env fp σ H _ R0) h fun t1 env1 v1 fp1 H1 x1 R1 h1 k1 => ?_
  cases g1 : getV env1 t1 with
  | none => simp only [g1] at k1; exact k1.elim
  | some d1 =>
    simp only [g1] at k1
    exact hs H1 _ v1 d1 _ (AvOk.of R1) (h1.get R1 g1) (oke_fin R1 k1)
theorem rep1_bl {B : Bas} {H : Hp} {av : Addr → Prop} {v : V} {b : Bool} (h : Rep1 B H av v (.bl b)) : v = .bl b := by cases h; rfl
theorem rep1_int {B : Bas} {H : Hp} {av : Addr → Prop} {v : V} {b : Int} (h : Rep1 B H av v (.int b)) : v = .int b := by cases h; rfl
theorem rep1_str {B : Bas} {H : Hp} {av : Addr → Prop} {v : V} {b : Str} (h : Rep1 B H av v (.str b)) : v = .str b := by cases h; rfl
theorem rep1_non {B : Bas} {H : Hp} {av : Addr → Prop} {v : V} (h : Rep1 B H av v .non) : v = .non := by cases h; rfl
theorem OKE.val {B : Bas} {E T : Addr → Prop} {io : Option V} {env : Env} {fp : Nat → Addr → Prop} {σ : L2.St} {H : Hp} {Q : VK} {d : D} {v : V} (r : R B E T io fp env σ H) (p : ∀ av, Rep B H av v d) (h : OKE B E T io env fp H σ Q W (.ok (.fz d) env)) : Q v H := h v fp H Ext.refl r (p _)
theorem de_not (ha : DE X W a fa) : DE X W (.UnaryOp .Not a pos) (cUn oNot fa) := by
  obtain ⟨ta, pa, sa⟩ := ha.out
  refine DE.mk ⟨_, pe_not pa, fun E T io env fp σ H Q R0 h => ?_⟩
  refine oke_bind (f := fa) (sa E T io env fp σ H _ R0) h fun t1 env1 v1 fp1 H1 x1 R1 h1 k1 => ?_
  cases g1 : getV env1 t1 with
  | none => simp only [g1] at k1; exact k1.elim
  | some d1 =>
    simp only [g1] at k1
    have p := h1.get R1 g1
    cases d1 with
    | bl b => exact ⟨b, rep1_bl p, OKE.val R1 (fun _ => .bl _) k1⟩
    | _ => exact False.elim k1
theorem de_one {op : PySem.BoolOp} (ha : DE X W a fa) : DE X W (.BoolOp op [a] pos) fa := by
  obtain ⟨ta, pa, sa⟩ := ha.out
  exact DE.mk ⟨_, pe_one pa, sa⟩
theorem de_and {rest : List Expr} (ha : DE X W a fa) (hb : DE X W (.BoolOp .And (b :: rest) pos) fb) : DE X W (.BoolOp .And (a :: b :: rest) pos) (cAndV fa fb) := by
  obtain ⟨ta, pa, sa⟩ := ha.out
  obtain ⟨tb, pb, sb⟩ := hb.out
  refine DE.mk ⟨_, pe_and pa pb, fun E T io env fp σ H Q R0 h => ?_⟩
  refine oke_bind (f := fa) (sa E T io env fp σ H _ R0) h fun t1 env1 v1 fp1 H1 x1 R1 h1 k1 => ?_
  cases g1 : getV env1 t1 with
  | none => simp only [g1] at k1; exact k1.elim
  | some d1 =>
    simp only [g1] at k1
    have p := h1.get R1 g1
    cases d1 with
    | bl b =>
      refine ⟨b, rep1_bl p, ?_⟩
      cases b with
      | true => exact iteT (sb E T io env1 fp1 σ H1 Q R1 k1)
      | false => exact iteF (OKE.val R1 (fun _ => .bl _) k1)
    | _ => exact False.elim k1
theorem de_or {rest : List Expr} (ha : DE X W a fa) (hb : DE X W (.BoolOp .Or (b :: rest) pos) fb) : DE X W (.BoolOp .Or (a :: b :: rest) pos) (cOrV fa fb) := by
  obtain ⟨ta, pa, sa⟩ := ha.out
  obtain ⟨tb, pb, sb⟩ := hb.out
  refine DE.mk ⟨_, pe_or pa pb, fun E T io env fp σ H Q R0 h => ?_⟩
  refine oke_bind (f := fa) (sa E T io env fp σ H _ R0) h fun t1 env1 v1 fp1 H1 x1 R1 h1 k1 => ?_
  cases g1 : getV env1 t1 with
  | none => simp only [g1] at k1; exact k1.elim
  | some d1 =>
    simp only [g1] at k1
    have p := h1.get R1 g1
    cases d1 with
    | bl b =>
      refine ⟨b, rep1_bl p, ?_⟩
      cases b with
      | true => exact iteT (OKE.val R1 (fun _ => .bl _) k1)
      | false => exact iteF (sb E T io env1 fp1 σ H1 Q R1 k1)
    | _ => exact False.elim k1
/-- an operation that gives a truth value and leaves the heap as it is -/
def Op2P (X : Cx) (r : R2) (o : D → D → ORes) : Prop := ∀ H av x y d1 d2 Q, Rep1 (bas X) H av x d1 → Rep1 (bas X) H av y d2 → (match o d1 d2 with | .val (.bl k) => Q (.bl k) H | _ => False) → r x y H Q
theorem sound_chain {r r' : R2} {o o' : D → D → ORes} (hs : Op2P X r o) (hs' : Op2P X r' o') {ta tb tc : TE} (sa : ∀ E T io env fp σ H Q, R (bas X) E T io fp env σ H → OKE (bas X) E T io env fp H σ Q W (fa env) → ta σ H Q)
    (sb : ∀ E T io env fp σ H Q, R (bas X) E T io fp env σ H → OKE (bas X) E T io env fp H σ Q W (fb env) → tb σ H Q) (sc : ∀ E T io env fp σ H Q, R (bas X) E T io fp env σ H → OKE (bas X) E T io env fp H σ Q W (fc env) → tc σ H Q)
    {E T io env fp σ H Q} (R0 : R (bas X) E T io fp env σ H) (h : OKE (bas X) E T io env fp H σ Q W (cChain o o' fa fb fc env)) : tChain r r' ta tb tc σ H Q := by
  refine oke_bind (f := fa) (sa E T io env fp σ H _ R0) h fun t1 env1 v1 fp1 H1 x1 R1 h1 k1 => ?_
  refine oke_bind (f := fb) (sb E T io env1 fp1 σ H1 _ R1) k1 fun t2 env2 v2 fp2 H2 x2 R2 h2 k2 => ?_
  have h1' := h1.ext x2
  cases g1 : getV env2 t1 with
  | none => simp only [g1] at k2; exact k2.elim
  | some d1 =>
    cases g2 : getV env2 t2 with
    | none => simp only [g1, g2] at k2; exact k2.elim
    | some d2 =>
      simp only [g1, g2] at k2
      refine hs H2 _ v1 v2 d1 d2 _ (h1'.get R2 g1) (h2.get R2 g2) ?_
      cases q : o d1 d2 with
      | stuck => rw [q] at k2; exact k2.elim
      | new κ d => rw [q] at k2; exact k2.elim
      | val d =>
        rw [q] at k2
        cases d with
        | bl k =>
          refine ⟨k, rfl, ?_⟩
          cases k with
          | false => exact iteF (OKE.val R2 (fun _ => .bl _) k2)
          | true =>
            refine iteT ?_
            refine oke_bind (f := fc) (sc E T io env2 fp2 σ H2 _ R2) k2 fun t3 env3 v3 fp3 H4 x4 R4 h3 k3 => ?_
            have h2' := h2.ext x4
            cases g3 : getV env3 t2 with
            | none => simp only [g3] at k3; exact k3.elim
            | some e2 =>
              cases g4 : getV env3 t3 with
              | none => simp only [g3, g4] at k3; exact k3.elim
              | some d3 =>
                simp only [g3, g4] at k3
                refine hs' H4 _ v2 v3 e2 d3 _ (h2'.get R4 g3) (h3.get R4 g4) ?_
                cases q' : o' e2 d3 with
                | stuck => rw [q'] at k3; exact k3.elim
                | new κ d => rw [q'] at k3; exact k3.elim
                | val d =>
                  rw [q'] at k3
                  cases d with
                  | bl k => exact OKE.val R4 (fun _ => .bl _) k3
                  | _ => exact k3.elim
        | _ => exact k2.elim
theorem de_chain {op op' : CmpOp} {r r' : R2} {o o' : D → D → ORes} (ho : OpR X (compareOp op) r) (ho' : OpR X (compareOp op') r') (hs : Op2P X r o) (hs' : Op2P X r' o')
    (ha : DE X W a fa) (hb : DE X W b fb) (hc : DE X W c fc) (hm : lastMarks [op, op'] [b, c] = false := by with_unfolding_all rfl) : DE X W (.Compare a [op, op'] [b, c] pos) (cChain o o' fa fb fc) := by
  obtain ⟨ta, pa, sa⟩ := ha.out
  obtain ⟨tb, pb, sb⟩ := hb.out
  obtain ⟨tc, pc, sc⟩ := hc.out
  exact DE.mk ⟨_, pe_chain ho ho' pa pb pc hm, fun E T io env fp σ H Q R0 h => sound_chain hs hs' sa sb sc R0 h⟩
end

/-! ### tests -/
def OKT (B : Bas) (E T : Addr → Prop) (io : Option V) (env : Env) (fp : Nat → Addr → Prop) (H : Hp) (σ : L2.St) (Q : Bool → Hp → Prop) (W : WX) : Res Bool → Prop
  | .ok b env' => ∀ fp' H', Ext env fp H env' fp' H' → R B E T io fp' env' σ H' → Q b H'
  | .ex e env' => ∀ cls dx fp' H', Ext env fp H env' fp' H' → R B E T io fp' env' σ H' → ExR B H' (avOf T fp') e cls dx → W cls dx σ H'
  | .stuck => False
def cT (B : Bas) (W : WX) (f : M Bool) : TT := fun σ H Q => ∃ E T io env fp, R B E T io fp env σ H ∧ OKT B E T io env fp H σ Q W (f env)
def DT (X : Cx) (W : WX) (e : Expr) (f : M Bool) : Prop := PT X e (cT (bas X) W f)
def DW (X : Cx) (W : WX) (e : Expr) (f : M Bool) : Prop := PW X e (cT (bas X) W f)
theorem DT.out {X : Cx} {W : WX} {e : Expr} {f : M Bool} (h : DT X W e f) : ∃ t, PT X e t ∧ ∀ E T io env fp σ H Q, R (bas X) E T io fp env σ H → OKT (bas X) E T io env fp H σ Q W (f env) → t σ H Q :=
  ⟨_, h, fun E T io env fp σ H Q r h => ⟨E, T, io, env, fp, r, h⟩⟩
theorem DT.mk {X : Cx} {W : WX} {e : Expr} {f : M Bool} (h : ∃ t, PT X e t ∧ ∀ E T io env fp σ H Q, R (bas X) E T io fp env σ H → OKT (bas X) E T io env fp H σ Q W (f env) → t σ H Q) : DT X W e f := by
  obtain ⟨t, p, s⟩ := h
  exact ⟨fun pins sh σ H Q I ⟨E, T, io, env, fp, r, h⟩ => p.run pins sh σ H Q I (s E T io env fp σ H Q r h)⟩
theorem DW.out {X : Cx} {W : WX} {e : Expr} {f : M Bool} (h : DW X W e f) : ∃ t, PW X e t ∧ ∀ E T io env fp σ H Q, R (bas X) E T io fp env σ H → OKT (bas X) E T io env fp H σ Q W (f env) → t σ H Q :=
  ⟨_, h, fun E T io env fp σ H Q r h => ⟨E, T, io, env, fp, r, h⟩⟩
theorem DW.mk {X : Cx} {W : WX} {e : Expr} {f : M Bool} (h : ∃ t, PW X e t ∧ ∀ E T io env fp σ H Q, R (bas X) E T io fp env σ H → OKT (bas X) E T io env fp H σ Q W (f env) → t σ H Q) : DW X W e f := by
  obtain ⟨t, p, s⟩ := h
  exact ⟨fun wh pins sh σ H Q I ⟨E, T, io, env, fp, r, h⟩ => p.run wh pins sh σ H Q I (s E T io env fp σ H Q r h)⟩
def tst (f : M TV) : M Bool := fun env => (f env).bind fun t env1 => match getV env1 t with
  | some (.bl b) => .ok b env1
  | _ => .stuck
def tAndB (f g : M Bool) : M Bool := fun env => (f env).bind fun b env1 => if b then g env1 else .ok false env1
def tOrB (f g : M Bool) : M Bool := fun env => (f env).bind fun b env1 => if b then .ok true env1 else g env1
def tNotB (f : M Bool) : M Bool := fun env => (f env).bind fun b env1 => .ok (!b) env1
section
variable {B : Bas} {E T : Addr → Prop} {io : Option V} {env env1 : Env} {fp fp1 : Nat → Addr → Prop} {σ : L2.St} {H H1 : Hp} {Q Q' : Bool → Hp → Prop} {W : WX}
theorem OKT.after (x : Ext env fp H env1 fp1 H1) {r : Res Bool} (h : OKT B E T io env fp H σ Q W r) : OKT B E T io env1 fp1 H1 σ Q W r := by
  cases r with
  | stuck => exact h
  | ex e env' => exact fun cls dx fp' H' y => h cls dx fp' H' (x.trans y)
  | ok b env' => exact fun fp' H' y => h fp' H' (x.trans y)
theorem okt_bind {G : Prop} {f : M Bool} {k : Bool → M Bool} (hs : OKT B E T io env fp H σ Q' W (f env) → G)
    (h : OKT B E T io env fp H σ Q W ((f env).bind k)) (hk : ∀ b env' fp' H', Ext env fp H env' fp' H' → R B E T io fp' env' σ H' → OKT B E T io env' fp' H' σ Q W (k b env') → Q' b H') : G := by
  refine hs ?_
  cases e : f env with
  | stuck => rw [e] at h; exact h
  | ex x env' => rw [e] at h; exact h
  | ok b env' => rw [e] at h; exact fun fp' H' x r => hk b env' fp' H' x r (OKT.after x h)
theorem oket_bind {G : Prop} {f : M TV} {k : TV → M Bool} {Qe : VK} (hs : OKE B E T io env fp H σ Qe W (f env) → G)
    (h : OKT B E T io env fp H σ Q W ((f env).bind k)) (hk : ∀ tv env' v fp' H', Ext env fp H env' fp' H' → R B E T io fp' env' σ H' → Hold B T fp' H' σ v tv → OKT B E T io env' fp' H' σ Q W (k tv env') → Qe v H') : G := by
  refine hs ?_
  cases e : f env with
  | stuck => rw [e] at h; exact h
  | ex x env' => rw [e] at h; exact h
  | ok tv env' =>
    rw [e] at h
    exact oke_hold fun v fp' H' x r hh => hk tv env' v fp' H' x r hh (OKT.after x h)
theorem okte_bind {G : Prop} {f : M Bool} {k : Bool → M TV} {Qe : VK} (hs : OKT B E T io env fp H σ Q' W (f env) → G)
    (h : OKE B E T io env fp H σ Qe W ((f env).bind k)) (hk : ∀ b env' fp' H', Ext env fp H env' fp' H' → R B E T io fp' env' σ H' → OKE B E T io env' fp' H' σ Qe W (k b env') → Q' b H') : G := by
  refine hs ?_
  cases e : f env with
  | stuck => rw [e] at h; exact h
  | ex x env' => rw [e] at h; exact h
  | ok b env' => rw [e] at h; exact fun fp' H' x r => hk b env' fp' H' x r (OKE.after x h)
end
section
variable {X : Cx} {W : WX} {a b c : Expr} {fa fb : M TV} {f g : M Bool} {pos : Pos}
theorem sound_tst {ta : TE} (sa : ∀ E T io env fp σ H Q, R (bas X) E T io fp env σ H → OKE (bas X) E T io env fp H σ Q W (fa env) → ta σ H Q) {E T io env fp σ H Q} (R0 : R (bas X) E T io fp env σ H) (h : OKT (bas X) E T io env fp H σ Q W (tst fa env)) :
    ta σ H fun x H' => ∃ k, x = .bl k ∧ Q k H' := by
  refine oket_bind (f := fa) (sa E T io env fp σ H _ R0) h fun t1 env1 v1 fp1 H1 x1 R1 h1 k1 => ?_
  cases g1 : getV env1 t1 with
  | none => simp only [g1] at k1; exact k1.elim
  | some d1 =>
    simp only [g1] at k1
    have p := h1.get R1 g1
    cases d1 with
    | bl b => exact ⟨b, rep1_bl p, k1 fp1 H1 Ext.refl R1⟩
    | _ => exact False.elim k1
def tTestH (t : TE) : TT := fun σ H Q => t σ H fun x H' => HB H' → ∃ k, x = .bl k ∧ Q k H'
theorem pt_cmpH {op : CmpOp} {r : R2} {ta tb : TE} (ho : OpR X (compareOp op) r) (ha : PE X a ta) (hb : PE X b tb) (hm : behindInMarks op b = false) : PT X (.Compare a [op] [b] pos) (tTestH (tOp r ta tb)) := by
  refine ⟨fun pins s σ H Q I h => ?_⟩
  refine wpAny_isTrue_Compare1 (thn (ha.run pins s σ H _ I h) fun v s1 ⟨x, H1, I1, r1, q1⟩ => thn (hb.run pins s1 σ H1 _ I1 q1) fun u s2 ⟨y, H2, I2, r2, q2⟩ =>
    thn (ho pins s2 σ H2 x y v u _ I2 r1 r2 q2) fun c s3 ⟨z, H3, I3, r3, q3⟩ => ?_) hm
  obtain ⟨k, e, q4⟩ := q3 (HB.of I3.hok)
  subst e
  cases r3
  exact wpAny_truthy_bool ⟨H3, I3, q4⟩
theorem dt_val (ha : DE X W a fa) (he : ∀ whole, isTrue a X.env whole = (do let v ← whole; standAt a.pos; holding [v] (truthy v)) := by intro _; rfl) : DT X W a (tst fa) := by
  obtain ⟨ta, pa, sa⟩ := ha.out
  exact DT.mk ⟨_, pt_val pa he, fun E T io env fp σ H Q R0 h => sound_tst sa R0 h⟩
theorem dt_cmp {op : CmpOp} {r : R2} {o : D → D → ORes} (ho : OpR X (compareOp op) r) (hs : Op2S X r o) (ha : DE X W a fa) (hb : DE X W b fb) (hm : behindInMarks op b = false) : DT X W (.Compare a [op] [b] pos) (tst (cBin o fa fb)) := by
  obtain ⟨ta, tb, pa, pb, s⟩ := sound_bin hs ha.out hb.out
  exact DT.mk ⟨_, pt_cmpH ho pa pb hm, fun E T io env fp σ H Q R0 h => sound_tst s R0 h⟩
theorem dt_chain {op op' : CmpOp} {r r' : R2} {o o' : D → D → ORes} (ho : OpR X (compareOp op) r) (ho' : OpR X (compareOp op') r') (hs : Op2P X r o) (hs' : Op2P X r' o')
    {fc : M TV} (ha : DE X W a fa) (hb : DE X W b fb) (hc : DE X W c fc) (hm : lastMarks [op, op'] [b, c] = false := by with_unfolding_all rfl) : DT X W (.Compare a [op, op'] [b, c] pos) (tst (cChain o o' fa fb fc)) := by
  obtain ⟨ta, pa, sa⟩ := ha.out
  obtain ⟨tb, pb, sb⟩ := hb.out
  obtain ⟨tc, pc, sc⟩ := hc.out
  exact DT.mk ⟨_, pt_chain (pos := pos) ho ho' pa pb pc hm, fun E T io env fp σ H Q R0 h => sound_tst (fun E T io env fp σ H Q R0 h => sound_chain hs hs' sa sb sc R0 h) R0 h⟩
theorem dt_not (hf : DT X W a f) : DT X W (.UnaryOp .Not a pos) (tNotB f) := by
  obtain ⟨t, p, s⟩ := hf.out
  refine DT.mk ⟨_, pt_not p, fun E T io env fp σ H Q R0 h => ?_⟩
  exact okt_bind (f := f) (s E T io env fp σ H _ R0) h fun b env1 fp1 H1 x1 R1 k1 => k1 fp1 H1 Ext.refl R1
theorem dt_of (h : DW X W a f) : DT X W a f := by obtain ⟨t, p, s⟩ := h.out; exact DT.mk ⟨t, p.pt, s⟩
theorem dw_and1 (hf : DT X W a f) : DW X W (.BoolOp .And [a] pos) f := by obtain ⟨t, p, s⟩ := hf.out; exact DW.mk ⟨t, pw_and1 p, s⟩
theorem dw_or1 (hf : DT X W a f) : DW X W (.BoolOp .Or [a] pos) f := by obtain ⟨t, p, s⟩ := hf.out; exact DW.mk ⟨t, pw_or1 p, s⟩
theorem dw_and {rest : List Expr} (hf : DT X W a f) (hg : DW X W (.BoolOp .And (b :: rest) pos) g) : DW X W (.BoolOp .And (a :: b :: rest) pos) (tAndB f g) := by
  obtain ⟨t, p, s⟩ := hf.out
  obtain ⟨t', p', s'⟩ := hg.out
  refine DW.mk ⟨_, pw_and p p', fun E T io env fp σ H Q R0 h => ?_⟩
  refine okt_bind (f := f) (s E T io env fp σ H _ R0) h fun b env1 fp1 H1 x1 R1 k1 => ?_
  cases b with
  | true => exact iteT (s' E T io env1 fp1 σ H1 Q R1 k1)
  | false => exact iteF (k1 fp1 H1 Ext.refl R1)
theorem dw_or {rest : List Expr} (hf : DT X W a f) (hg : DW X W (.BoolOp .Or (b :: rest) pos) g) : DW X W (.BoolOp .Or (a :: b :: rest) pos) (tOrB f g) := by
  obtain ⟨t, p, s⟩ := hf.out
  obtain ⟨t', p', s'⟩ := hg.out
  refine DW.mk ⟨_, pw_or p p', fun E T io env fp σ H Q R0 h => ?_⟩
  refine okt_bind (f := f) (s E T io env fp σ H _ R0) h fun b env1 fp1 H1 x1 R1 k1 => ?_
  cases b with
  | true => exact iteT (k1 fp1 H1 Ext.refl R1)
  | false => exact iteF (s' E T io env1 fp1 σ H1 Q R1 k1)
theorem de_if (hc : DT X W c f) (ha : DE X W a fa) (hb : DE X W b fb) : DE X W (.IfExp c a b pos) (cIf f fa fb) := by
  obtain ⟨t, p, s⟩ := hc.out
  obtain ⟨ta, pa, sa⟩ := ha.out
  obtain ⟨tb, pb, sb⟩ := hb.out
  refine DE.mk ⟨_, pe_ifExp p pa pb, fun E T io env fp σ H Q R0 h => ?_⟩
  refine okte_bind (f := f) (s E T io env fp σ H _ R0) h fun b env1 fp1 H1 x1 R1 k1 => ?_
  cases b with
  | true => exact iteT (sa E T io env1 fp1 σ H1 Q R1 k1)
  | false => exact iteF (sb E T io env1 fp1 σ H1 Q R1 k1)
end
end VL
namespace VL
open PySem PySem.Spec PyProof.Rows L2
variable [tt : TabList]

/-! ### argument lists -/
inductive Holds (B : Bas) (T : Addr → Prop) (fp : Nat → Addr → Prop) (H : Hp) (σ : L2.St) : List V → List TV → Prop
  | nil : Holds B T fp H σ [] []
  | cons {v vs t ts} : Hold B T fp H σ v t → Holds B T fp H σ vs ts → Holds B T fp H σ (v :: vs) (t :: ts)
def cArgs : List (M TV) → Env → Res (List TV)
  | [], env => .ok [] env
  | f :: fs, env => (f env).bind fun t env1 => (cArgs fs env1).bind fun ts env2 => .ok (t :: ts) env2
def frzV : TV → Option D
  | .fz d => some d
  | .ow _ d => some d
  | .sl _ => none
def frzs : List TV → Option (List D)
  | [] => some []
  | t :: ts => match frzV t, frzs ts with
    | some d, some ds => some (d :: ds)
    | _, _ => none
def getVs (env : Env) : List TV → Option (List D)
  | [] => some []
  | t :: ts => match getV env t, getVs env ts with
    | some d, some ds => some (d :: ds)
    | _, _ => none
section
variable {B : Bas} {E T : Addr → Prop} {io : Option V} {env env' : Env} {fp fp' : Nat → Addr → Prop} {σ : L2.St} {H H' : Hp} {vs : List V} {ts : List TV}
theorem Holds.ext (x : Ext env fp H env' fp' H') : ∀ {vs ts}, Holds B T fp H σ vs ts → Holds B T fp' H' σ vs ts
  | _, _, .nil => .nil
  | _, _, .cons h t => .cons (h.ext x) (Holds.ext x t)
theorem frzV_rep {v : V} {t : TV} {d : D} (h : Hold B T fp H σ v t) (e : frzV t = some d) : Rep B H (avOf T fp) v d := by
  cases t with
  | sl i => cases e
  | fz d' => cases e; exact h
  | ow κ d' => cases e; exact h
theorem frzs_reps : ∀ {vs ts ds}, Holds B T fp H σ vs ts → frzs ts = some ds → Reps B H (avOf T fp) vs ds
  | _, _, _, .nil, e => by cases e; exact .nil
  | _, _, _, .cons (t := t) (ts := ts) h r, e => by
    unfold frzs at e
    cases e1 : frzV t with
    | none => rw [e1] at e; cases e
    | some d =>
      cases e2 : frzs ts with
      | none => rw [e1, e2] at e; cases e
      | some ds' =>
        rw [e1, e2] at e; cases e
        exact .cons (frzV_rep h e1) (frzs_reps r e2)
theorem getVs_reps (r : R B E T io fp env σ H) : ∀ {vs ts ds}, Holds B T fp H σ vs ts → getVs env ts = some ds → Rep1s B H (avOf T fp) vs ds
  | _, _, _, .nil, e => by cases e; exact .nil
  | _, _, _, .cons (t := t) (ts := ts) h rr, e => by
    unfold getVs at e
    cases e1 : getV env t with
    | none => rw [e1] at e; cases e
    | some d =>
      cases e2 : getVs env ts with
      | none => rw [e1, e2] at e; cases e
      | some ds' =>
        rw [e1, e2] at e; cases e
        exact .cons (h.get r e1) (getVs_reps r rr e2)
end
def OKA (B : Bas) (E T : Addr → Prop) (io : Option V) (env : Env) (fp : Nat → Addr → Prop) (H : Hp) (σ : L2.St) (Q : List V → Hp → Prop) (W : WX) : Res (List TV) → Prop
  | .ok ts env' => ∀ vs fp' H', Ext env fp H env' fp' H' → R B E T io fp' env' σ H' → Holds B T fp' H' σ vs ts → Q vs H'
  | .ex e env' => ∀ cls dx fp' H', Ext env fp H env' fp' H' → R B E T io fp' env' σ H' → ExR B H' (avOf T fp') e cls dx → W cls dx σ H'
  | .stuck => False
def cA (B : Bas) (W : WX) (fs : List (M TV)) : TA := fun σ H Q => ∃ E T io env fp, R B E T io fp env σ H ∧ OKA B E T io env fp H σ Q W (cArgs fs env)
def DA (X : Cx) (W : WX) (es : List Expr) (fs : List (M TV)) : Prop := PA X es (cA (bas X) W fs)
theorem DA.out {X : Cx} {W : WX} {e : List Expr} {f : List (M TV)} (h : DA X W e f) : ∃ t, PA X e t ∧ ∀ E T io env fp σ H Q, R (bas X) E T io fp env σ H → OKA (bas X) E T io env fp H σ Q W (cArgs f env) → t σ H Q :=
  ⟨_, h, fun E T io env fp σ H Q r h => ⟨E, T, io, env, fp, r, h⟩⟩
theorem DA.mk {X : Cx} {W : WX} {e : List Expr} {f : List (M TV)} (h : ∃ t, PA X e t ∧ ∀ E T io env fp σ H Q, R (bas X) E T io fp env σ H → OKA (bas X) E T io env fp H σ Q W (cArgs f env) → t σ H Q) : DA X W e f := by
  obtain ⟨t, p, s⟩ := h
  exact ⟨fun pos pins sh σ H Q I ⟨E, T, io, env, fp, r, h⟩ => p.run pos pins sh σ H Q I (s E T io env fp σ H Q r h)⟩
section
variable {B : Bas} {E T : Addr → Prop} {io : Option V} {env env1 : Env} {fp fp1 : Nat → Addr → Prop} {σ : L2.St} {H H1 : Hp} {W : WX}
theorem OKA.after {Q : List V → Hp → Prop} (x : Ext env fp H env1 fp1 H1) {r : Res (List TV)} (h : OKA B E T io env fp H σ Q W r) : OKA B E T io env1 fp1 H1 σ Q W r := by
  cases r with
  | stuck => exact h
  | ex e env' => exact fun cls dx fp' H' y => h cls dx fp' H' (x.trans y)
  | ok b env' => exact fun vs fp' H' y => h vs fp' H' (x.trans y)
/-- expressions, then a list -/
theorem okea_bind {G : Prop} {f : M TV} {k : TV → Env → Res (List TV)} {Q : List V → Hp → Prop} {Qe : VK} (hs : OKE B E T io env fp H σ Qe W (f env) → G)
    (h : OKA B E T io env fp H σ Q W ((f env).bind k)) (hk : ∀ tv env' v fp' H', Ext env fp H env' fp' H' → R B E T io fp' env' σ H' → Hold B T fp' H' σ v tv → OKA B E T io env' fp' H' σ Q W (k tv env') → Qe v H') : G := by
  refine hs ?_
  cases e : f env with
  | stuck => rw [e] at h; exact h
  | ex x env' => rw [e] at h; exact h
  | ok tv env' =>
    rw [e] at h
    exact oke_hold fun v fp' H' x r hh => hk tv env' v fp' H' x r hh (OKA.after x h)
theorem okaa_bind {G : Prop} {r : Res (List TV)} {k : List TV → Env → Res (List TV)} {Q Qa : List V → Hp → Prop} (hs : OKA B E T io env fp H σ Qa W r → G)
    (h : OKA B E T io env fp H σ Q W (r.bind k)) (hk : ∀ ts env' vs fp' H', Ext env fp H env' fp' H' → R B E T io fp' env' σ H' → Holds B T fp' H' σ vs ts → OKA B E T io env' fp' H' σ Q W (k ts env') → Qa vs H') : G := by
  refine hs ?_
  cases e : r with
  | stuck => rw [e] at h; exact h
  | ex x env' => rw [e] at h; exact h
  | ok ts env' => rw [e] at h; exact fun vs fp' H' x r hh => hk ts env' vs fp' H' x r hh (OKA.after x h)
/-- a list, then an expression's end -/
theorem okae_bind {G : Prop} {r : Res (List TV)} {k : List TV → M TV} {Q : VK} {Qa : List V → Hp → Prop} (hs : OKA B E T io env fp H σ Qa W r → G)
    (h : OKE B E T io env fp H σ Q W (r.bind k)) (hk : ∀ ts env' vs fp' H', Ext env fp H env' fp' H' → R B E T io fp' env' σ H' → Holds B T fp' H' σ vs ts → OKE B E T io env' fp' H' σ Q W (k ts env') → Qa vs H') : G := by
  refine hs ?_
  cases e : r with
  | stuck => rw [e] at h; exact h
  | ex x env' => rw [e] at h; exact h
  | ok ts env' => rw [e] at h; exact fun vs fp' H' x r hh => hk ts env' vs fp' H' x r hh (OKE.after x h)
end
section
variable {X : Cx} {W : WX} {e : Expr} {es : List Expr} {f : M TV} {fs : List (M TV)} {pos : Pos}
theorem da_nil : DA X W [] [] := .mk ⟨_, pa_nil, fun E T io env fp σ H Q r h => h [] fp H Ext.refl r .nil⟩
theorem da_cons (he : DE X W e f) (hr : DA X W es fs) (hs : starEach (e :: es) X.env = (false, eval e X.env) :: starEach es X.env := by rfl) : DA X W (e :: es) (f :: fs) := by
  obtain ⟨t, p, s⟩ := he.out
  obtain ⟨t', p', s'⟩ := hr.out
  refine .mk ⟨_, pa_cons p p' hs, fun E T io env fp σ H Q r h => ?_⟩
  refine okea_bind (f := f) (s E T io env fp σ H _ r) h fun tv env1 v fp1 H1 x1 r1 h1 k1 => ?_
  refine okaa_bind (s' E T io env1 fp1 σ H1 _ r1) k1 fun ts env2 vs fp2 H2 x2 r2 h2 k2 => ?_
  exact k2 _ fp2 H2 Ext.refl r2 (.cons (h1.ext x2) h2)

/-! ### displays -/
def cTup (fs : List (M TV)) : M TV := fun env => (cArgs fs env).bind fun ts env1 => match frzs ts with
  | some ds => if ds.length ≤ 1000 then .ok (.fz (.tup ds)) env1 else .stuck
  | none => .stuck
def cLst (fs : List (M TV)) : M TV := fun env => (cArgs fs env).bind fun ts env1 => match frzs ts with
  | some ds => if ds.length ≤ 1000 then .ok (.ow .l (.lst ds)) env1 else .stuck
  | none => .stuck
theorem line1000 {n : Nat} (h : n ≤ 1000) : n ≤ sizeLine := Nat.le_trans h (by decide)
theorem grow_upd {H : Hp} {p : Addr} {o : HO} (h : H p = none) : Grow H (upd H p o) := fun a u e => by rw [upd_ne (ne_of_none e h)]; exact e
/-- a new tuple -/
theorem opq_tup {B : Bas} {H : Hp} {av : Addr → Prop} {Q : VK} {vs : List V} {ds : List D} {p : Addr} (hav : AvOk H av) (hp : H p = none) (r : Reps B H av vs ds) (h : OpQ B H av Q (.val (.tup ds))) : Q (.ref p) (upd H p (.tup vs)) :=
  h _ _ (grow_upd hp) (.tup upd_same (fun z => by obtain ⟨o, e, _⟩ := hav p z; rw [hp] at e; cases e) (r.grow (grow_upd hp)))
theorem opq_lst {B : Bas} {H : Hp} {av : Addr → Prop} {Q : VK} {vs : List V} {ds : List D} {p : Addr} (hp : H p = none) (r : Reps B H av vs ds) (h : OpQ B H av Q (.new .l (.lst ds))) : Q (.ref p) (upd H p (.lst vs)) :=
  h _ _ (fun b => b = p) (grow_upd hp) (fun a e => by rw [e]; exact hp) ⟨p, vs, ds, rfl, rfl, upd_same, r.mono (fun a o _ e _ => grow_upd hp a o e) (fun a z => z.imp id (fun e => by rw [e]; exact hp)), rfl⟩
theorem de_tup {x1} (ha : DA X W es fs) : DE X W (.Tuple es x1 pos) (cTup fs) := by
  obtain ⟨t, p, s⟩ := ha.out
  refine .mk ⟨_, peHB (pe_tup p), fun E T io env fp σ H Q r h => ?_⟩
  refine okae_bind (s E T io env fp σ H _ r) h fun ts env1 vs fp1 H1 x1 r1 h1 k1 => ?_
  cases e : frzs ts with
  | none => simp only [e] at k1; exact k1.elim
  | some ds =>
    simp only [e] at k1
    by_cases hl : ds.length ≤ 1000
    · simp only [hl, if_true] at k1
      have rr := frzs_reps h1 e
      exact ⟨by rw [rr.length]; exact line1000 hl, fun q hq => opq_tup (AvOk.of r1) hq rr (oke_fin (o := .val (.tup ds)) r1 k1)⟩
    · simp only [hl, if_false] at k1; exact k1.elim
theorem de_lst (ha : DA X W es fs) : DE X W (.List es pos) (cLst fs) := by
  obtain ⟨t, p, s⟩ := ha.out
  refine .mk ⟨_, peHB (pe_lst p), fun E T io env fp σ H Q r h => ?_⟩
  refine okae_bind (s E T io env fp σ H _ r) h fun ts env1 vs fp1 H1 x1 r1 h1 k1 => ?_
  cases e : frzs ts with
  | none => simp only [e] at k1; exact k1.elim
  | some ds =>
    simp only [e] at k1
    by_cases hl : ds.length ≤ 1000
    · simp only [hl, if_true] at k1
      have rr := frzs_reps h1 e
      exact ⟨by rw [rr.length]; exact line1000 hl, fun q hq => opq_lst hq rr (oke_fin (o := .new .l (.lst ds)) r1 k1)⟩
    · simp only [hl, if_false] at k1; exact k1.elim

/-! ### calls of builtins -/
def cCall (op : List D → ORes) (fs : List (M TV)) : M TV := fun env => (cArgs fs env).bind fun ts env1 => match getVs env1 ts with
  | some ds => fin (op ds) env1
  | none => .stuck
theorem sound_call {r : List V → Hp → VK → Prop} {op : List D → ORes} (hs : OpNS X r op) {t : TA} (s : ∀ E T io env fp σ H Q, R (bas X) E T io fp env σ H → OKA (bas X) E T io env fp H σ Q W (cArgs fs env) → t σ H Q)
    {E T io env fp σ H Q} (R0 : R (bas X) E T io fp env σ H) (h : OKE (bas X) E T io env fp H σ Q W (cCall op fs env)) : tHB (tCB r t) σ H Q := by
  refine okae_bind (s E T io env fp σ H _ R0) h fun ts env1 vs fp1 H1 x1 r1 h1 k1 => ?_
  cases e : getVs env1 ts with
  | none => simp only [e] at k1; exact k1.elim
  | some ds =>
    simp only [e] at k1
    exact hs H1 _ vs ds _ (AvOk.of r1) (getVs_reps r1 h1 e) (oke_fin r1 k1)
theorem de_callB {x : Str} {id : String} {r : List V → Hp → VK → Prop} {op : List D → ORes} {p : Pos} (hc : CallR X (.builtin id) r) (hs : OpNS X r op) (hg : Gl X x) (hm : X.mg x = none) (hv : bootBuiltins x = some (.builtin id)) (ha : DA X W (e :: es) fs)
    (hn : x ≠ "__name__" := by decide) (hdb : (x == ("__debug__" : Str)) = false := by decide)
    (hss : starEach (e :: es) X.env = (false, eval e X.env) :: starEach es X.env := by rfl) (hp : (backTo pos (starEach es X.env)).any (·.1) = false := by rfl) : DE X W (.Call (.Name x p) (e :: es) [] pos) (cCall op fs) := by
  obtain ⟨t, pa, s⟩ := ha.out
  exact .mk ⟨_, peHB (pe_callB hc hg hm hv pa hn hdb hss hp), fun E T io env fp σ H Q r h => sound_call hs s r h⟩
theorem de_callTy {x : Str} {T : String} {r : List V → Hp → VK → Prop} {op : List D → ORes} {p : Pos} (hc : CallR X (.type T) r) (hs : OpNS X r op) (hg : Gl X x) (hm : X.mg x = none) (hv : bootBuiltins x = some (.type T)) (ha : DA X W (e :: es) fs)
    (hn : x ≠ "__name__" := by decide) (hdb : (x == ("__debug__" : Str)) = false := by decide)
    (hss : starEach (e :: es) X.env = (false, eval e X.env) :: starEach es X.env := by rfl) (hp : (backTo pos (starEach es X.env)).any (·.1) = false := by rfl) : DE X W (.Call (.Name x p) (e :: es) [] pos) (cCall op fs) := by
  obtain ⟨t, pa, s⟩ := ha.out
  exact .mk ⟨_, peHB (pe_callTy hc hg hm hv pa hn hdb hss hp), fun E T io env fp σ H Q r h => sound_call hs s r h⟩
end
end VL
namespace VL
open PySem PySem.Spec PyProof.Rows L2
variable [tt : TabList]

/-! ### methods of built-in types, read only -/
def tyD : String → D → Bool
  | "list", .lst _ => true
  | "str", .str _ => true
  | _, _ => false
def cMeth (T : String) (op : D → List D → ORes) (fo : M TV) (fs : List (M TV)) : M TV := fun env => (fo env).bind fun t0 env0 => match getV env0 t0 with
  | some d0 => if tyD T d0 then (cArgs fs env0).bind fun ts env1 => match getV env1 t0, getVs env1 ts with
      | some d, some ds => fin (op d ds) env1
      | _, _ => .stuck
    else .stuck
  | none => .stuck
theorem tyD_ok {B : Bas} {H : Hp} {av : Addr → Prop} {v : V} {d : D} {T : String} (h : Rep1 B H av v d) (e : tyD T d = true) : tyV B.K T v H := by
  unfold tyD at e
  split at e
  · cases h with
    | lst h1 h2 => exact .inl ⟨rfl, _, .inl h1⟩
  · cases h; rfl
  · cases e
section
variable {X : Cx} {W : WX} {o e : Expr} {es : List Expr} {fo f : M TV} {fs : List (M TV)} {pos apos cpos : Pos} {name : Str} {T id : String}
theorem de_meth {r : V → List V → Hp → VK → Prop} {op : D → List D → ORes} (pa : PlainAttrs T) (slot : Slot T name id) (hty : typeOf (.builtin id) = pure (.type "method_descriptor")) (hm : MtR X id r) (hs : OpMS X r op) (ho : DE X W o fo) (ha : DA X W (e :: es) fs)
    (hbase : attributeBase o name X.env (eval o X.env) = eval o X.env := by rfl)
    (hfew : ((backTo cpos (starEach (e :: es) X.env)).all (fun x => !x.1) && (backToKw cpos (keywordEach [] X.env)).all (fun x => x.1.isSome)
      && decide ((e :: es).length + ([] : List Keyword).length + (if ([] : List Keyword).isEmpty then 0 else 1) < 30)) = true := by rfl)
    (hline : (apos.endLine == cpos.line) = true := by rfl) (hst : starEach (e :: es) X.env = (false, eval e X.env) :: starEach es X.env := by rfl) (hplain : (backTo cpos (starEach es X.env)).any (·.1) = false := by rfl) :
    DE X W (.Call (.Attribute o name apos) (e :: es) [] cpos) (cMeth T op fo fs) := by
  obtain ⟨to, po, so⟩ := ho.out
  obtain ⟨t, p, s⟩ := ha.out
  refine .mk ⟨_, peHB (pe_bm pa slot hty hm po p hbase hfew hline hst hplain), fun E T' io env fp σ H Q R0 h => ?_⟩
  refine oke_bind (f := fo) (so E T' io env fp σ H _ R0) h fun t0 env0 v0 fp0 H0 x0 r0 h0 k0 => ?_
  cases g : getV env0 t0 with
  | none => simp only [g] at k0; exact k0.elim
  | some d0 =>
    simp only [g] at k0
    by_cases ty : tyD T d0 = true
    · simp only [ty, if_true] at k0
      refine ⟨tyD_ok (h0.get r0 g) ty, ?_⟩
      refine okae_bind (s E T' io env0 fp0 σ H0 _ r0) k0 fun ts env1 vs fp1 H1 x1 r1 h1 k1 => ?_
      cases g1 : getV env1 t0 with
      | none => simp only [g1] at k1; exact k1.elim
      | some d1 =>
        cases g2 : getVs env1 ts with
        | none => simp only [g1, g2] at k1; exact k1.elim
        | some ds =>
          simp only [g1, g2] at k1
          exact hs H1 _ v0 vs d1 ds _ (AvOk.of r1) ((h0.ext x1).get r1 g1) (getVs_reps r1 h1 g2) (oke_fin r1 k1)
    · simp only [ty, if_false] at k0; exact k0.elim

/-! ### methods that change what a slot owns -/
/-- op: kind, content, arguments → the new content, what is handed back -/
def cMut (i : Nat) (κ : Kd) (T : String) (op : D → List D → Option (D × D)) (fs : List (M TV)) : M TV := fun env => match env[i]? with
  | some (.ow κ0 d0) => if κ0 = κ then (cArgs fs env).bind fun ts env1 => match env1[i]?, frzs ts with
      | some (.ow κ1 d), some ds => if κ1 = κ then match op d ds with
          | some (d', res) => .ok (.fz res) (env1.set i (.ow κ d'))
          | none => .stuck
        else .stuck
      | _, _ => .stuck
    else .stuck
  | _ => .stuck
/-- the same with arguments read at the moment of use -/
def cMutG (i : Nat) (κ : Kd) (T : String) (op : D → List D → Option (D × D)) (fs : List (M TV)) : M TV := fun env => match env[i]? with
  | some (.ow κ0 d0) => if κ0 = κ then (cArgs fs env).bind fun ts env1 => match env1[i]?, getVs env1 ts with
      | some (.ow κ1 d), some ds => if κ1 = κ then match op d ds with
          | some (d', res) => .ok (.fz res) (env1.set i (.ow κ d'))
          | none => .stuck
        else .stuck
      | _, _ => .stuck
    else .stuck
  | _ => .stuck
structure Mutd (B : Bas) (q : Addr → Prop) (H H' : Hp) : Prop where
  keep : ∀ a o, H a = some o → ¬ q a → H' a = some o
  typ : ∀ a o, H a = some o → ownO o → ∃ o', H' a = some o' ∧ ownO o'
  dom : ∀ a, H a ≠ none → H' a ≠ none
theorem Mutd.upd {B : Bas} {H : Hp} {a : Addr} {o o' : HO} (h : H a = some o) (hw : ownO o') : Mutd B (fun b => b = a) H (upd H a o') where
  keep := fun b u e n => by rw [upd_ne n]; exact e
  typ := fun b u e w => by
    by_cases hb : b = a
    · subst hb; exact ⟨o', upd_same, hw⟩
    · exact ⟨u, by rw [upd_ne hb]; exact e, w⟩
  dom := fun b h => by
    by_cases hb : b = a
    · subst hb; rw [upd_same]; exact fun z => nomatch z
    · rw [upd_ne hb]; exact h
def MutS (X : Cx) (κ : Kd) (r : V → List V → Hp → VK → Prop) (op : D → List D → Option (D × D)) : Prop := ∀ H av v d q xs ds Q, HB H → AvOk H av → Own (bas X) H av κ v d q → (∀ a, q a → av a) → Reps (bas X) H av xs ds →
  (match op d ds with | some (d', res) => ∀ v' H', Mutd (bas X) q H H' → Own (bas X) H' av κ v d' q → Rep (bas X) H' av v' res → Q v' H' | none => False) → r v xs H Q
def MutSG (X : Cx) (κ : Kd) (r : V → List V → Hp → VK → Prop) (op : D → List D → Option (D × D)) : Prop := ∀ H av v d q xs ds Q, HB H → AvOk H av → Own (bas X) H av κ v d q → (∀ a, q a → av a) → Rep1s (bas X) H av xs ds →
  (match op d ds with | some (d', res) => ∀ v' H', Mutd (bas X) q H H' → Own (bas X) H' av κ v d' q → Rep (bas X) H' av v' res → Q v' H' | none => False) → r v xs H Q
/-- the slot's content changed -/
theorem R.mut {B : Bas} {E T : Addr → Prop} {io : Option V} {env : Env} {fp : Nat → Addr → Prop} {σ : L2.St} {H H' : Hp} {i : Nat} {κ κ' : Kd} {d d' : D} {v : V} (r : R B E T io fp env σ H) (e : env[i]? = some (.ow κ d)) (ev : σ[i]? = some (some v))
    (m : Mutd B (fp i) H H') (hb : HB H') (o : Own B H' (avOf T fp) κ' v d' (fp i)) : R B E T io fp (env.set i (.ow κ' d')) σ H' ∧ Ext env fp H (env.set i (.ow κ' d')) fp H' := by
  have hi := (List.getElem?_eq_some_iff.mp e).1
  have l := unlk e (fun _ _ z => nomatch z)
  have kT : ∀ p ∈ tt.T, LamX.TabS H p.1 p.2 → LamX.TabS H' p.1 p.2 := tab_keep fun a o no e1 => m.keep a o e1 fun z => no (r.own_at z e1)
  have r' := r.put (T := T) (q := fp i) (sv := .ow κ' d') (x := some v) (H' := H') (σ' := σ) hi (fun _ z => z) (fun a z => .inr (.inl z)) (fun a z => r.offT i a z) (fun a z => by
    obtain ⟨ob, e1, w⟩ := r.all a (.inr ⟨i, z⟩); exact m.typ a ob e1 w) (fun a z zE => r.new i a z zE) (fun a o _ e n => m.keep a o e n) kT m.typ m.dom rfl (fun _ _ => rfl) ev r.io0 hb (by rw [setF_id]; exact ⟨v, rfl, o⟩)
  have x' := Ext.put (env := env) (fp := fp) (i := i) (sv := .ow κ' d') (q := fp i) (H := H) (H' := H') (fun a z => .inl ⟨z, l⟩) (fun a ob _ e1 n => m.keep a ob e1 fun z => l (n z)) kT m.typ m.dom
  rw [setF_id] at r' x'
  exact ⟨r', x'⟩
theorem slot_own {B : Bas} {E T : Addr → Prop} {io : Option V} {env : Env} {fp : Nat → Addr → Prop} {σ : L2.St} {H : Hp} {i : Nat} {κ : Kd} {d : D} (r : R B E T io fp env σ H) (e : env[i]? = some (.ow κ d)) :
    ∃ v, σ[i]? = some (some v) ∧ Own B H (avOf T fp) κ v d (fp i) := by
  have hl : i < σ.length := by rw [← r.len]; exact (List.getElem?_eq_some_iff.mp e).1
  have ee : σ[i]? = some σ[i] := List.getElem?_eq_getElem hl
  obtain ⟨v, ev, p⟩ := r.slot i _ _ e ee
  rw [ev] at ee
  exact ⟨v, ee, p⟩
theorem Own.ty {B : Bas} {H : Hp} {av : Addr → Prop} {κ : Kd} {v : V} {d : D} {q : Addr → Prop} (h : Own B H av κ v d q) : tyV B.K (match κ with | .l => "list" | .l2 => "list" | .dk => "dict" | .dt => "dict" | .m => "dict") v H := by
  cases κ with
  | l => obtain ⟨a, vs, ds, rfl, _, e, _⟩ := h; exact .inl ⟨rfl, _, .inl (.inl e)⟩
  | l2 => obtain ⟨a, rs, ds, rfl, _, e, _⟩ := h; exact .inl ⟨rfl, _, .inl (.inl e)⟩
  | dk => obtain ⟨a, rs, ds, rfl, _, e, _⟩ := h; exact .inr (.inr (.inl ⟨rfl, .inl ⟨_, e⟩⟩))
  | dt => obtain ⟨a, rs, ds, rfl, _, e, _⟩ := h; exact .inr (.inr (.inl ⟨rfl, .inr ⟨_, e⟩⟩))
  | m => obtain ⟨a, c, l, at_, cs, ls, cd, ld, rfl, _, e, _⟩ := h; exact .inr (.inr (.inl ⟨rfl, .inl ⟨_, e⟩⟩))
def kdT : Kd → String
  | .l => "list" | .l2 => "list" | .dk => "dict" | .dt => "dict" | .m => "dict"
theorem sound_mut {i : Nat} {κ : Kd} {r : V → List V → Hp → VK → Prop} {op : D → List D → Option (D × D)} {t : TA} (hs : MutS X κ r op) (hT : kdT κ = T) (s : ∀ E T io env fp σ H Q, R (bas X) E T io fp env σ H → OKA (bas X) E T io env fp H σ Q W (cArgs fs env) → t σ H Q)
    {E T' io env fp σ H Q} (R0 : R (bas X) E T' io fp env σ H) (h : OKE (bas X) E T' io env fp H σ Q W (cMut i κ T op fs env)) : ∃ v, σ[i]? = some (some v) ∧ (tyV X.K T v H ∧ t σ H fun xs H2 => r v xs H2 fun v H' => HB H' → Q v H') := by
  unfold cMut at h
  cases e : env[i]? with
  | none => rw [e] at h; exact h.elim
  | some sv =>
    rw [e] at h
    cases sv with
    | no => exact h.elim
    | fz _ => exact h.elim
    | lk _ _ => exact h.elim
    | ow κ0 d0 =>
      by_cases ek : κ0 = κ
      · subst ek
        simp only [if_true] at h
        obtain ⟨v, ev, o⟩ := slot_own R0 e
        refine ⟨v, ev, by rw [← hT]; cases κ0 <;> exact o.ty, ?_⟩
        refine okae_bind (s E T' io env fp σ H _ R0) h fun ts env1 vs fp1 H1 x1 r1 h1 k1 => ?_
        cases e1 : env1[i]? with
        | none => simp only [e1] at k1; exact k1.elim
        | some sv1 =>
          cases sv1 with
          | no => simp only [e1] at k1; exact k1.elim
          | fz _ => simp only [e1] at k1; exact k1.elim
          | lk _ _ => simp only [e1] at k1; exact k1.elim
          | ow κ1 d1 =>
            cases e2 : frzs ts with
            | none => simp only [e1, e2] at k1; exact k1.elim
            | some ds =>
              simp only [e1, e2] at k1
              by_cases ek1 : κ1 = κ0
              · subst ek1
                simp only [if_true] at k1
                obtain ⟨v', ev', o'⟩ := slot_own r1 e1
                rw [ev] at ev'; cases ev'
                refine hs H1 _ v d1 (fp1 i) vs ds _ r1.hb (AvOk.of r1) o' (fun a z => .inr ⟨i, z⟩) (frzs_reps h1 e2) ?_
                cases e3 : op d1 ds with
                | none => simp only [e3] at k1; exact k1.elim
                | some dr =>
                  obtain ⟨d', res⟩ := dr
                  simp only [e3] at k1
                  intro v' H' m own rep hb
                  obtain ⟨r2, x2⟩ := r1.mut e1 ev m hb own
                  exact k1 v' fp1 H' x2 r2 rep
              · simp only [ek1, if_false] at k1; exact k1.elim
      · simp only [ek, if_false] at h; exact h.elim
theorem sound_mutG {i : Nat} {κ : Kd} {r : V → List V → Hp → VK → Prop} {op : D → List D → Option (D × D)} {t : TA} (hs : MutSG X κ r op) (hT : kdT κ = T) (s : ∀ E T io env fp σ H Q, R (bas X) E T io fp env σ H → OKA (bas X) E T io env fp H σ Q W (cArgs fs env) → t σ H Q)
    {E T' io env fp σ H Q} (R0 : R (bas X) E T' io fp env σ H) (h : OKE (bas X) E T' io env fp H σ Q W (cMutG i κ T op fs env)) : ∃ v, σ[i]? = some (some v) ∧ (tyV X.K T v H ∧ t σ H fun xs H2 => r v xs H2 fun v H' => HB H' → Q v H') := by
  unfold cMutG at h
  cases e : env[i]? with
  | none => rw [e] at h; exact h.elim
  | some sv =>
    rw [e] at h
    cases sv with
    | no => exact h.elim
    | fz _ => exact h.elim
    | lk _ _ => exact h.elim
    | ow κ0 d0 =>
      by_cases ek : κ0 = κ
      · subst ek
        simp only [if_true] at h
        obtain ⟨v, ev, o⟩ := slot_own R0 e
        refine ⟨v, ev, by rw [← hT]; cases κ0 <;> exact o.ty, ?_⟩
        refine okae_bind (s E T' io env fp σ H _ R0) h fun ts env1 vs fp1 H1 x1 r1 h1 k1 => ?_
        cases e1 : env1[i]? with
        | none => simp only [e1] at k1; exact k1.elim
        | some sv1 =>
          cases sv1 with
          | no => simp only [e1] at k1; exact k1.elim
          | fz _ => simp only [e1] at k1; exact k1.elim
          | lk _ _ => simp only [e1] at k1; exact k1.elim
          | ow κ1 d1 =>
            cases e2 : getVs env1 ts with
            | none => simp only [e1, e2] at k1; exact k1.elim
            | some ds =>
              simp only [e1, e2] at k1
              by_cases ek1 : κ1 = κ0
              · subst ek1
                simp only [if_true] at k1
                obtain ⟨v', ev', o'⟩ := slot_own r1 e1
                rw [ev] at ev'; cases ev'
                refine hs H1 _ v d1 (fp1 i) vs ds _ r1.hb (AvOk.of r1) o' (fun a z => .inr ⟨i, z⟩) (getVs_reps r1 h1 e2) ?_
                cases e3 : op d1 ds with
                | none => simp only [e3] at k1; exact k1.elim
                | some dr =>
                  obtain ⟨d', res⟩ := dr
                  simp only [e3] at k1
                  intro v' H' m own rep hb
                  obtain ⟨r2, x2⟩ := r1.mut e1 ev m hb own
                  exact k1 v' fp1 H' x2 r2 rep
              · simp only [ek1, if_false] at k1; exact k1.elim
      · simp only [ek, if_false] at h; exact h.elim
theorem de_mut {i : Nat} {x : Str} {xpos : Pos} {κ : Kd} {r : V → List V → Hp → VK → Prop} {op : D → List D → Option (D × D)} (pa : PlainAttrs T) (slot : Slot T name id) (hty : typeOf (.builtin id) = pure (.type "method_descriptor")) (hm : MtR X id r) (hs : MutS X κ r op) (hT : kdT κ = T)
    (ho : PE X (.Name x xpos) (tVar i)) (ha : DA X W (e :: es) fs)
    (hbase : attributeBase (.Name x xpos) name X.env (eval (.Name x xpos) X.env) = eval (.Name x xpos) X.env := by rfl)
    (hfew : ((backTo cpos (starEach (e :: es) X.env)).all (fun x => !x.1) && (backToKw cpos (keywordEach [] X.env)).all (fun x => x.1.isSome)
      && decide ((e :: es).length + ([] : List Keyword).length + (if ([] : List Keyword).isEmpty then 0 else 1) < 30)) = true := by rfl)
    (hline : (apos.endLine == cpos.line) = true := by rfl) (hst : starEach (e :: es) X.env = (false, eval e X.env) :: starEach es X.env := by rfl) (hplain : (backTo cpos (starEach es X.env)).any (·.1) = false := by rfl) :
    DE X W (.Call (.Attribute (.Name x xpos) name apos) (e :: es) [] cpos) (cMut i κ T op fs) := by
  obtain ⟨t, p, s⟩ := ha.out
  exact .mk ⟨_, peHB (pe_bm pa slot hty hm ho p hbase hfew hline hst hplain), fun E T' io env fp σ H Q R0 h => sound_mut hs hT s R0 h⟩
theorem de_mutG {i : Nat} {x : Str} {xpos : Pos} {κ : Kd} {r : V → List V → Hp → VK → Prop} {op : D → List D → Option (D × D)} (pa : PlainAttrs T) (slot : Slot T name id) (hty : typeOf (.builtin id) = pure (.type "method_descriptor")) (hm : MtR X id r) (hs : MutSG X κ r op) (hT : kdT κ = T)
    (ho : PE X (.Name x xpos) (tVar i)) (ha : DA X W (e :: es) fs)
    (hbase : attributeBase (.Name x xpos) name X.env (eval (.Name x xpos) X.env) = eval (.Name x xpos) X.env := by rfl)
    (hfew : ((backTo cpos (starEach (e :: es) X.env)).all (fun x => !x.1) && (backToKw cpos (keywordEach [] X.env)).all (fun x => x.1.isSome)
      && decide ((e :: es).length + ([] : List Keyword).length + (if ([] : List Keyword).isEmpty then 0 else 1) < 30)) = true := by rfl)
    (hline : (apos.endLine == cpos.line) = true := by rfl) (hst : starEach (e :: es) X.env = (false, eval e X.env) :: starEach es X.env := by rfl) (hplain : (backTo cpos (starEach es X.env)).any (·.1) = false := by rfl) :
    DE X W (.Call (.Attribute (.Name x xpos) name apos) (e :: es) [] cpos) (cMutG i κ T op fs) := by
  obtain ⟨t, p, s⟩ := ha.out
  exact .mk ⟨_, peHB (pe_bm pa slot hty hm ho p hbase hfew hline hst hplain), fun E T' io env fp σ H Q R0 h => sound_mutG hs hT s R0 h⟩
theorem de_mut0 {i : Nat} {x : Str} {xpos : Pos} {κ : Kd} {r : V → List V → Hp → VK → Prop} {op : D → List D → Option (D × D)} (pa : PlainAttrs T) (slot : Slot T name id) (hty : typeOf (.builtin id) = pure (.type "method_descriptor")) (hm : MtR X id r) (hs : MutS X κ r op) (hT : kdT κ = T)
    (ho : PE X (.Name x xpos) (tVar i))
    (hbase : attributeBase (.Name x xpos) name X.env (eval (.Name x xpos) X.env) = eval (.Name x xpos) X.env := by rfl) (hline : (apos.endLine == cpos.line) = true := by rfl) :
    DE X W (.Call (.Attribute (.Name x xpos) name apos) [] [] cpos) (cMut i κ T op []) := by
  refine .mk ⟨_, peHB (pe_bm0 pa slot hty hm ho hbase hline), fun E T' io env fp σ H Q R0 h => ?_⟩
  exact sound_mut (t := tNil) (fs := []) (W := W) hs hT (fun E T io env fp σ H Q R0 h => h [] fp H Ext.refl R0 .nil) R0 h

/-! ### slices -/
def cOpt : Option (M TV) → Env → Res (Option Int)
  | none, env => .ok none env
  | some f, env => (f env).bind fun t env1 => match getV env1 t with
    | some (.int i) => .ok (some i) env1
    | _ => .stuck
def cSl (op : D → Option Int → Option Int → ORes) (fe : M TV) (lo hi : Option (M TV)) : M TV := fun env => (fe env).bind fun t env1 => (cOpt lo env1).bind fun l env2 => (cOpt hi env2).bind fun u env3 => match getV env3 t with
  | some d => fin (op d l u) env3
  | none => .stuck
def OpSS (X : Cx) (r : V → Option Int → Option Int → Hp → VK → Prop) (op : D → Option Int → Option Int → ORes) : Prop := ∀ H av x d l u Q, HB H → AvOk H av → Rep1 (bas X) H av x d → OpQ (bas X) H av Q (op d l u) → r x l u H Q
def OKO (B : Bas) (E T : Addr → Prop) (io : Option V) (env : Env) (fp : Nat → Addr → Prop) (H : Hp) (σ : L2.St) (Q : Option Int → Hp → Prop) (W : WX) : Res (Option Int) → Prop
  | .ok i env' => ∀ fp' H', Ext env fp H env' fp' H' → R B E T io fp' env' σ H' → Q i H'
  | .ex e env' => ∀ cls dx fp' H', Ext env fp H env' fp' H' → R B E T io fp' env' σ H' → ExR B H' (avOf T fp') e cls dx → W cls dx σ H'
  | .stuck => False
def DO (X : Cx) (W : WX) (e : Option Expr) (f : Option (M TV)) : Prop := ∃ t, PO X e t ∧ ∀ E T io env fp σ H Q, R (bas X) E T io fp env σ H → OKO (bas X) E T io env fp H σ Q W (cOpt f env) → t σ H Q
theorem do_none : DO X W none none := ⟨_, po_none, fun E T io env fp σ H Q r h => h fp H Ext.refl r⟩
theorem do_some (he : DE X W e f) : DO X W (some e) (some f) := by
  obtain ⟨t, p, s⟩ := he.out
  refine ⟨_, po_some p, fun E T io env fp σ H Q r h => ?_⟩
  refine s E T io env fp σ H _ r ?_
  simp only [cOpt] at h
  cases e1 : f env with
  | stuck => rw [e1] at h; exact h
  | ex x env' => rw [e1] at h; exact h
  | ok tv env' =>
    rw [e1] at h
    refine oke_hold fun v fp' H' x r' hh => ?_
    simp only [Res.bind] at h
    cases g : getV env' tv with
    | none => simp only [g] at h; exact h.elim
    | some d =>
      simp only [g] at h
      have p := hh.get r' g
      cases d with
      | int i => exact ⟨i, rep1_int p, h fp' H' x r'⟩
      | _ => exact h.elim
theorem OKO.after {B : Bas} {E T : Addr → Prop} {io : Option V} {env env1 : Env} {fp fp1 : Nat → Addr → Prop} {σ : L2.St} {H H1 : Hp} {Q : Option Int → Hp → Prop} (x : Ext env fp H env1 fp1 H1) {r : Res (Option Int)} (h : OKO B E T io env fp H σ Q W r) : OKO B E T io env1 fp1 H1 σ Q W r := by
  cases r with
  | stuck => exact h
  | ex e env' => exact fun cls dx fp' H' y => h cls dx fp' H' (x.trans y)
  | ok b env' => exact fun fp' H' y => h fp' H' (x.trans y)
theorem okoe_bind {B : Bas} {E T : Addr → Prop} {io : Option V} {env : Env} {fp : Nat → Addr → Prop} {σ : L2.St} {H : Hp} {G : Prop} {r : Res (Option Int)} {k : Option Int → M TV} {Q : VK} {Qo : Option Int → Hp → Prop} (hs : OKO B E T io env fp H σ Qo W r → G)
    (h : OKE B E T io env fp H σ Q W (r.bind k)) (hk : ∀ i env' fp' H', Ext env fp H env' fp' H' → R B E T io fp' env' σ H' → OKE B E T io env' fp' H' σ Q W (k i env') → Qo i H') : G := by
  refine hs ?_
  cases e : r with
  | stuck => rw [e] at h; exact h
  | ex x env' => rw [e] at h; exact h
  | ok i env' => rw [e] at h; exact fun fp' H' x r => hk i env' fp' H' x r (OKE.after x h)
theorem de_slice {lo hi : Option Expr} {flo fhi : Option (M TV)} {p2 : Pos} {r : V → Option Int → Option Int → Hp → VK → Prop} {op : D → Option Int → Option Int → ORes} (hr : SlR X r) (hs : OpSS X r op) (he : DE X W e f) (hl : DO X W lo flo) (hu : DO X W hi fhi) :
    DE X W (.Subscript e (.Slice lo hi none p2) pos) (cSl op f flo fhi) := by
  obtain ⟨t, p, s⟩ := he.out
  obtain ⟨tl, pl, sl⟩ := hl
  obtain ⟨tu, pu, su⟩ := hu
  refine .mk ⟨_, peHB (pe_slice hr p pl pu), fun E T io env fp σ H Q R0 h => ?_⟩
  refine oke_bind (f := f) (s E T io env fp σ H _ R0) h fun t1 env1 v1 fp1 H1 x1 r1 h1 k1 => ?_
  refine okoe_bind (sl E T io env1 fp1 σ H1 _ r1) k1 fun l env2 fp2 H2 x2 r2 k2 => ?_
  refine okoe_bind (su E T io env2 fp2 σ H2 _ r2) k2 fun u env3 fp3 H3 x3 r3 k3 => ?_
  have h3 := (h1.ext x2).ext x3
  cases g : getV env3 t1 with
  | none => simp only [g] at k3; exact k3.elim
  | some d =>
    simp only [g] at k3
    exact hs H3 _ v1 d l u _ r3.hb (AvOk.of r3) (h3.get r3 g) (oke_fin r3 k3)
end
end VL
namespace VL
open PySem PySem.Spec PyProof.Rows L2
variable [tt : TabList]

/-! ### targets: nio says that slot 0 is free to be set (the def has no inout parameter) -/
def TGt := D → Env → Option Env
def gName' (nio : Bool) (i : Nat) : D → Env → Option Env := fun d env => if i < env.length ∧ (i ≠ 0 ∨ nio = true) then some (env.set i (.fz d)) else none
def gNil' : List D → Env → Option Env
  | [], env => some env
  | _, _ => none
def gCons' (g : D → Env → Option Env) (gs : List D → Env → Option Env) : List D → Env → Option Env
  | d :: ds, env => (g d env).bind (gs ds)
  | [], _ => none
def gTup' (gs : List D → Env → Option Env) : D → Env → Option Env
  | .tup ds, env => gs ds env
  | _, _ => none
def NioOk (nio : Bool) (io : Option V) : Prop := nio = true → io = none
def StBut (tv : List Nat) (σ σ' : L2.St) : Prop := σ'.length = σ.length ∧ ∀ j, j ∉ tv → σ'[j]? = σ[j]?
theorem StBut.refl {tv : List Nat} {σ : L2.St} : StBut tv σ σ := ⟨rfl, fun _ _ => rfl⟩
def cG (B : Bas) (nio : Bool) (tv : List Nat) (g : D → Env → Option Env) : TG := fun v σ H Q => ∃ E T io env fp d env', NioOk nio io ∧ R B E T io fp env σ H ∧ Rep B H (avOf T fp) v d ∧ g d env = some env' ∧
  ∀ σ' fp', StBut tv σ σ' → R B E T io fp' env' σ' H → Ext env fp H env' fp' H → Q σ' H
def DG (X : Cx) (nio : Bool) (tv : List Nat) (tg : Expr) (g : D → Env → Option Env) : Prop := PG X tg (cG (bas X) nio tv g)
def cGs (B : Bas) (nio : Bool) (tv : List Nat) (g : List D → Env → Option Env) : TGs := fun vs σ H Q => ∃ E T io env fp ds env', NioOk nio io ∧ R B E T io fp env σ H ∧ Reps B H (avOf T fp) vs ds ∧ g ds env = some env' ∧
  ∀ σ' fp', StBut tv σ σ' → R B E T io fp' env' σ' H → Ext env fp H env' fp' H → Q σ' H
def DGs (X : Cx) (nio : Bool) (tv : List Nat) (tg : List Expr) (g : List D → Env → Option Env) : Prop := PGs X tg (cGs (bas X) nio tv g)
section
variable {B : Bas} {E T : Addr → Prop} {io : Option V} {env : Env} {fp : Nat → Addr → Prop} {σ : L2.St} {H : Hp}
/-- a slot is set to a frozen value, by assignment -/
theorem R.setFz {nio : Bool} {i : Nat} {d : D} {v : V} (hn : NioOk nio io) (r : R B E T io fp env σ H) (hi : i < env.length) (h0 : i ≠ 0 ∨ nio = true) (p : Rep B H (avOf T fp) v d) :
    R B E T io (setF fp i fun _ => False) (env.set i (.fz d)) (σ.set i (some v)) H ∧ Ext env fp H (env.set i (.fz d)) (setF fp i fun _ => False) H := by
  have hl : i < σ.length := by rw [← r.len]; exact hi
  have hav : ∀ a, avOf T (setF fp i fun _ => False) a → avOf T fp a := fun a z => by
    rcases z with z | ⟨j, z⟩
    · exact .inl z
    · by_cases hj : j = i
      · subst hj; rw [setF_same] at z; exact z.elim
      · rw [setF_ne hj] at z; exact .inr ⟨j, z⟩
  refine ⟨r.put hi (fun _ z => z) (fun a z => z.elim) (fun a z => z.elim) (fun a z => z.elim) (fun a z => z.elim) (fun a o _ e _ => e) (fun _ _ z => z) (fun a o e q => ⟨o, e, q⟩) (fun _ z => z) (by rw [List.length_set])
    (fun j hj => by rw [List.getElem?_set_ne (Ne.symm hj)]) (List.getElem?_set_self hl) (fun v' e => ?_) r.hb ⟨⟨v, rfl, p.weak hav⟩, fun _ z => z⟩, Ext.put (fun a z => z.elim) (fun a o _ e _ => e) (fun _ _ z => z) (fun a o e q => ⟨o, e, q⟩) fun _ z => z⟩
  rcases h0 with h0 | h0
  · rw [List.getElem?_set_ne h0]; exact r.io0 v' e
  · rw [hn h0] at e; cases e
end
section
variable {X : Cx} {pos : Pos} {nio : Bool}
theorem dg_name {i : Nat} {x : Str} (h : PG X (.Name x pos) (gName i)) : DG X nio [i] (.Name x pos) (gName' nio i) := by
  refine ⟨fun pins s σ H v u Q I rv h' => ?_⟩
  obtain ⟨E, T, io, env, fp, d, env', hn, r, p, e, k⟩ := h'
  unfold gName' at e
  split at e
  · rename_i hc
    cases e
    obtain ⟨r', x'⟩ := r.setFz hn hc.1 hc.2 p
    exact h.run pins s σ H v u Q I rv (k _ _ ⟨by rw [List.length_set], fun j hj => by rw [List.getElem?_set_ne (fun e => hj (by rw [e]; exact List.mem_singleton.mpr rfl))]⟩ r' x')
  · cases e
theorem dgs_nil : DGs X nio [] [] gNil' := by
  refine ⟨fun pins s σ H vs us Q I rv h' => ?_⟩
  obtain ⟨E, T, io, env, fp, ds, env', hn, r, p, e, k⟩ := h'
  cases p with
  | nil =>
    have e' : env = env' := Option.some.inj e
    subst e'
    exact pgs_nil.run pins s σ H [] us Q I rv ⟨rfl, k σ fp StBut.refl r Ext.refl⟩
  | cons _ _ => cases e
theorem dgs_cons {e : Expr} {es : List Expr} {g : D → Env → Option Env} {gs : List D → Env → Option Env} {tv tw : List Nat} (h1 : DG X nio tv e g) (h2 : DGs X nio tw es gs)
    (hs : (assignEach (e :: es) X.env).map (·.2) = assign e X.env :: (assignEach es X.env).map (·.2) := by rfl) : DGs X nio (tv ++ tw) (e :: es) (gCons' g gs) := by
  refine ⟨fun pins s σ H vs us Q I rv h' => ?_⟩
  obtain ⟨E, T, io, env, fp, ds, env', hn, r, p, e, k⟩ := h'
  cases p with
  | nil => cases e
  | @cons v vs d ds p1 p2 =>
    cases e1 : g d env with
    | none => rw [show gCons' g gs (d :: ds) env = (g d env).bind (gs ds) from rfl, e1] at e; cases e
    | some env1 =>
      rw [show gCons' g gs (d :: ds) env = (g d env).bind (gs ds) from rfl, e1] at e
      refine (pgs_cons h1 h2 hs).run pins s σ H (v :: vs) us Q I rv ⟨v, vs, rfl, ?_⟩
      refine ⟨E, T, io, env, fp, d, env1, hn, r, p1, e1, fun σ1 fp1 b1 r1 x1 => ?_⟩
      have p2' : Reps (bas X) H (avOf T fp1) vs ds := p2.weak fun a z => by
        rcases z with z | ⟨i, z⟩
        · exact .inl z
        · obtain ⟨j, z', _⟩ := x1.sub i a z (r1.avH (.inr ⟨i, z⟩)); exact .inr ⟨j, z'⟩
      exact ⟨E, T, io, env1, fp1, ds, env', hn, r1, p2', e, fun σ2 fp2 b2 r2 x2 => k σ2 fp2 ⟨b2.1.trans b1.1, fun j hj => (b2.2 j fun z => hj (List.mem_append_right _ z)).trans (b1.2 j fun z => hj (List.mem_append_left _ z))⟩ r2 (x1.trans x2)⟩
theorem dg_tup {es : List Expr} {k : Nat} {gs : List D → Env → Option Env} {n : Nat} {tv : List Nat} (hc : X.calm = true) (h : DGs X nio tv es gs) (hgl : ∀ ds env env', gs ds env = some env' → ds.length = n)
    (hn : (assignEach es X.env).length = n := by rfl) (hst : (assignEach es X.env).findIdx? (·.1) = none := by rfl) : DG X nio tv (.Tuple es k pos) (gTup' gs) := by
  refine ⟨fun pins s σ H v u Q I rv h' => ?_⟩
  obtain ⟨E, T, io, env, fp, d, env', hno, r, p, e, kk⟩ := h'
  cases d with
  | tup ds =>
    have e : gs ds env = some env' := e
    have p1 := p.one
    cases p1 with
    | tup q1 q2 => exact (pg_tup hc h hn hst).run pins s σ H _ u Q I rv ⟨_, _, rfl, .inl (.inl q1), by rw [q2.length]; exact hgl _ _ _ e, E, T, io, env, fp, ds, env', hno, r, q2, e, kk⟩
  | _ => cases e
theorem gNil_len {ds : List D} {env env' : Env} (h : gNil' ds env = some env') : ds.length = 0 := by cases ds with
  | nil => rfl
  | cons _ _ => cases h
theorem gCons_len {g : D → Env → Option Env} {gs : List D → Env → Option Env} {n : Nat} (hg : ∀ ds env env', gs ds env = some env' → ds.length = n) (ds : List D) (env env' : Env) (h : gCons' g gs ds env = some env') : ds.length = n + 1 := by
  cases ds with
  | nil => cases h
  | cons d ds =>
    have h : (g d env).bind (gs ds) = some env' := h
    cases e : g d env with
    | none => rw [e] at h; cases h
    | some e1 => rw [e] at h; rw [List.length_cons, hg _ _ _ h]
end

/-! ### what is walked -/
def lockE : Option Nat → Env → Env
  | none, env => env
  | some i, env => match env[i]? with
    | some (.lk κ d) => env.set i (.ow κ d)
    | _ => env
structure ItOk (B : Bas) (T : Addr → Prop) (env1 : Env) (fp1 : Nat → Addr → Prop) (H1 : Hp) (J : It) (items : List D) : Prop where
  go : ∀ envt fpt Ht i, Ext env1 fp1 H1 envt fpt Ht → HB Ht → i < items.length → J.go i Ht
  yld : ∀ envt fpt Ht i d x H' T2, Ext env1 fp1 H1 envt fpt Ht → HB Ht → (∀ a, T2 a → avOf T fp1 a ∨ H1 a = none) → AvOk Ht (avOf T2 fpt) → items[i]? = some d → J.yld i Ht x H' → Grow Ht H' ∧ HB H' ∧ Rep B H' (avOf T2 fpt) x d
  stop : ∀ envt fpt Ht i, Ext env1 fp1 H1 envt fpt Ht → HB Ht → items.length = i → J.stop i Ht
def OKI (B : Bas) (E T : Addr → Prop) (io : Option V) (env : Env) (fp : Nat → Addr → Prop) (H : Hp) (σ : L2.St) (Rw : It → Hp → Prop) (W : WX) : Res (List D × Option Nat) → Prop
  | .ok (items, lk) env' => ∀ J fp' H', Ext env fp H env' fp' H' → (∀ i, lk = some i → ¬ Lk env i) → R B E T io fp' env' σ H' → ItOk B T env' fp' H' J items → items.length ≤ sizeLine → Rw J H'
  | .ex e env' => ∀ cls dx fp' H', Ext env fp H env' fp' H' → R B E T io fp' env' σ H' → ExR B H' (avOf T fp') e cls dx → W cls dx σ H'
  | .stuck => False
def cI (B : Bas) (W : WX) (f : M (List D × Option Nat)) : TI := fun σ H Rw => ∃ E T io env fp, R B E T io fp env σ H ∧ OKI B E T io env fp H σ Rw W (f env)
def DI (X : Cx) (W : WX) (tg iter : Expr) (f : M (List D × Option Nat)) : Prop := PI X tg iter (cI (bas X) W f)

/-- a list or a tuple -/
def iSeq (K : PySem.W.Frag) (tl : TE) : TI := fun σ H R => tl σ H fun x H1 => ∃ a, x = .ref a ∧ (((∃ xs, SqL K H1 a xs) ∧ R (Itl K a) H1) ∨ ((∃ xs, SqT K H1 a xs) ∧ R (Itt K a) H1))
theorem pi_seq {X : Cx} {tg l : Expr} {tl : TE} (hl : PE X l tl) : PI X tg l (iSeq X.K tl) := by
  refine ⟨fun pins s σ H R I h => ?_⟩
  refine thn (hl.run pins s σ H _ I h) fun v s1 ⟨x, H1, I1, r1, q1⟩ => ?_
  obtain ⟨a, e, q⟩ := q1
  subst e
  cases r1
  have key : ∀ b ∈ [s1.heap.objs.size], FpOk X pins H1 b := fun b hb => by
    have e : b = s1.heap.objs.size := by simpa using hb
    subst e
    exact I1.fpOk (Nat.le_refl _) (I1.hok.fresh (Nat.le_refl _))
  rcases q with ⟨⟨xs, hq⟩, q⟩ | ⟨⟨xs, hq⟩, q⟩
  · obtain ⟨its, rv, p, hz⟩ := I1.list hq
    refine wpAny_pyIter_list p.isList ?_
    exact ⟨s1.heap.objs.size, [s1.heap.objs.size], _, _, H1, rfl, I1.kept (t' := s1.toks) fun b o e => Heap.get?_push_of_some _ e, turn_list a _, ⟨_, Heap.get?_push_size _ rfl, rfl, rfl⟩, key, q⟩
  · obtain ⟨its, rv, p, hz⟩ := I1.tuple hq
    refine wpAny_pyIter_tuple (show s1.heap.IsTuple a its.toArray from p) ?_
    exact ⟨s1.heap.objs.size, [s1.heap.objs.size], _, _, H1, rfl, I1.kept (t' := s1.toks) fun b o e => Heap.get?_push_of_some _ e, turn_tuple a _, ⟨_, Heap.get?_push_size _ rfl, rfl, rfl⟩, key, q⟩
def itemsOf : D → Option (List D)
  | .lst ds => some ds
  | .tup ds => some ds
  | _ => none
/-- the items of a value; what a slot owns is locked -/
def cSeq (f : M TV) : M (List D × Option Nat) := fun env => (f env).bind fun t env1 => match t with
  | .fz d => match itemsOf d with
    | some ds => .ok (ds, none) env1
    | none => .stuck
  | .ow _ d => match itemsOf d with
    | some ds => .ok (ds, none) env1
    | none => .stuck
  | .sl i => match env1[i]? with
    | some (.ow .l d) => match itemsOf d, env[i]? with
      | some ds, some (.ow _ _) => .ok (ds, some i) (env1.set i (.lk .l d))
      | _, _ => .stuck
    | some (.lk .l d) => match itemsOf d with
      | some ds => .ok (ds, none) env1
      | none => .stuck
    | _ => .stuck
section
variable {B : Bas} {E T : Addr → Prop} {io : Option V} {env env1 : Env} {fp fp1 : Nat → Addr → Prop} {σ : L2.St} {H H1 : Hp} {W : WX} {Rw : It → Hp → Prop}
theorem OKI.after (x : Ext env fp H env1 fp1 H1) (hl : ∀ i, Lk env i → Lk env1 i) {r : Res (List D × Option Nat)} (h : OKI B E T io env fp H σ Rw W r) : OKI B E T io env1 fp1 H1 σ Rw W r := by
  cases r with
  | stuck => exact h
  | ex e env' => exact fun cls dx fp' H' y => h cls dx fp' H' (x.trans y)
  | ok b env' => exact fun J fp' H' y l => h J fp' H' (x.trans y) fun i e z => l i e (hl i z)
theorem Ext.rep {env1 envt : Env} {fp1 fpt : Nat → Addr → Prop} {H1 Ht : Hp} (x : Ext env1 fp1 H1 envt fpt Ht) {v : V} {d : D} (h : Rep B H1 (avOf T fp1) v d) : Rep B Ht (avOf T fpt) v d := Hold.ext (σ := []) (tv := .fz d) x h
theorem Ext.reps {env1 envt : Env} {fp1 fpt : Nat → Addr → Prop} {H1 Ht : Hp} (x : Ext env1 fp1 H1 envt fpt Ht) : ∀ {vs : List V} {ds : List D}, Reps B H1 (avOf T fp1) vs ds → Reps B Ht (avOf T fpt) vs ds
  | _, _, .nil => .nil
  | _, _, .cons h t => .cons (x.rep h) (Ext.reps x t)
theorem Ext.rep2 {env1 envt : Env} {fp1 fpt : Nat → Addr → Prop} {H1 Ht : Hp} {T2 : Addr → Prop} (x : Ext env1 fp1 H1 envt fpt Ht) (hT : ∀ a, T2 a → avOf T fp1 a ∨ H1 a = none) {v : V} {d : D} (h : Rep B H1 (avOf T fp1) v d) : Rep B Ht (avOf T2 fpt) v d :=
  h.mono (fun a o nt e n => x.chg a o nt e fun i z => absurd (.inr ⟨i, z⟩) n) fun a z => by
    rcases z with z | ⟨i, z⟩
    · exact hT a z
    · cases q : H1 a with
      | none => exact .inr rfl
      | some o =>
        obtain ⟨j, z', _⟩ := x.sub i a z (by rw [q]; exact fun z => nomatch z)
        exact .inl (.inr ⟨j, z'⟩)
theorem Ext.reps2 {env1 envt : Env} {fp1 fpt : Nat → Addr → Prop} {H1 Ht : Hp} {T2 : Addr → Prop} (x : Ext env1 fp1 H1 envt fpt Ht) (hT : ∀ a, T2 a → avOf T fp1 a ∨ H1 a = none) : ∀ {vs : List V} {ds : List D}, Reps B H1 (avOf T fp1) vs ds → Reps B Ht (avOf T2 fpt) vs ds
  | _, _, .nil => .nil
  | _, _, .cons h t => .cons (x.rep2 hT h) (Ext.reps2 x hT t)
theorem SqL.inj {X : Bas} {K : PySem.W.Frag} {H : Hp} {a : Addr} {xs ys : List V} (h : Rd H a (.lst xs)) (h' : Rd H a (.lst ys)) : xs = ys := by
  rcases h with h | ⟨o, h⟩ <;> rcases h' with h' | ⟨o', h'⟩ <;> rw [h] at h' <;> cases h' <;> rfl
/-- the walk of a list whose cell stays -/
theorem itok_list {a : Addr} {vs : List V} {ds : List D} (st : ∀ envt fpt Ht, Ext env1 fp1 H1 envt fpt Ht → SqL B.K Ht a vs) (rs : Reps B H1 (avOf T fp1) vs ds) : ItOk B T env1 fp1 H1 (Itl B.K a) ds where
  go := fun envt fpt Ht i x hb hi => ⟨vs, vs[i]'(by rw [rs.length]; exact hi), st _ _ _ x, by simp [rs.length, hi]⟩
  yld := fun envt fpt Ht i d y H' T2 x hb hT _ hd ⟨e, hy⟩ => by
    subst e
    refine ⟨fun _ _ e => e, hb, ?_⟩
    have h1 := hy vs (st _ _ _ x)
    obtain ⟨d', e1, p⟩ := (x.reps2 hT rs).get h1
    rw [hd] at e1; cases e1
    exact p
  stop := fun envt fpt Ht i x hb hi => ⟨vs, st _ _ _ x, by rw [rs.length]; exact Nat.le_of_eq hi⟩
theorem itok_tup {a : Addr} {vs : List V} {ds : List D} (st : ∀ envt fpt Ht, Ext env1 fp1 H1 envt fpt Ht → SqT B.K Ht a vs) (rs : Reps B H1 (avOf T fp1) vs ds) : ItOk B T env1 fp1 H1 (Itt B.K a) ds where
  go := fun envt fpt Ht i x hb hi => ⟨vs, vs[i]'(by rw [rs.length]; exact hi), st _ _ _ x, by simp [rs.length, hi]⟩
  yld := fun envt fpt Ht i d y H' T2 x hb hT _ hd ⟨e, hy⟩ => by
    subst e
    refine ⟨fun _ _ e => e, hb, ?_⟩
    have h1 := hy vs (st _ _ _ x)
    obtain ⟨d', e1, p⟩ := (x.reps2 hT rs).get h1
    rw [hd] at e1; cases e1
    exact p
  stop := fun envt fpt Ht i x hb hi => ⟨vs, st _ _ _ x, by rw [rs.length]; exact Nat.le_of_eq hi⟩
theorem seq_fz (r : R B E T io fp env σ H) {v : V} {d : D} {ds : List D} (p : Rep B H (avOf T fp) v d) (e : itemsOf d = some ds) (k : OKI B E T io env fp H σ Rw W (.ok (ds, none) env)) :
    ∃ a, v = .ref a ∧ (((∃ xs, SqL B.K H a xs) ∧ Rw (Itl B.K a) H) ∨ ((∃ xs, SqT B.K H a xs) ∧ Rw (Itt B.K a) H)) := by
  have keep : ∀ {a : Addr} {u : HO}, isNT u = true → Rd H a u → ¬ avOf T fp a → ∀ envt fpt Ht, Ext env fp H envt fpt Ht → Rd Ht a u := fun hu h1 h2 envt fpt Ht x => rd_keep (fun o nt e => x.chg _ o nt e fun i z => absurd (.inr ⟨i, z⟩) h2) h1 hu
  cases d with
  | lst ds' =>
    cases e
    cases p with
    | @lst a vs _ h1 h2 h3 => exact ⟨a, rfl, .inl ⟨⟨vs, .inl h1⟩, k _ fp H Ext.refl (fun _ e => nomatch e) r (itok_list (fun envt fpt Ht x => .inl (keep rfl h1 h2 envt fpt Ht x)) h3) (by rw [← h3.length]; exact r.hb _ _ (.inl h1))⟩⟩
  | tup ds' =>
    cases e
    cases p with
    | @tup a vs _ h1 h2 h3 => exact ⟨a, rfl, .inr ⟨⟨vs, .inl (.inl h1)⟩, k _ fp H Ext.refl (fun _ e => nomatch e) r (itok_tup (fun envt fpt Ht x => .inl (keep rfl (.inl h1) h2 envt fpt Ht x)) h3) (by rw [← h3.length]; exact r.hb _ _ (.inr (.inl h1)))⟩⟩
  | _ => cases e
/-- a slot locked -/
theorem R.lock {i : Nat} {κ : Kd} {d : D} (r : R B E T io fp env σ H) (e : env[i]? = some (.ow κ d)) : R B E T io fp (env.set i (.lk κ d)) σ H ∧ Ext env fp H (env.set i (.lk κ d)) fp H := by
  have hi := (List.getElem?_eq_some_iff.mp e).1
  have l := unlk e (fun _ _ z => nomatch z)
  refine ⟨⟨by rw [List.length_set]; exact r.len, fun j sv x h1 h2 => ?_, fun j a z => by rw [List.length_set]; exact r.out j a z, r.dis, r.offT, r.all, r.new, r.io0, r.old, r.hb, r.tabs⟩, fun a o _ e _ => e, fun j a z _ => ⟨j, z, fun l' => ⟨rfl, ?_⟩⟩, fun _ z => z, fun a o e q => ⟨o, e, q⟩, fun _ _ z => z⟩
  · by_cases hj : j = i
    · subst hj
      rw [List.getElem?_set_self hi] at h1; cases h1
      have q := r.slot j (.ow κ d) x e h2
      exact q
    · rw [List.getElem?_set_ne (Ne.symm hj)] at h1; exact r.slot j sv x h1 h2
  · refine lk_keep (fun hj => l (by rw [← hj]; exact l')) l'
theorem R.unlock {lk : Option Nat} (r : R B E T io fp env σ H) : R B E T io fp (lockE lk env) σ H := by
  cases lk with
  | none => exact r
  | some i =>
    unfold lockE
    dsimp only
    split
    · rename_i κ d e
      have hi := (List.getElem?_eq_some_iff.mp e).1
      refine ⟨by rw [List.length_set]; exact r.len, fun j sv x h1 h2 => ?_, fun j a z => by rw [List.length_set]; exact r.out j a z, r.dis, r.offT, r.all, r.new, r.io0, r.old, r.hb, r.tabs⟩
      by_cases hj : j = i
      · subst hj
        rw [List.getElem?_set_self hi] at h1; cases h1
        have q := r.slot j (.lk κ d) x e h2
        exact q
      · rw [List.getElem?_set_ne (Ne.symm hj)] at h1; exact r.slot j sv x h1 h2
    · exact r
theorem Ext.unlock {lk : Option Nat} {env2 : Env} {fp2 : Nat → Addr → Prop} {H2 : Hp} (x : Ext env fp H env2 fp2 H2) (hl : ∀ i, lk = some i → ¬ Lk env i) : Ext env fp H (lockE lk env2) fp2 H2 := by
  cases lk with
  | none => exact x
  | some i =>
    unfold lockE
    dsimp only
    split
    · rename_i κ d e
      refine ⟨x.chg, fun j a z hx => ?_, x.dom, x.typ, x.tab⟩
      obtain ⟨k, z1, z2⟩ := x.sub j a z hx
      refine ⟨k, z1, fun l => ?_⟩
      obtain ⟨e1, l2⟩ := z2 l
      refine ⟨e1, lk_keep (fun hj => hl i rfl ?_) l2⟩
      rw [← hj, e1]; exact l
    · exact x
end
section
variable {X : Cx} {W : WX} {tg l : Expr} {f : M TV}
theorem di_seq (hl : DE X W l f) : DI X W tg l (cSeq f) := by
  obtain ⟨t, p, s⟩ := hl.out
  refine ⟨fun pins sh σ H Rw I ⟨E, T, io, env, fp, R0, h⟩ => (pi_seq (tg := tg) p).run pins sh σ H Rw I ?_⟩
  refine s E T io env fp σ H _ R0 ?_
  unfold cSeq at h
  cases e1 : f env with
  | stuck => rw [e1] at h; exact h
  | ex x env' => rw [e1] at h; exact h
  | ok tv env1 =>
    rw [e1] at h
    simp only [Res.bind] at h
    refine oke_hold fun v fp1 H1 x1 r1 h1 => ?_
    cases tv with
    | fz d =>
      simp only at h
      cases e : itemsOf d with
      | none => simp only [e] at h; exact h.elim
      | some ds =>
        simp only [e] at h
        exact seq_fz (W := W) r1 h1 e (fun J fp' H' y l => h J fp' H' (x1.trans y) fun _ e => nomatch e)
    | ow κ d =>
      simp only at h
      cases e : itemsOf d with
      | none => simp only [e] at h; exact h.elim
      | some ds =>
        simp only [e] at h
        exact seq_fz (W := W) r1 h1 e (fun J fp' H' y l => h J fp' H' (x1.trans y) fun _ e => nomatch e)
    | sl i =>
      simp only at h
      have ev : σ[i]? = some (some v) := h1
      cases e : env1[i]? with
      | none => simp only [e] at h; exact h.elim
      | some sv =>
        cases sv with
        | no => simp only [e] at h; exact h.elim
        | fz d => simp only [e] at h; exact h.elim
        | ow κ d =>
          cases κ with
          | l =>
            simp only [e] at h
            obtain ⟨v', ev', o⟩ := slot_own r1 e
            rw [ev] at ev'; cases ev'
            obtain ⟨a, vs, ds, rfl, rfl, ha, rs, hf⟩ := o
            simp only [itemsOf] at h
            obtain ⟨r2, x2⟩ := r1.lock e
            have hi := (List.getElem?_eq_some_iff.mp e).1
            cases e0 : env[i]? with
            | none => simp only [e0] at h; exact h.elim
            | some sv0 =>
            cases sv0 with
            | no => simp only [e0] at h; exact h.elim
            | fz _ => simp only [e0] at h; exact h.elim
            | lk _ _ => simp only [e0] at h; exact h.elim
            | ow κ0 d0 =>
            simp only [e0] at h
            have nl : ¬ Lk env i := unlk e0 (fun _ _ z => nomatch z)
            refine ⟨a, rfl, .inl ⟨⟨vs, .inl (.inl ha)⟩, h _ fp1 H1 (x1.trans x2) (fun j ej => by cases ej; exact nl) r2 (itok_list (fun envt fpt Ht x => .inl (.inl (x.chg a _ (nt_of rfl) ha fun j z => ?_))) rs) (by rw [← rs.length]; exact r1.hb _ _ (.inl (.inl ha)))⟩⟩
            have hj : j = i := r1.dis j i a z (by rw [hf])
            subst hj
            exact ⟨.l, .lst ds, List.getElem?_set_self hi⟩
          | l2 => simp only [e] at h; exact h.elim
          | m => simp only [e] at h; exact h.elim
          | dk => simp only [e] at h; exact h.elim
          | dt => simp only [e] at h; exact h.elim
        | lk κ d =>
          cases κ with
          | l =>
            simp only [e] at h
            have hl : i < σ.length := by rw [← r1.len]; exact (List.getElem?_eq_some_iff.mp e).1
            obtain ⟨v', ev', o⟩ := r1.slot i _ _ e (List.getElem?_eq_getElem hl)
            rw [List.getElem?_eq_getElem hl] at ev
            rw [Option.some.inj ev] at ev'
            cases ev'
            obtain ⟨a, vs, ds, rfl, rfl, ha, rs, hf⟩ := o
            simp only [itemsOf] at h
            refine ⟨a, rfl, .inl ⟨⟨vs, .inl (.inl ha)⟩, h _ fp1 H1 x1 (fun _ e => nomatch e) r1 (itok_list (fun envt fpt Ht x => .inl (.inl (x.chg a _ (nt_of rfl) ha fun j z => ?_))) rs) (by rw [← rs.length]; exact r1.hb _ _ (.inl (.inl ha)))⟩⟩
            have hj : j = i := r1.dis j i a z (by rw [hf])
            subst hj
            exact ⟨.l, .lst ds, e⟩
          | l2 => simp only [e] at h; exact h.elim
          | m => simp only [e] at h; exact h.elim
          | dk => simp only [e] at h; exact h.elim
          | dt => simp only [e] at h; exact h.elim
end
end VL
namespace VL
open PySem PySem.Spec PyProof.Rows L2
variable [tt : TabList]

/-! ### comprehensions -/
abbrev W0 : WX := fun _ _ _ _ => False
def Res.bindN {α β : Type} : Res α → (α → Env → Res β) → Res β
  | .ok a env, k => k a env
  | _, _ => .stuck
def wipeE : List Nat → Env → Env
  | [], env => env
  | v :: vs, env => (wipeE vs env).set v .no
/-- the saved slots come back -/
def restE (own : List Nat) (env0 env : Env) : Env := env.mapIdx fun i sv => if i ∈ own then env0.getD i .no else sv
def ownOk (own : List Nat) (env : Env) : Bool := own.all fun v => v != 0 && (match env[v]? with | some .no => true | some (.fz _) => true | _ => false)
def compL (gd : D → Env → Option Env) (ft : M Bool) (fe : M TV) (own : List Nat) : List D → Env → Res (List D)
  | [], env => .ok [] env
  | d :: ds, env => if ownOk own env then match gd d (wipeE own env) with
      | none => .stuck
      | some e1 => (ft e1).bindN fun b e2 => if b then (fe e2).bindN fun t e3 => match frzV t with
            | some y => (compL gd ft fe own ds (restE own env e3)).bindN fun ys e4 => .ok (y :: ys) e4
            | none => .stuck
          else compL gd ft fe own ds (restE own env e2)
    else .stuck
def cComp (own : List Nat) (fi : M (List D × Option Nat)) (gd : D → Env → Option Env) (ft : M Bool) (fe : M TV) : M TV := fun env => (fi env).bind fun (items, lk) env1 =>
  (compL gd ft fe own items env1).bindN fun ys env2 => .ok (.ow .l (.lst ys)) (lockE lk env2)

section
variable {B : Bas} {E T : Addr → Prop} {io : Option V} {env env0 env1 : Env} {fp fp1 : Nat → Addr → Prop} {σ σ2 : L2.St} {H H1 : Hp} {own : List Nat}
theorem wipeE_length : ∀ (vs : List Nat) (env : Env), (wipeE vs env).length = env.length
  | [], _ => rfl
  | v :: vs, env => by unfold wipeE; rw [List.length_set, wipeE_length vs env]
theorem wipeE_get : ∀ (vs : List Nat) (env : Env) (i : Nat), (wipeE vs env)[i]? = if i ∈ vs then (if i < env.length then some .no else none) else env[i]?
  | [], env, i => by simp [wipeE]
  | v :: vs, env, i => by
    unfold wipeE
    by_cases h : v = i
    · subst h
      by_cases hl : v < env.length
      · rw [List.getElem?_set_self (by rw [wipeE_length]; exact hl)]; simp [hl]
      · rw [List.getElem?_eq_none (by rw [List.length_set, wipeE_length]; omega)]; simp [hl]
    · rw [List.getElem?_set_ne h, wipeE_get vs env i]
      by_cases h2 : i ∈ vs
      · simp [h2]
      · simp [h2, Ne.symm h]
theorem wipe_get : ∀ (vs : List Nat) (σ : L2.St) (i : Nat), (wipe σ vs)[i]? = if i ∈ vs then (if i < σ.length then some none else none) else σ[i]?
  | [], σ, i => by simp [wipe]
  | v :: vs, σ, i => by
    unfold wipe
    by_cases h : v = i
    · subst h
      by_cases hl : v < σ.length
      · rw [List.getElem?_set_self (by rw [wipe_length]; exact hl)]; simp [hl]
      · rw [List.getElem?_eq_none (by rw [List.length_set, wipe_length]; omega)]; simp [hl]
    · rw [List.getElem?_set_ne h, wipe_get vs σ i]
      by_cases h2 : i ∈ vs
      · simp [h2]
      · simp [h2, Ne.symm h]
theorem ownOk_get (h : ownOk own env = true) {i : Nat} (hi : i ∈ own) : i ≠ 0 ∧ (env[i]? = some .no ∨ ∃ d, env[i]? = some (.fz d)) := by
  unfold ownOk at h
  rw [List.all_eq_true] at h
  have q := h i hi
  rw [Bool.and_eq_true] at q
  refine ⟨by simpa using q.1, ?_⟩
  have q2 := q.2
  split at q2
  · exact .inl (by assumption)
  · rename_i d e; exact .inr ⟨d, e⟩
  · cases q2
theorem own_fp (h : ownOk own env = true) (r : R B E T io fp env σ H) {i : Nat} (hi : i ∈ own) : ∀ a, ¬ fp i a := by
  obtain ⟨_, h⟩ := ownOk_get h hi
  have hl : i < σ.length := by
    rw [← r.len]
    rcases h with h | ⟨d, h⟩ <;> exact (List.getElem?_eq_some_iff.mp h).1
  rcases h with h | ⟨d, h⟩
  · exact r.slot i _ _ h (List.getElem?_eq_getElem hl)
  · exact (r.slot i _ _ h (List.getElem?_eq_getElem hl)).2
theorem R.wipe (h : ownOk own env = true) (r : R B E T io fp env σ H) : R B E T io fp (wipeE own env) (L2.wipe σ own) H := by
  refine ⟨by rw [wipeE_length, wipe_length]; exact r.len, fun i sv x h1 h2 => ?_, fun i a z => by rw [wipeE_length]; exact r.out i a z, r.dis, r.offT, r.all, r.new, fun v e => ?_, r.old, r.hb, r.tabs⟩
  · rw [wipeE_get] at h1
    rw [wipe_get] at h2
    by_cases hi : i ∈ own
    · simp only [hi, if_true] at h1 h2
      split at h1
      · cases h1; exact own_fp h r hi
      · cases h1
    · simp only [hi, if_false] at h1 h2; exact r.slot i sv x h1 h2
  · rw [wipe_get]
    have : 0 ∉ own := fun z => (ownOk_get h z).1 rfl
    simp only [this, if_false]; exact r.io0 v e
theorem lk_own (h : ownOk own env = true) {j : Nat} (l : Lk env j) : j ∉ own := fun hj => by
  obtain ⟨κ, d, e⟩ := l
  rcases (ownOk_get h hj).2 with q | ⟨d', q⟩ <;> rw [q] at e <;> cases e
theorem Ext.wipe (h : ownOk own env = true) : Ext env fp H (wipeE own env) fp H := by
  refine ⟨fun a o _ e _ => e, fun i a z _ => ⟨i, z, fun l => ⟨rfl, ?_⟩⟩, fun _ z => z, fun a o e q => ⟨o, e, q⟩, fun _ _ z => z⟩
  have hj := lk_own h l
  obtain ⟨κ, d, e⟩ := l
  exact ⟨κ, d, by rw [wipeE_get]; simp only [hj, if_false]; exact e⟩
def dropF (own : List Nat) (fp : Nat → Addr → Prop) : Nat → Addr → Prop := fun i a => i ∉ own ∧ fp i a
theorem restE_get {env2 : Env} (i : Nat) (hl : env2.length = env0.length) : (restE own env0 env2)[i]? = if i ∈ own then env0[i]? else env2[i]? := by
  unfold restE
  rw [List.getElem?_mapIdx]
  by_cases hi : i < env2.length
  · rw [List.getElem?_eq_getElem hi, Option.map_some]
    by_cases ho : i ∈ own
    · simp only [ho, if_true]
      rw [List.getD_eq_getElem?_getD, List.getElem?_eq_getElem (by omega)]; rfl
    · simp only [ho, if_false]
  · rw [List.getElem?_eq_none (by omega)]
    by_cases ho : i ∈ own
    · simp only [ho, if_true]; rw [List.getElem?_eq_none (by omega)]; rfl
    · simp only [ho, if_false]; rfl
theorem R.rest {env2 : Env} {fp2 : Nat → Addr → Prop} {H2 : Hp} (h : ownOk own env0 = true) (r0 : R B E T io fp env0 σ H) (x : Ext env0 fp H env2 fp2 H2) (r : R B E T io fp2 env2 σ2 H2) (hw : L2.wipe σ2 own = L2.wipe σ own) :
    R B E T io (dropF own fp2) (restE own env0 env2) σ H2 := by
  have hlen : σ2.length = σ.length := by have := congrArg List.length hw; rw [wipe_length, wipe_length] at this; exact this
  have hl : env2.length = env0.length := by rw [r.len, hlen, r0.len]
  have hσ : ∀ i, i ∉ own → σ2[i]? = σ[i]? := fun i hi => by
    have q := congrArg (fun l : L2.St => l[i]?) hw
    simp only [wipe_get, hi, if_false] at q
    exact q
  have sub : ∀ a, avOf T (dropF own fp2) a → avOf T fp2 a := fun a z => z.imp id fun ⟨i, z⟩ => ⟨i, z.2⟩
  refine ⟨by unfold restE; rw [List.length_mapIdx, hl]; exact r0.len, fun i sv x' h1 h2 => ?_, fun i a z => by unfold restE; rw [List.length_mapIdx]; exact r.out i a z.2, fun i j a z1 z2 => r.dis i j a z1.2 z2.2, fun i a z => r.offT i a z.2, fun a z => r.all a (sub a z), fun i a z zE => r.new i a z.2 zE, r0.io0, r.old, r.hb, r.tabs⟩
  rw [restE_get i hl] at h1
  by_cases ho : i ∈ own
  · simp only [ho, if_true] at h1
    have s := r0.slot i sv x' h1 h2
    rcases (ownOk_get h ho).2 with q | ⟨d, q⟩
    · rw [q] at h1; cases h1
      exact fun a z => z.1 ho
    · rw [q] at h1; cases h1
      obtain ⟨⟨v, ev, p⟩, _⟩ := s
      exact ⟨⟨v, ev, (x.rep p).weak sub⟩, fun a z => z.1 ho⟩
  · simp only [ho, if_false] at h1
    rw [← hσ i ho] at h2
    have s := r.slot i sv x' h1 h2
    have ef : dropF own fp2 i = fp2 i := by funext a; exact propext ⟨fun z => z.2, fun z => ⟨ho, z⟩⟩
    rw [ef]
    exact s.mono (fun _ _ _ e _ => e) (fun a z => .inl (sub a z)) fun _ _ _ e => e
theorem Ext.rest {env2 : Env} {fp2 : Nat → Addr → Prop} {H2 : Hp} (h : ownOk own env0 = true) (hl : env2.length = env0.length) (x : Ext env0 fp H env2 fp2 H2) : Ext env0 fp H (restE own env0 env2) (dropF own fp2) H2 := by
  refine ⟨x.chg, fun i a z hx => ?_, x.dom, x.typ, x.tab⟩
  obtain ⟨j, z1, z2⟩ := x.sub i a z.2 hx
  refine ⟨j, z1, fun l => ?_⟩
  obtain ⟨e1, l2⟩ := z2 l
  refine ⟨e1, ?_⟩
  obtain ⟨κ, d, e⟩ := l2
  exact ⟨κ, d, by rw [restE_get i hl]; simp only [z.1, if_false]; exact e⟩
/-- a protected cell that no one reads is written -/
theorem R.tcell {Dc : Addr} {xs ys : List V} (r : R B E T io fp env σ H) (hT : T Dc) (hD : H Dc = some (.lst xs)) (hz : ys.length ≤ sizeLine) : R B E T io fp env σ (upd H Dc (.lst ys)) := by
  have k : ∀ a o, H a = some o → a ≠ Dc → upd H Dc (.lst ys) a = some o := fun a o e n => by rw [upd_ne n]; exact e
  refine ⟨r.len, fun i sv x h1 h2 => (r.slot i sv x h1 h2).mono (fun a o nt e n => k a o e fun z => n (by rw [z]; exact .inl hT)) (fun a z => .inl z) (fun a o z e => k a o e fun z' => r.offT i a z (by rw [z']; exact hT)), r.out, r.dis, r.offT, fun a z => ?_, r.new, r.io0, fun a z => ?_, fun a zs e => ?_, fun p hp => tab_keep (fun a o no e => k a o e fun z => no (by subst z; rw [hD] at e; cases e; trivial)) _ hp (r.tabs p hp)⟩
  · by_cases h : a = Dc
    · subst h; exact ⟨_, upd_same, trivial⟩
    · obtain ⟨o, e, w⟩ := r.all a z; exact ⟨o, k a o e h, w⟩
  · by_cases h : a = Dc
    · subst h; rw [upd_same]; exact fun z => nomatch z
    · rw [upd_ne h]; exact r.old a z
  · by_cases h : a = Dc
    · subst h
      rcases e with (e | ⟨o, e⟩) | (e | ⟨o, e⟩) <;> rw [upd_same] at e <;> cases e
      exact hz
    · refine r.hb a zs ?_
      rcases e with (e | ⟨o, e⟩) | (e | ⟨o, e⟩) <;> rw [upd_ne h] at e
      · exact .inl (.inl e)
      · exact .inl (.inr ⟨o, e⟩)
      · exact .inr (.inl e)
      · exact .inr (.inr ⟨o, e⟩)
theorem Ext.tcell {env2 : Env} {fp2 : Nat → Addr → Prop} {H2 : Hp} {Dc : Addr} {xs ys : List V} (x : Ext env fp H env2 fp2 H2) (hD : H Dc = none) (hD2 : H2 Dc = some (.lst xs)) : Ext env fp H env2 fp2 (upd H2 Dc (.lst ys)) := by
  have n : ∀ a o, H a = some o → a ≠ Dc := fun a o e z => by rw [z, hD] at e; cases e
  refine ⟨fun a o nt e l => by rw [upd_ne (n a o e)]; exact x.chg a o nt e l, x.sub, fun a z => ?_, fun a o e w => ?_, fun P q z => tab_keep (fun a o no e => by rw [upd_ne (fun z => no (by subst z; rw [hD2] at e; cases e; trivial))]; exact e) _ q (x.tab P q z)⟩
  · by_cases h : a = Dc
    · subst h; rw [upd_same]; exact fun z => nomatch z
    · rw [upd_ne h]; exact x.dom a z
  · obtain ⟨o', e', w'⟩ := x.typ a o e w
    exact ⟨o', by rw [upd_ne (n a o e)]; exact e', w'⟩
end

/-- the rest of a comprehension: what is still made, and where it leads -/
def CompRest (gd : D → Env → Option Env) (ft : M Bool) (fe : M TV) (own : List Nat) (ds : List D) (envt : Env) (done all : List D) (envF : Env) : Prop := ∃ ys, compL gd ft fe own ds envt = .ok ys envF ∧ all = done ++ ys
section
variable {X : Cx} {W : WX} {elt tg iter : Expr} {ifs : List Expr} {scope : Scope} {own : List (Str × Nat)} {pos : Pos} {fi : M (List D × Option Nat)} {gd : D → Env → Option Env} {ft : M Bool} {fe : M TV}
theorem sound_comp {E T : Addr → Prop} {io : Option V} {env : Env} {fp : Nat → Addr → Prop} {σ : L2.St} {H : Hp} {Q : VK} {vs tv : List Nat} (htv : ∀ j ∈ tv, j ∈ vs) (R0 : R (bas X) E T io fp env σ H) (h : OKE (bas X) E T io env fp H σ Q W (cComp vs fi gd ft fe env)) :
    tLc (cI (bas X) W fi) (cG (bas X) false tv gd) (cT (bas X) W0 ft) (cE (bas X) W0 fe) vs σ H Q := by
  refine ⟨E, T, io, env, fp, R0, ?_⟩
  unfold cComp at h
  cases e1 : fi env with
  | stuck => rw [e1] at h; exact h
  | ex x env' => rw [e1] at h; exact h
  | ok il env1 =>
    rw [e1] at h
    obtain ⟨items, lk⟩ := il
    simp only [Res.bind] at h
    intro J fp1 H1 x1 hlk r1 it hlen Dc hD
    cases e2 : compL gd ft fe vs items env1 with
    | stuck => rw [e2] at h; exact h.elim
    | ex x env' => rw [e2] at h; exact h.elim
    | ok all envF =>
      rw [e2] at h
      simp only [Res.bindN] at h
      -- the invariant
      have hb1 : HB (upd H1 Dc (.lst [])) := fun a zs e => by
        by_cases hh : a = Dc
        · subst hh
          rcases e with (e | ⟨o, e⟩) | (e | ⟨o, e⟩) <;> rw [upd_same] at e <;> cases e
          exact Nat.zero_le _
        · refine r1.hb a zs ?_
          rcases e with (e | ⟨o, e⟩) | (e | ⟨o, e⟩) <;> rw [upd_ne hh] at e
          · exact .inl (.inl e)
          · exact .inl (.inr ⟨o, e⟩)
          · exact .inr (.inl e)
          · exact .inr (.inr ⟨o, e⟩)
      have r1' : R (bas X) E (fun a => T a ∨ a = Dc) io fp1 env1 σ (upd H1 Dc (.lst [])) := r1.more (grow_upd hD) (fun a e => by rw [e]; exact hD) (fun a e => by rw [e]; exact ⟨_, upd_same, trivial⟩) hb1
      refine ⟨fun i m Ht => m = items.length - i ∧ i ≤ items.length ∧ ∃ envt fpt acc accD, R (bas X) E (fun a => T a ∨ a = Dc) io fpt envt σ Ht ∧ Ext env1 fp1 H1 envt fpt Ht ∧ Ht Dc = some (.lst acc) ∧ Reps (bas X) Ht (avOf (fun a => T a ∨ a = Dc) fpt) acc accD ∧ acc.length ≤ i ∧ CompRest gd ft fe vs (items.drop i) envt accD all envF,
        ⟨items.length, by simp, Nat.zero_le _, env1, fp1, [], [], r1', Ext.grow (grow_upd hD), upd_same, .nil, Nat.le_refl _, all, e2, rfl⟩, ?_⟩
      rintro i m Ht ⟨rfl, hi, envt, fpt, acc, accD, rt, xt, hDt, accR, hacc, rest⟩
      by_cases hlt : i < items.length
      · -- a turn
        obtain ⟨ys, eys, eall⟩ := rest
        have edrop : items.drop i = items[i] :: items.drop (i + 1) := List.drop_eq_getElem_cons hlt
        rw [edrop] at eys
        unfold compL at eys
        by_cases hok : ownOk vs envt = true
        · simp only [hok, if_true] at eys
          cases eg : gd items[i] (wipeE vs envt) with
          | none => simp only [eg] at eys; cases eys
          | some envg =>
            simp only [eg] at eys
            refine .inr ⟨it.go _ _ _ i xt rt.hb hlt, fun H' => items.length - (i + 1) = items.length - (i + 1) ∧ i + 1 ≤ items.length ∧ ∃ envt fpt acc accD, R (bas X) E (fun a => T a ∨ a = Dc) io fpt envt σ H' ∧ Ext env1 fp1 H1 envt fpt H' ∧ H' Dc = some (.lst acc) ∧ Reps (bas X) H' (avOf (fun a => T a ∨ a = Dc) fpt) acc accD ∧ acc.length ≤ i + 1 ∧ CompRest gd ft fe vs (items.drop (i + 1)) envt accD all envF,
              fun H' hN => ⟨_, by omega, hN⟩, fun x H' hy => ?_⟩
            have hT2 : ∀ a, (fun a => T a ∨ a = Dc) a → avOf T fp1 a ∨ H1 a = none := fun a z => z.imp .inl fun e => by rw [e]; exact hD
            obtain ⟨gr, hb', px⟩ := it.yld _ _ _ i items[i] x H' _ xt rt.hb hT2 rt.all (List.getElem?_eq_getElem hlt) hy
            have rt' := rt.grow gr hb'
            have nD : ∀ i, ¬ fpt i Dc := fun i z => rt.offT i Dc z (.inr rfl)
            refine ⟨E, _, io, wipeE vs envt, fpt, items[i], envg, (fun e => Bool.noConfusion e), rt'.wipe hok, px, eg, fun σ2 fp2 b2 r2 x2 => ?_⟩
            have hw : L2.wipe σ2 vs = L2.wipe σ vs := by
              have hl2 : σ2.length = σ.length := by rw [b2.1, wipe_length]
              refine List.ext_getElem? fun j => ?_
              rw [wipe_get, wipe_get, hl2]
              by_cases hj : j ∈ vs
              · simp only [hj, if_true]
              · simp only [hj, if_false]
                rw [b2.2 j (fun z => hj (htv j z)), wipe_get]
                simp only [hj, if_false]
            refine ⟨hw, E, _, io, envg, fp2, r2, ?_⟩
            cases ef : ft envg with
            | stuck => rw [ef] at eys; cases eys
            | ex x e => rw [ef] at eys; cases eys
            | ok b envb =>
              rw [ef] at eys
              simp only [Res.bindN] at eys
              intro fp3 H3 x3 r3
              cases b with
              | false =>
                simp only [Bool.false_eq_true, if_false] at eys ⊢
                have xo := (Ext.wipe (fp := fpt) (H := H') hok).trans (x2.trans x3)
                have hl3 : envb.length = envt.length := by rw [r3.len, b2.1, wipe_length, ← rt.len]
                refine ⟨trivial, hlt, restE vs envt envb, dropF vs fp3, acc, accD, R.rest hok rt' xo r3 hw, xt.trans ((Ext.grow gr).trans (Ext.rest hok hl3 xo)), ?_, (Ext.rest hok hl3 xo).reps (accR.grow gr), by omega, ys, eys, eall⟩
                exact xo.chg Dc _ (nt_of rfl) (gr _ _ hDt) fun j z => absurd z (nD j)
              | true =>
                simp only [if_true] at eys ⊢
                refine ⟨E, _, io, envb, fp3, r3, ?_⟩
                cases eg2 : fe envb with
                | stuck => rw [eg2] at eys; cases eys
                | ex x e => rw [eg2] at eys; cases eys
                | ok t enve =>
                  rw [eg2] at eys
                  simp only [Res.bindN] at eys
                  cases e3 : frzV t with
                  | none => simp only [e3] at eys; cases eys
                  | some yd =>
                    simp only [e3] at eys
                    refine oke_hold fun y fp4 H4 x4 r4 hh => ?_
                    cases e5 : compL gd ft fe vs (items.drop (i + 1)) (restE vs envt enve) with
                    | stuck => rw [e5] at eys; cases eys
                    | ex x e => rw [e5] at eys; cases eys
                    | ok ys' envl =>
                      rw [e5] at eys
                      cases eys
                      have xo := (Ext.wipe (fp := fpt) (H := H') hok).trans (x2.trans (x3.trans x4))
                      have hl4 : enve.length = envt.length := by rw [r4.len, b2.1, wipe_length, ← rt.len]
                      have xr := Ext.rest hok hl4 xo
                      have hD4 : H4 Dc = some (.lst acc) := xo.chg Dc _ (nt_of rfl) (gr _ _ hDt) fun j z => absurd z (nD j)
                      have rr := R.rest hok rt' xo r4 hw
                      have hz : (acc ++ [y]).length ≤ sizeLine := by rw [List.length_append, List.length_singleton]; omega
                      have py := (frzV_rep hh e3).weak (av' := avOf (fun a => T a ∨ a = Dc) (dropF vs fp4)) fun a z => z.imp id fun ⟨i, z⟩ => ⟨i, z.2⟩
                      refine ⟨acc, hD4, by rw [List.length_append, List.length_singleton] at hz; omega, trivial, hlt, restE vs envt enve, dropF vs fp4, acc ++ [y], accD ++ [yd], rr.tcell (.inr rfl) hD4 hz,
                        (xt.trans ((Ext.grow gr).trans xr)).tcell hD hD4, upd_same, ?_, by rw [List.length_append, List.length_singleton]; omega, ys', e5, by rw [eall, List.append_assoc]; rfl⟩
                      refine ((xr.reps (accR.grow gr)).append (.cons py .nil)).mono (fun a o nt e n => ?_) fun a z => .inl z
                      rw [upd_ne (fun z => n (by rw [z]; exact .inl (.inr rfl)))]; exact e
        · simp only [hok, if_false] at eys; cases eys
      · have hie : i = items.length := by omega
        subst hie
        obtain ⟨ys, eys, eall⟩ := rest
        rw [List.drop_length] at eys
        unfold compL at eys
        cases eys
        rw [List.append_nil] at eall
        subst eall
        refine .inl ⟨it.stop _ _ _ _ xt rt.hb (rfl), ?_⟩
        have x2 := (x1.trans xt).unlock hlk
        refine h (.ref Dc) fpt Ht x2 (fun a => a = Dc) rt.unlock ⟨Dc, acc, all, rfl, rfl, hDt, accR, rfl⟩ fun a e => ?_
        subst e
        have hH : H a = none := by
          cases q : H a with
          | none => rfl
          | some o => exact absurd hD (x1.dom a (by rw [q]; exact fun z => nomatch z))
        exact ⟨fun z => r1.avH (.inl z) hD, fun z => R0.old a z hH, .inl hH⟩
/-- as a value -/
theorem de_comp {tv : List Nat} (hc : X.calm = true) (hN : X.N.Nodup) (hi : DI X W tg iter fi) (ok : BlkOk X.N X.env.scope scope own)
    (hg : ∀ (s : Shared) (H : Hp) (C : Addr) (cl : List (Str × Addr)) (fp : List Addr), DG (X.blk s H scope (compEnvC scope cl C X.env) fp) false tv tg gd) (ht : ∀ (s : Shared) (H : Hp) (C : Addr) (cl : List (Str × Addr)) (fp : List Addr), PTs (X.blk s H scope (compEnvC scope cl C X.env) fp) ifs (cT (bas X) W0 ft))
    (he : ∀ (s : Shared) (H : Hp) (C : Addr) (cl : List (Str × Addr)) (fp : List Addr), DE (X.blk s H scope (compEnvC scope cl C X.env) fp) W0 elt fe) (htv : ∀ j ∈ tv, j ∈ own.map (·.2) := by decide) (hs : ∀ x, foldedSetIterable iter X.env x = pure x := by intro _; rfl) :
    DE X W (.ListComp elt [⟨tg, iter, ifs, 0⟩] scope pos) (cComp (own.map (·.2)) fi gd ft fe) :=
  .mk ⟨_, pe_lc (wi := cI (bas X) W fi) (g := cG (bas X) false tv gd) (tt := cT (bas X) W0 ft) (te := cE (bas X) W0 fe) hc hN hi ok hg ht he hs, fun E T io env fp σ H Q R0 h => sound_comp htv R0 h⟩
theorem pts_yes {X : Cx} : PTs X [] (cT (bas X) W0 fun env => .ok true env) := ⟨fun pins s σ H Q I ⟨E, T, io, env, fp, r, h⟩ => pts_nil.run pins s σ H Q I (h fp H Ext.refl r)⟩
theorem pts_if {X : Cx} {c : Expr} {f : M Bool} (h : DT X W0 c f) : PTs X [c] (cT (bas X) W0 f) := pts_one h
end
end VL
namespace VL
open PySem PySem.Spec PyProof.Rows L2
variable [tt : TabList]

/-! ### statements -/
inductive SRes | nx (env : Env) | rt (tv : TV) (env : Env) | bk (env : Env) | ct (env : Env) | ex (e : Exn) (env : Env) | stuck
abbrev SM := Env → SRes
def OKS (B : Bas) (E T : Addr → Prop) (io : Option V) (env : Env) (fp : Nat → Addr → Prop) (H : Hp) (D : Ends) (W : WX) : SRes → Prop
  | .nx env' => ∀ σ' fp' H', Ext env fp H env' fp' H' → R B E T io fp' env' σ' H' → D.nx σ' H'
  | .bk env' => ∀ σ' fp' H', Ext env fp H env' fp' H' → R B E T io fp' env' σ' H' → D.bk σ' H'
  | .ct env' => ∀ σ' fp' H', Ext env fp H env' fp' H' → R B E T io fp' env' σ' H' → D.ct σ' H'
  | .rt (.fz d) env' => ∀ v σ' fp' H', Ext env fp H env' fp' H' → R B E T io fp' env' σ' H' → Rep B H' (avOf T fp') v d → D.rt v H'
  | .rt (.ow κ d) env' => ∀ v σ' fp' H' q, Ext env fp H env' fp' H' → R B E (fun a => T a ∨ q a) io fp' env' σ' H' → Own B H' (avOf (fun a => T a ∨ q a) fp') κ v d q →
      (∀ a, q a → ¬ T a ∧ ¬ E a ∧ (H a = none ∨ ∃ j, fp j a ∧ ¬ Lk env j)) → D.rt v H'
  | .rt (.sl _) _ => False
  | .ex e env' => ∀ cls dx σ' fp' H', Ext env fp H env' fp' H' → R B E T io fp' env' σ' H' → ExR B H' (avOf T fp') e cls dx → W cls dx σ' H'
  | .stuck => False
def cS (B : Bas) (W : WX) (nio : Bool) (f : SM) : TS := fun D σ H => ∃ E T io env fp, NioOk nio io ∧ R B E T io fp env σ H ∧ OKS B E T io env fp H D W (f env)
def DS (X : Cx) (W : WX) (nio : Bool) (st : Stmt) (f : SM) : Prop := PS X st (cS (bas X) W nio f)
def DSs (X : Cx) (W : WX) (nio : Bool) (sts : List Stmt) (f : SM) : Prop := PSs X sts (cS (bas X) W nio f)
theorem DS.out {X : Cx} {W : WX} {nio : Bool} {st : Stmt} {f : SM} (h : DS X W nio st f) : ∃ t, PS X st t ∧ ∀ E T io env fp σ H D, NioOk nio io → R (bas X) E T io fp env σ H → OKS (bas X) E T io env fp H D W (f env) → t D σ H :=
  ⟨_, h, fun E T io env fp σ H D n r h => ⟨E, T, io, env, fp, n, r, h⟩⟩
theorem DS.mk {X : Cx} {W : WX} {nio : Bool} {st : Stmt} {f : SM} (h : ∃ t, PS X st t ∧ ∀ E T io env fp σ H D, NioOk nio io → R (bas X) E T io fp env σ H → OKS (bas X) E T io env fp H D W (f env) → t D σ H) : DS X W nio st f := by
  obtain ⟨t, p, s⟩ := h
  exact ⟨fun pins sh σ H D I ⟨E, T, io, env, fp, n, r, h⟩ => p.run pins sh σ H D I (s E T io env fp σ H D n r h)⟩
theorem DSs.out {X : Cx} {W : WX} {nio : Bool} {st : List Stmt} {f : SM} (h : DSs X W nio st f) : ∃ t, PSs X st t ∧ ∀ E T io env fp σ H D, NioOk nio io → R (bas X) E T io fp env σ H → OKS (bas X) E T io env fp H D W (f env) → t D σ H :=
  ⟨_, h, fun E T io env fp σ H D n r h => ⟨E, T, io, env, fp, n, r, h⟩⟩
theorem DSs.mk {X : Cx} {W : WX} {nio : Bool} {st : List Stmt} {f : SM} (h : ∃ t, PSs X st t ∧ ∀ E T io env fp σ H D, NioOk nio io → R (bas X) E T io fp env σ H → OKS (bas X) E T io env fp H D W (f env) → t D σ H) : DSs X W nio st f := by
  obtain ⟨t, p, s⟩ := h
  exact ⟨fun pins sh σ H D I ⟨E, T, io, env, fp, n, r, h⟩ => p.run pins sh σ H D I (s E T io env fp σ H D n r h)⟩
section
variable {B : Bas} {E T : Addr → Prop} {io : Option V} {env env1 : Env} {fp fp1 : Nat → Addr → Prop} {σ : L2.St} {H H1 : Hp} {D : Ends} {W : WX}
theorem OKS.after (x : Ext env fp H env1 fp1 H1) {r : SRes} (h : OKS B E T io env fp H D W r) : OKS B E T io env1 fp1 H1 D W r := by
  cases r with
  | stuck => exact h
  | nx env' => exact fun σ' fp' H' y => h σ' fp' H' (x.trans y)
  | bk env' => exact fun σ' fp' H' y => h σ' fp' H' (x.trans y)
  | ct env' => exact fun σ' fp' H' y => h σ' fp' H' (x.trans y)
  | ex e env' => exact fun cls dx σ' fp' H' y => h cls dx σ' fp' H' (x.trans y)
  | rt tv env' =>
    cases tv with
    | sl i => exact h
    | fz d => exact fun v σ' fp' H' y => h v σ' fp' H' (x.trans y)
    | ow κ d =>
      intro v σ' fp' H' q y r o hq
      refine h v σ' fp' H' q (x.trans y) r o fun a z => ?_
      obtain ⟨h1, h2, h3⟩ := hq a z
      refine ⟨h1, h2, ?_⟩
      cases e : H a with
      | none => exact .inl rfl
      | some o =>
        have hH : H a ≠ none := by rw [e]; exact fun z => nomatch z
        rcases h3 with h3 | ⟨j, h3, h4⟩
        · exact absurd h3 (x.dom a hH)
        · obtain ⟨k, z1, z2⟩ := x.sub j a h3 hH
          exact .inr ⟨k, z1, fun l => h4 (z2 l).2⟩
def bindE (r : Res TV) (k : TV → SM) : SRes := match r with
  | .ok tv env => k tv env
  | .ex e env => .ex e env
  | .stuck => .stuck
def bindT (r : Res Bool) (k : Bool → SM) : SRes := match r with
  | .ok tv env => k tv env
  | .ex e env => .ex e env
  | .stuck => .stuck
/-- an expression within a statement, its value frozen if it is new -/
theorem okes_bind {G : Prop} {f : M TV} {k : TV → SM} {Qe : VK} (hs : OKE B E T io env fp H σ Qe W (f env) → G)
    (h : OKS B E T io env fp H D W (bindE (f env) k)) (hk : ∀ tv env' v fp' H', Ext env fp H env' fp' H' → R B E T io fp' env' σ H' → Hold B T fp' H' σ v tv → OKS B E T io env' fp' H' D W (k tv env') → Qe v H') : G := by
  refine hs ?_
  cases e : f env with
  | stuck => rw [e] at h; exact h
  | ex x env' => rw [e] at h; exact fun cls dx fp' H' x r => h cls dx σ fp' H' x r
  | ok tv env' =>
    rw [e] at h
    exact oke_hold fun v fp' H' x r hh => hk tv env' v fp' H' x r hh (OKS.after x h)
theorem okts_bind {G : Prop} {f : M Bool} {k : Bool → SM} {Qe : Bool → Hp → Prop} (hs : OKT B E T io env fp H σ Qe W (f env) → G)
    (h : OKS B E T io env fp H D W (bindT (f env) k)) (hk : ∀ b env' fp' H', Ext env fp H env' fp' H' → R B E T io fp' env' σ H' → OKS B E T io env' fp' H' D W (k b env') → Qe b H') : G := by
  refine hs ?_
  cases e : f env with
  | stuck => rw [e] at h; exact h
  | ex x env' => rw [e] at h; exact fun cls dx fp' H' x r => h cls dx σ fp' H' x r
  | ok b env' => rw [e] at h; exact fun fp' H' x r => hk b env' fp' H' x r (OKS.after x h)
end

def sNx : SM := fun env => .nx env
def sSeq (f g : SM) : SM := fun env => match f env with
  | .nx env1 => g env1
  | r => r
def sDrop (f : M TV) : SM := fun env => bindE (f env) fun _ env1 => .nx env1
def sRet (f : M TV) : SM := fun env => match f env with
  | .ok (.sl _) _ => .stuck
  | .ok tv env1 => .rt tv env1
  | .ex e env1 => .ex e env1
  | .stuck => .stuck
def sRetN : SM := fun env => .rt (.fz .non) env
def sSet (nio : Bool) (i : Nat) (f : M TV) : SM := fun env => match f env with
  | .ok (.sl _) _ => .stuck
  | .ok (.fz d) env1 => if i < env1.length ∧ (i ≠ 0 ∨ nio = true) then .nx (env1.set i (.fz d)) else .stuck
  | .ok (.ow κ d) env1 => if i < env1.length ∧ (i ≠ 0 ∨ nio = true) then .nx (env1.set i (.ow κ d)) else .stuck
  | .ex e env1 => .ex e env1
  | .stuck => .stuck
def sAsg (gd : D → Env → Option Env) (f : M TV) : SM := fun env => bindE (f env) fun tv env1 => match frzV tv with
  | some d => match gd d env1 with
    | some env2 => .nx env2
    | none => .stuck
  | none => .stuck
def sIf (c : M Bool) (f g : SM) : SM := fun env => bindT (c env) fun b env1 => if b then f env1 else g env1
section
variable {B : Bas} {E T : Addr → Prop} {io : Option V} {env : Env} {fp : Nat → Addr → Prop} {σ : L2.St} {H : Hp}
/-- a new owned value is stored -/
theorem R.setOw {nio : Bool} {i : Nat} {κ : Kd} {d : D} {v : V} {q : Addr → Prop} (hn : NioOk nio io) (r : R B E (fun a => T a ∨ q a) io fp env σ H) (hi : i < env.length) (h0 : i ≠ 0 ∨ nio = true)
    (p : Own B H (avOf (fun a => T a ∨ q a) fp) κ v d q) (hq : ∀ a, q a → ¬ T a ∧ ¬ E a) : R B E T io (setF fp i q) (env.set i (.ow κ d)) (σ.set i (some v)) H := by
  have hl : i < σ.length := by rw [← r.len]; exact hi
  have hav : ∀ a, avOf T (setF fp i q) a → avOf (fun a => T a ∨ q a) fp a := fun a z => by
    rcases z with z | ⟨j, z⟩
    · exact .inl (.inl z)
    · by_cases hj : j = i
      · subst hj; rw [setF_same] at z; exact .inl (.inr z)
      · rw [setF_ne hj] at z; exact .inr ⟨j, z⟩
  refine r.put hi (fun _ z => .inl z) (fun a z => .inl (.inr z)) (fun a z => (hq a z).1) (fun a z => r.all a (.inl (.inr z))) (fun a z zE => absurd zE (hq a z).2) (fun a o _ e _ => e) (fun _ _ z => z) (fun a o e q => ⟨o, e, q⟩) (fun _ z => z) (by rw [List.length_set])
    (fun j hj => by rw [List.getElem?_set_ne (Ne.symm hj)]) (List.getElem?_set_self hl) (fun v' e => ?_) r.hb ⟨v, rfl, p.mono (fun _ _ _ e _ => e) (fun a z => .inl (hav a z)) fun _ _ _ e => e⟩
  rcases h0 with h0 | h0
  · rw [List.getElem?_set_ne h0]; exact r.io0 v' e
  · rw [hn h0] at e; cases e
/-- .. and what it changes, as seen from the state ahead of its making -/
theorem Ext.setOw {env0 : Env} {fp0 : Nat → Addr → Prop} {H0 : Hp} {i : Nat} {κ : Kd} {d : D} {q : Addr → Prop} (x : Ext env0 fp0 H0 env fp H) (hq : ∀ a, q a → H0 a = none ∨ ∃ j, fp0 j a ∧ ¬ Lk env0 j) : Ext env0 fp0 H0 (env.set i (.ow κ d)) (setF fp i q) H := by
  refine ⟨x.chg, fun j a z hx => ?_, x.dom, x.typ, x.tab⟩
  by_cases hj : j = i
  · subst hj
    rw [setF_same] at z
    rcases hq a z with h | ⟨k, h, l⟩
    · exact absurd h hx
    · exact ⟨k, h, fun l' => absurd l' l⟩
  · rw [setF_ne hj] at z
    obtain ⟨k, z1, z2⟩ := x.sub j a z hx
    refine ⟨k, z1, fun l => ?_⟩
    obtain ⟨e1, l2⟩ := z2 l
    exact ⟨e1, lk_keep hj l2⟩
end
section
variable {X : Cx} {W : WX} {nio : Bool} {e c : Expr} {st : Stmt} {rest a b : List Stmt} {f g : SM} {fe : M TV} {fc : M Bool} {pos : Pos}
def endsHB (D : Ends) : Ends := { nx := fun σ H => HB H → D.nx σ H, rt := fun v H => HB H → D.rt v H, bk := fun σ H => HB H → D.bk σ H, ct := fun σ H => HB H → D.ct σ H }
theorem psHB {t : TS} (h : PS X st t) : PS X st (fun D σ H => t (endsHB D) σ H) := ⟨fun pins s σ H D I hw => by
  refine thn (h.run pins s σ H (endsHB D) I hw) fun fl s1 q => ?_
  cases fl with
  | next => obtain ⟨σ', H', I', q⟩ := q; exact ⟨σ', H', I', q (HB.of I'.hok)⟩
  | brk => obtain ⟨σ', H', I', q⟩ := q; exact ⟨σ', H', I', q (HB.of I'.hok)⟩
  | cont => obtain ⟨σ', H', I', q⟩ := q; exact ⟨σ', H', I', q (HB.of I'.hok)⟩
  | ret u => obtain ⟨v, σ', H', I', r, q⟩ := q; exact ⟨v, σ', H', I', r, q (HB.of I'.hok)⟩⟩
theorem dss_nil : DSs X W nio [] sNx := .mk ⟨_, pss_nil, fun E T io env fp σ H D n r h => h σ fp H Ext.refl r⟩
theorem oks_seq {B : Bas} {E T : Addr → Prop} {io : Option V} {env : Env} {fp : Nat → Addr → Prop} {H : Hp} {D D' : Ends} (h : OKS B E T io env fp H D W (sSeq f g env)) (hrt : D'.rt = D.rt) (hbk : D'.bk = D.bk) (hct : D'.ct = D.ct)
    (hn : ∀ env1 σ1 fp1 H1, Ext env fp H env1 fp1 H1 → R B E T io fp1 env1 σ1 H1 → OKS B E T io env1 fp1 H1 D W (g env1) → D'.nx σ1 H1) : OKS B E T io env fp H D' W (f env) := by
  unfold sSeq at h
  cases e : f env with
  | nx env1 => rw [e] at h; exact fun σ' fp' H' x r => hn env1 σ' fp' H' x r (OKS.after x h)
  | stuck => rw [e] at h; exact h
  | bk env1 => rw [e] at h; unfold OKS at h ⊢; rw [hbk]; exact h
  | ct env1 => rw [e] at h; unfold OKS at h ⊢; rw [hct]; exact h
  | ex x env1 => rw [e] at h; exact h
  | rt tv env1 =>
    rw [e] at h
    cases tv with
    | sl i => exact h
    | fz d => unfold OKS at h ⊢; rw [hrt]; exact h
    | ow κ d => unfold OKS at h ⊢; rw [hrt]; exact h
theorem dss_cons (h1 : DS X W nio st f) (h2 : DSs X W nio rest g) : DSs X W nio (st :: rest) (sSeq f g) := by
  obtain ⟨t, p, s⟩ := h1.out
  obtain ⟨t', p', s'⟩ := h2.out
  refine .mk ⟨_, pss_cons p p', fun E T io env fp σ H D n r h => ?_⟩
  exact s E T io env fp σ H _ n r (oks_seq h rfl rfl rfl fun env1 σ1 fp1 H1 x r1 k => s' E T io env1 fp1 σ1 H1 D n r1 k)
theorem dss_one (h1 : DS X W nio st f) : DSs X W nio [st] f := by
  obtain ⟨t, p, s⟩ := h1.out
  exact .mk ⟨_, pss_one p, s⟩
theorem ds_pass : DS X W nio (.Pass pos) sNx := .mk ⟨_, ps_pass, fun E T io env fp σ H D n r h => h σ fp H Ext.refl r⟩
theorem ds_break : DS X W nio (.Break pos) (fun env => .bk env) := .mk ⟨_, ps_break, fun E T io env fp σ H D n r h => h σ fp H Ext.refl r⟩
theorem ds_continue : DS X W nio (.Continue pos) (fun env => .ct env) := .mk ⟨_, ps_continue, fun E T io env fp σ H D n r h => h σ fp H Ext.refl r⟩
theorem ds_expr (he : DE X W e fe) (hs : swapsWith e none pos.line X.env = pure false := by rfl) : DS X W nio (.Expr e pos) (sDrop fe) := by
  obtain ⟨t, p, s⟩ := he.out
  refine .mk ⟨_, ps_expr p hs, fun E T io env fp σ H D n r h => ?_⟩
  exact okes_bind (f := fe) (s E T io env fp σ H _ r) h fun tv env1 v fp1 H1 x1 r1 h1 k => k σ fp1 H1 Ext.refl r1
theorem ds_ret (he : DE X W e fe) : DS X W nio (.Return (some e) pos) (sRet fe) := by
  obtain ⟨t, p, s⟩ := he.out
  refine .mk ⟨_, ps_ret p, fun E T io env fp σ H D n r h => ?_⟩
  refine s E T io env fp σ H _ r ?_
  unfold sRet at h
  cases e1 : fe env with
  | stuck => rw [e1] at h; exact h
  | ex x env' => rw [e1] at h; exact fun cls dx fp' H' x r => h cls dx σ fp' H' x r
  | ok tv env' =>
    rw [e1] at h
    cases tv with
    | sl i => exact h.elim
    | fz d => exact fun v fp' H' x r p => h v σ fp' H' x r p
    | ow κ d => exact fun v fp' H' x q r p hq => h v σ fp' H' q x r p hq
theorem ds_retN : DS X W nio (.Return none pos) sRetN := .mk ⟨_, ps_retN, fun E T io env fp σ H D n r h => h .non σ fp H Ext.refl r .non⟩
theorem sound_set {t : TE} (s : ∀ E T io env fp σ H Q, R (bas X) E T io fp env σ H → OKE (bas X) E T io env fp H σ Q W (fe env) → t σ H Q) {i : Nat} {E T : Addr → Prop} {io : Option V} {env : Env} {fp : Nat → Addr → Prop} {σ : L2.St} {H : Hp} {D : Ends} (n : NioOk nio io) (r : R (bas X) E T io fp env σ H)
    (h : OKS (bas X) E T io env fp H D W (sSet nio i fe env)) : tAsg t (gName i) D σ H := by
  refine s E T io env fp σ H _ r ?_
  unfold sSet at h
  cases e1 : fe env with
  | stuck => rw [e1] at h; exact h
  | ex x env' => rw [e1] at h; exact fun cls dx fp' H' x r => h cls dx σ fp' H' x r
  | ok tv env' =>
    rw [e1] at h
    cases tv with
    | sl i => exact h.elim
    | fz d =>
      simp only at h
      split at h
      · rename_i hc
        intro v fp' H' x r' p
        obtain ⟨r2, x2⟩ := r'.setFz n hc.1 hc.2 p
        exact h _ _ H' (x.trans x2) r2
      · exact h.elim
    | ow κ d =>
      simp only at h
      split at h
      · rename_i hc
        intro v fp' H' x q r' p hq
        exact h _ _ H' (x.setOw fun a z => (hq a z).2.2) (r'.setOw n hc.1 hc.2 p fun a z => ⟨(hq a z).1, (hq a z).2.1⟩)
      · exact h.elim
theorem ds_set {i : Nat} {x : Str} {pos' : Pos} (hN : X.N.Nodup) (hi : X.N[i]? = some x) (hx : Loc X.env.scope x) (he : DE X W e fe) (hs : swapsWith e (some (.Name x pos')) pos.line X.env = pure false := by rfl) (hf : X.fn x = true ∨ X.env.scope.names.lookup x = some .local := by first | exact .inl rfl | exact .inr rfl | assumption) :
    DS X W nio (.Assign [.Name x pos'] e pos) (sSet nio i fe) := by
  obtain ⟨t, p, s⟩ := he.out
  exact .mk ⟨_, ps_set hN hi hx p hs hf, fun E T io env fp σ H D n r h => sound_set s n r h⟩
theorem ds_asg {tg : Expr} {tv : List Nat} {gd : D → Env → Option Env} (he : DE X W e fe) (hg : DG X nio tv tg gd) (hs : swapsWithSole [tg] e pos.line X.env = pure false := by rfl) (hw : swappedStores [tg] e X.env = pure none := by rfl)
    (h1 : (assignEach [tg] X.env).map (·.2) = [assign tg X.env] := by rfl) : DS X W nio (.Assign [tg] e pos) (sAsg gd fe) := by
  obtain ⟨t, p, s⟩ := he.out
  refine .mk ⟨_, ps_asg p hg hs hw h1, fun E T io env fp σ H D n r h => ?_⟩
  refine okes_bind (f := fe) (s E T io env fp σ H _ r) h fun tv env1 v fp1 H1 x1 r1 h1 k => ?_
  cases e1 : frzV tv with
  | none => simp only [e1] at k; exact k.elim
  | some d =>
    simp only [e1] at k
    cases e2 : gd d env1 with
    | none => simp only [e2] at k; exact k.elim
    | some env2 =>
      simp only [e2] at k
      exact ⟨E, T, io, env1, fp1, d, env2, n, r1, frzV_rep h1 e1, e2, fun σ' fp' _ r' x' => k σ' fp' H1 x' r'⟩
theorem ds_if (hc : DT X W c fc) (ha : DSs X W nio a f) (hb : DSs X W nio b g) : DS X W nio (.If c a b pos) (sIf fc f g) := by
  obtain ⟨t, p, s⟩ := hc.out
  obtain ⟨t1, p1, s1⟩ := ha.out
  obtain ⟨t2, p2, s2⟩ := hb.out
  refine .mk ⟨_, ps_if p p1 p2, fun E T io env fp σ H D n r h => ?_⟩
  refine okts_bind (f := fc) (s E T io env fp σ H _ r) h fun b env1 fp1 H1 x1 r1 k => ?_
  cases b with
  | true => exact iteT (s1 E T io env1 fp1 σ H1 D n r1 k)
  | false => exact iteF (s2 E T io env1 fp1 σ H1 D n r1 k)
end

/-! ### loops -/
/-- what is given up between two turns: a slot frozen (true) or forgotten (false) -/
def nrm1 (i : Nat) (b : Bool) (env : Env) : Env := match env[i]? with
  | some (.ow κ d) => if b then env.set i (.fz d) else env.set i .no
  | some (.fz d) => if b then env else env.set i .no
  | _ => env
def nrm : List (Nat × Bool) → Env → Env
  | [], env => env
  | (i, b) :: l, env => nrm l (nrm1 i b env)
section
variable {B : Bas} {E T : Addr → Prop} {io : Option V} {env : Env} {fp : Nat → Addr → Prop} {σ : L2.St} {H : Hp}
theorem R.freeze {i : Nat} {κ : Kd} {d : D} (r : R B E T io fp env σ H) (e : env[i]? = some (.ow κ d)) {sv : SV} (hsv : sv = .fz d ∨ sv = .no) :
    R B E T io (setF fp i fun _ => False) (env.set i sv) σ H ∧ Ext env fp H (env.set i sv) (setF fp i fun _ => False) H := by
  have hi := (List.getElem?_eq_some_iff.mp e).1
  obtain ⟨v, ev, p⟩ := slot_own r e
  have hav : ∀ a, avOf T (setF fp i fun _ => False) a → avOf T fp a := fun a z => by
    rcases z with z | ⟨j, z⟩
    · exact .inl z
    · by_cases hj : j = i
      · subst hj; rw [setF_same] at z; exact z.elim
      · rw [setF_ne hj] at z; exact .inr ⟨j, z⟩
  have p' : Rep B H (avOf T (setF fp i fun _ => False)) v d := p.rep hav fun a z z' => by
    rcases z' with z' | ⟨j, z'⟩
    · exact r.offT i a z z'
    · by_cases hj : j = i
      · subst hj; rw [setF_same] at z'; exact z'
      · rw [setF_ne hj] at z'; exact hj (r.dis j i a z' z)
  refine ⟨r.put hi (fun _ z => z) (fun a z => z.elim) (fun a z => z.elim) (fun a z => z.elim) (fun a z => z.elim)
        (fun a o _ e _ => e) (fun _ _ z => z) (fun a o e q => ⟨o, e, q⟩) (fun _ z => z) rfl (fun _ _ => rfl) ev r.io0 r.hb ?_, Ext.put (fun a z => z.elim) (fun a o _ e _ => e) (fun _ _ z => z) (fun a o e q => ⟨o, e, q⟩) fun _ z => z⟩
  rcases hsv with rfl | rfl
  · exact ⟨⟨v, rfl, p'⟩, fun _ z => z⟩
  · exact fun _ z => z
theorem R.dropFz {i : Nat} {d : D} (r : R B E T io fp env σ H) (e : env[i]? = some (.fz d)) : R B E T io fp (env.set i .no) σ H ∧ Ext env fp H (env.set i .no) fp H := by
  have hi := (List.getElem?_eq_some_iff.mp e).1
  have hl : i < σ.length := by rw [← r.len]; exact hi
  obtain ⟨_, nf⟩ := r.slot i _ _ e (List.getElem?_eq_getElem hl)
  have hf : setF fp i (fun _ => False) = fp := by
    funext j a
    by_cases hj : j = i
    · subst hj; rw [setF_same]; exact propext ⟨fun z => z.elim, fun z => nf a z⟩
    · rw [setF_ne hj]
  have r' := r.put (q := fun _ => False) (sv := .no) hi (fun _ z => z) (fun a z => z.elim) (fun a z => z.elim) (fun a z => z.elim) (fun a z => z.elim)
        (fun a o _ e _ => e) (fun _ _ z => z) (fun a o e q => ⟨o, e, q⟩) (fun _ z => z) rfl (fun _ _ => rfl) (List.getElem?_eq_getElem hl) r.io0 r.hb (fun _ z => z)
  have x' := Ext.put (env := env) (fp := fp) (H := H) (H' := H) (i := i) (sv := .no) (q := fun _ => False) (fun a z => z.elim) (fun a o _ e _ => e) (fun _ _ z => z) (fun a o e q => ⟨o, e, q⟩) fun _ z => z
  rw [hf] at r' x'
  exact ⟨r', x'⟩
theorem R.nrm1 (i : Nat) (b : Bool) (r : R B E T io fp env σ H) : ∃ fp', R B E T io fp' (nrm1 i b env) σ H ∧ Ext env fp H (nrm1 i b env) fp' H := by
  unfold VL.nrm1
  split
  · rename_i κ d e
    cases b with
    | true => exact ⟨_, r.freeze e (.inl rfl)⟩
    | false => exact ⟨_, r.freeze e (.inr rfl)⟩
  · rename_i d e
    cases b with
    | true => exact ⟨fp, r, Ext.refl⟩
    | false => exact ⟨fp, r.dropFz e⟩
  · exact ⟨fp, r, Ext.refl⟩
theorem R.nrm : ∀ (l : List (Nat × Bool)) {env : Env} {fp : Nat → Addr → Prop}, R B E T io fp env σ H → ∃ fp', R B E T io fp' (nrm l env) σ H ∧ Ext env fp H (nrm l env) fp' H
  | [], _, fp, r => ⟨fp, r, Ext.refl⟩
  | (i, b) :: l, _, _, r => by
    obtain ⟨fp1, r1, x1⟩ := r.nrm1 i b
    obtain ⟨fp2, r2, x2⟩ := R.nrm l r1
    exact ⟨fp2, r2, x1.trans x2⟩
end
def forL (nr : List (Nat × Bool)) (gd : D → Env → Option Env) (body : SM) : List D → SM
  | [], env => .nx env
  | d :: ds, env => match gd d env with
    | none => .stuck
    | some e1 => match body e1 with
      | .nx e2 => forL nr gd body ds (nrm nr e2)
      | .ct e2 => forL nr gd body ds (nrm nr e2)
      | .bk e2 => .nx e2
      | r => r
def unlkS (lk : Option Nat) : SRes → SRes
  | .nx env => .nx (lockE lk env)
  | .bk env => .bk (lockE lk env)
  | .ct env => .ct (lockE lk env)
  | .rt tv env => .rt tv (lockE lk env)
  | .ex e env => .ex e (lockE lk env)
  | .stuck => .stuck
def sFor (nr : List (Nat × Bool)) (fi : M (List D × Option Nat)) (gd : D → Env → Option Env) (body : SM) : SM := fun env => match fi env with
  | .ok (items, lk) env1 => unlkS lk (forL nr gd body items (nrm nr env1))
  | .ex e env1 => .ex e env1
  | .stuck => .stuck
def whileL (nr : List (Nat × Bool)) (c : M Bool) (body : SM) : Nat → SM
  | 0, _ => .stuck
  | n + 1, env => bindT (c env) fun b e1 => if b then (match body e1 with
      | .nx e2 => whileL nr c body n (nrm nr e2)
      | .ct e2 => whileL nr c body n (nrm nr e2)
      | .bk e2 => .nx e2
      | r => r) else .nx e1
def sWhile (fuel : Nat) (nr : List (Nat × Bool)) (c : M Bool) (body : SM) : SM := fun env => whileL nr c body fuel (nrm nr env)

section
variable {B : Bas} {E T : Addr → Prop} {io : Option V} {env env1 env2 : Env} {fp fp1 fp2 : Nat → Addr → Prop} {σ : L2.St} {H H1 H2 : Hp} {W : WX}
/-- the ends of a walk, seen from inside: the lock is taken off -/
theorem OKS.lock {D : Ends} {lk : Option Nat} {r : SRes} (x : Ext env fp H env1 fp1 H1) (hl : ∀ i, lk = some i → ¬ Lk env i) (h : OKS B E T io env fp H D W (unlkS lk r)) (x2 : Ext env1 fp1 H1 env2 fp2 H2) : OKS B E T io env2 fp2 H2 D W r := by
  have xx := x.trans x2
  cases r with
  | stuck => exact h
  | nx env' => exact fun σ' fp' H' y r => h σ' fp' H' ((xx.trans y).unlock hl) r.unlock
  | bk env' => exact fun σ' fp' H' y r => h σ' fp' H' ((xx.trans y).unlock hl) r.unlock
  | ct env' => exact fun σ' fp' H' y r => h σ' fp' H' ((xx.trans y).unlock hl) r.unlock
  | ex e env' => exact fun cls dx σ' fp' H' y r p => h cls dx σ' fp' H' ((xx.trans y).unlock hl) r.unlock p
  | rt tv env' =>
    cases tv with
    | sl i => exact h
    | fz d => exact fun v σ' fp' H' y r p => h v σ' fp' H' ((xx.trans y).unlock hl) r.unlock p
    | ow κ d =>
      intro v σ' fp' H' q y r o hq
      refine h v σ' fp' H' q ((xx.trans y).unlock hl) r.unlock o fun a z => ?_
      obtain ⟨h1, h2, h3⟩ := hq a z
      refine ⟨h1, h2, ?_⟩
      cases e : H a with
      | none => exact .inl rfl
      | some o =>
        have hH : H a ≠ none := by rw [e]; exact fun z => nomatch z
        rcases h3 with h3 | ⟨j, h3, h4⟩
        · exact absurd h3 (xx.dom a hH)
        · obtain ⟨k, z1, z2⟩ := xx.sub j a h3 hH
          exact .inr ⟨k, z1, fun l => h4 (z2 l).2⟩
end
section
variable {X : Cx} {W : WX} {nio : Bool} {tg iter c : Expr} {body : List Stmt} {fb : SM} {fc : M Bool} {fi : M (List D × Option Nat)} {gd : D → Env → Option Env} {pos : Pos}
/-- the turn's ends: the next turn, or the walk's end -/
theorem oks_turn {B : Bas} {E T : Addr → Prop} {io : Option V} {env : Env} {fp : Nat → Addr → Prop} {H : Hp} {D : Ends} {N : L2.St → Hp → Prop} {r : SRes} {k : SM} (h : OKS B E T io env fp H D W (match r with | .nx e2 => k e2 | .ct e2 => k e2 | .bk e2 => .nx e2 | r => r))
    (hn : ∀ e2 σ' fp' H', Ext env fp H e2 fp' H' → R B E T io fp' e2 σ' H' → OKS B E T io e2 fp' H' D W (k e2) → N σ' H') : OKS B E T io env fp H { D with nx := N, ct := N, bk := D.nx } W r := by
  cases r with
  | stuck => exact h
  | nx e2 => exact fun σ' fp' H' x r => hn e2 σ' fp' H' x r (OKS.after x h)
  | ct e2 => exact fun σ' fp' H' x r => hn e2 σ' fp' H' x r (OKS.after x h)
  | bk e2 => exact h
  | ex e e2 => exact h
  | rt tv e2 => cases tv with
    | sl i => exact h
    | fz d => exact h
    | ow κ d => exact h
theorem ds_for {nr : List (Nat × Bool)} {tv : List Nat} (hp : PassesOwn (model X.prog X.w) X.A X.env X.xe) (hc : X.calm = true) (hi : DI X W tg iter fi) (hg : DG X nio tv tg gd) (hb : DSs X W nio body fb)
    (hs : ∀ x, foldedSetIterable iter X.env x = pure x := by intro _; rfl) : DS X W nio (.For tg iter body [] pos) (sFor nr fi gd fb) := by
  refine .mk ⟨_, ps_for hp hc hi hg hb hs, fun E T io env fp σ H D n R0 h => ?_⟩
  refine ⟨E, T, io, env, fp, R0, ?_⟩
  unfold sFor at h
  cases e1 : fi env with
  | stuck => rw [e1] at h; exact h
  | ex x env' => rw [e1] at h; exact fun cls dx fp' H' x r => h cls dx σ fp' H' x r
  | ok il env1 =>
    rw [e1] at h
    obtain ⟨items, lk⟩ := il
    simp only at h
    intro J fp1 H1 x1 hlk r1 it hlen
    obtain ⟨fp1', r1', x1'⟩ := R.nrm nr r1
    refine ⟨fun i m σt Ht => m = items.length - i ∧ i ≤ items.length ∧ ∃ envt fpt, R (bas X) E T io fpt envt σt Ht ∧ Ext env1 fp1 H1 envt fpt Ht ∧ OKS (bas X) E T io envt fpt Ht D W (forL nr gd fb (items.drop i) envt),
      ⟨items.length, by simp, Nat.zero_le _, _, fp1', r1', x1', OKS.lock x1 hlk h x1'⟩, ?_⟩
    rintro i m σt Ht ⟨rfl, hi', envt, fpt, rt, xt, ok⟩
    by_cases hlt : i < items.length
    · have edrop : items.drop i = items[i] :: items.drop (i + 1) := List.drop_eq_getElem_cons hlt
      rw [edrop] at ok
      unfold forL at ok
      cases eg : gd items[i] envt with
      | none => simp only [eg] at ok; exact ok.elim
      | some envg =>
        simp only [eg] at ok
        refine .inr ⟨it.go _ _ _ i xt rt.hb hlt, fun σ' H' => i + 1 ≤ items.length ∧ ∃ envt fpt, R (bas X) E T io fpt envt σ' H' ∧ Ext env1 fp1 H1 envt fpt H' ∧ OKS (bas X) E T io envt fpt H' D W (forL nr gd fb (items.drop (i + 1)) envt),
          fun σ' H' hN => ⟨items.length - (i + 1), by omega, rfl, hN⟩, fun x H' hy => ?_⟩
        obtain ⟨gr, hb', px⟩ := it.yld _ _ _ i items[i] x H' T xt rt.hb (fun a z => .inl (.inl z)) rt.all (List.getElem?_eq_getElem hlt) hy
        refine ⟨E, T, io, envt, fpt, items[i], envg, n, rt.grow gr hb', px, eg, fun σ2 fp2 _ r2 x2 => ?_⟩
        refine ⟨E, T, io, envg, fp2, n, r2, ?_⟩
        have x02 : Ext envt fpt Ht envg fp2 H' := (Ext.grow gr).trans x2
        refine oks_turn (k := fun e2 => forL nr gd fb (items.drop (i + 1)) (nrm nr e2)) (OKS.after x02 ok) fun e2 σ' fp' H3 x3 r3 k => ?_
        obtain ⟨fp4, r4, x4⟩ := R.nrm nr r3
        exact ⟨hlt, _, fp4, r4, (xt.trans x02).trans (x3.trans x4), OKS.after x4 k⟩
    · have hie : i = items.length := by omega
      subst hie
      rw [List.drop_length] at ok
      exact .inl ⟨it.stop _ _ _ _ xt rt.hb (rfl), ok σt fpt Ht Ext.refl rt⟩
theorem ds_while {nr : List (Nat × Bool)} {fuel : Nat} (hp : PassesOwn (model X.prog X.w) X.A X.env X.xe) (hc : DT X W c fc) (hb : DSs X W nio body fb) : DS X W nio (.While c body [] pos) (sWhile fuel nr fc fb) := by
  obtain ⟨t, p, s⟩ := hc.out
  refine .mk ⟨_, ps_while hp p hb, fun E T io env fp σ H D n R0 h => ?_⟩
  obtain ⟨fp1, r1, x1⟩ := R.nrm nr R0
  refine ⟨fun m σt Ht => ∃ envt fpt, R (bas X) E T io fpt envt σt Ht ∧ OKS (bas X) E T io envt fpt Ht D W (whileL nr fc fb m envt), ⟨fuel, _, fp1, r1, OKS.after x1 h⟩, ?_⟩
  rintro m σt Ht ⟨envt, fpt, rt, ok⟩
  cases m with
  | zero => exact ok.elim
  | succ m =>
    unfold whileL at ok
    refine okts_bind (f := fc) (s E T io envt fpt σt Ht _ rt) ok fun b env2 fp2 H2 x2 r2 k => ?_
    cases b with
    | false => exact iteF (k σt fp2 H2 Ext.refl r2)
    | true =>
      refine iteT ⟨fun σ' H' => ∃ envt fpt, R (bas X) E T io fpt envt σ' H' ∧ OKS (bas X) E T io envt fpt H' D W (whileL nr fc fb m envt), fun σ' H' hN => ⟨m, Nat.lt_succ_self m, hN⟩, E, T, io, env2, fp2, n, r2, ?_⟩
      refine oks_turn (k := fun e2 => whileL nr fc fb m (nrm nr e2)) k fun e2 σ' fp' H3 x3 r3 k => ?_
      obtain ⟨fp4, r4, x4⟩ := R.nrm nr r3
      exact ⟨_, fp4, r4, OKS.after x4 k⟩
end
end VL
namespace VL
open PySem PySem.Spec PyProof.Rows L2
variable [tt : TabList]

/-! ### defs -/
/- no list, dict, object within -/
mutual
def imm : D → Bool
  | .non => true | .bl _ => true | .int _ => true | .str _ => true | .ty _ => true | .cls _ => true
  | .tup ds => immL ds
  | _ => false
def immL : List D → Bool
  | [] => true
  | d :: ds => imm d && immL ds
end
def immIn : D → Bool
  | .lst ds => immL ds
  | .dct _ ds => immL ds
  | _ => false
section
variable {B : Bas} {H : Hp} {av av' : Addr → Prop}
mutual
theorem imm_rep (ha : AvOk H av') : ∀ (d : D) (v : V), imm d = true → Rep B H av v d → Rep B H av' v d
  | .non, _, _, h => by cases h; exact .non
  | .bl _, _, _, h => by cases h; exact .bl _
  | .int _, _, _, h => by cases h; exact .int _
  | .str _, _, _, h => by cases h; exact .str _
  | .ty _, _, _, h => by cases h; exact .ty _
  | .cls _, _, _, h => by
    cases h with
    | cls h1 => exact .cls h1
  | .tup ds, _, e, h => by
    have e : immL ds = true := by simpa [imm] using e
    cases h with
    | tup h1 h2 h3 =>
      refine .tup h1 (fun z => ?_) (imm_reps ha ds _ e h3)
      obtain ⟨o, q, w⟩ := ha _ z
      rw [h1] at q; cases q; exact w
  | .clo _ _, _, e, _ => by simp [imm] at e
  | .lst _, _, e, _ => by simp [imm] at e
  | .dct _ _, _, e, _ => by simp [imm] at e
  | .ins _ _ _, _, e, _ => by simp [imm] at e
theorem imm_reps (ha : AvOk H av') : ∀ (ds : List D) (vs : List V), immL ds = true → Reps B H av vs ds → Reps B H av' vs ds
  | [], _, _, h => by cases h; exact .nil
  | d :: ds, _, e, h => by
    have e : imm d = true ∧ immL ds = true := by simpa [immL] using e
    cases h with
    | cons h1 h2 => exact .cons (imm_rep ha d _ e.1 h1) (imm_reps ha ds _ e.2 h2)
end
end

inductive FRes | ok (tv : TV) (io : Option D) | ex (e : Exn) (io : Option D) | stuck
structure Fext (q : Addr → Prop) (H H' : Hp) : Prop where
  chg : ∀ a o, NT o → H a = some o → ¬ q a → H' a = some o
  typ : ∀ a o, H a = some o → ownO o → ∃ o', H' a = some o' ∧ ownO o'
  dom : ∀ a, H a ≠ none → H' a ≠ none
  tab : ∀ p ∈ tt.T, LamX.TabS H p.1 p.2 → LamX.TabS H' p.1 p.2
/-- what a call without an inout parameter must give -/
def FQ (B : Bas) (T : Addr → Prop) (H : Hp) (Q : VK) (E : XK) : FRes → Prop
  | .ok (.fz d) _ => ∀ v H', Fext (fun _ => False) H H' → HB H' → Rep B H' T v d → Q v H'
  | .ok (.ow κ d) _ => ∀ v H' q, Fext (fun _ => False) H H' → HB H' → Own B H' (fun a => T a ∨ q a) κ v d q → (∀ a, q a → H a = none) → Q v H'
  | .ok (.sl _) _ => False
  | .ex e _ => ∀ cls dx H', Fext (fun _ => False) H H' → HB H' → ExR B H' T e cls dx → E cls dx H'
  | .stuck => False
def FQio (B : Bas) (T : Addr → Prop) (κ : Kd) (v0 : V) (q0 : Addr → Prop) (H : Hp) (Q : VK) (E : XK) : FRes → Prop
  | .ok (.fz d) (some d0) => ∀ v H' q, Fext q0 H H' → HB H' → Own B H' (fun a => T a ∨ q a) κ v0 d0 q → (∀ a, q a → q0 a ∨ H a = none) → Rep B H' (fun a => T a ∨ q a) v d → Q v H'
  | .ok (.ow κ' d) (some d0) => ∀ v H' q q', Fext q0 H H' → HB H' → Own B H' (fun a => (T a ∨ q a) ∨ q' a) κ v0 d0 q → (∀ a, q a → q0 a ∨ H a = none) → Own B H' (fun a => (T a ∨ q a) ∨ q' a) κ' v d q' → (∀ a, q' a → H a = none ∧ ¬ q a) → Q v H'
  | .ex e (some d0) => ∀ cls dx H' q, Fext q0 H H' → HB H' → Own B H' (fun a => T a ∨ q a) κ v0 d0 q → (∀ a, q a → q0 a ∨ H a = none) → ExR B H' (fun a => T a ∨ q a) e cls dx → E cls dx H'
  | _ => False
def spF (B : Bas) (n : Nat) (κio : Option Kd) (F : List D → FRes) : Sp := fun vs H Q E => vs.length = n ∧ ∃ (T : Addr → Prop) (ds : List D), AvOk H T ∧ HB H ∧ (∀ p ∈ tt.T, LamX.TabS H p.1 p.2) ∧ (match κio with
  | none => Reps B H T vs ds ∧ FQ B T H Q E (F ds)
  | some κ => ∃ v0 vs' d0 ds' q0, vs = v0 :: vs' ∧ ds = d0 :: ds' ∧ Own B H (fun a => T a ∨ q0 a) κ v0 d0 q0 ∧ (∀ a, q0 a → ¬ T a) ∧ Reps B H (fun a => T a ∨ q0 a) vs' ds' ∧ FQio B T κ v0 q0 H Q E (F ds))

def initE (n : Nat) (κio : Option Kd) (ds : List D) : Env := match κio, ds with
  | some κ, d0 :: ds' => .ow κ d0 :: ((ds'.map SV.fz) ++ List.replicate (n - ds.length) .no)
  | _, _ => (ds.map SV.fz) ++ List.replicate (n - ds.length) .no
def ioOf (κio : Option Kd) (env : Env) : Option D := match κio with
  | none => none
  | some κ => match env[(0 : Nat)]? with
    | some (.ow κ' d) => if κ' = κ then some d else none
    | _ => none
/-- a def's denotation by its body's -/
def runF (n : Nat) (κio : Option Kd) (body : SM) (ds : List D) : FRes := match body (initE n κio ds) with
  | .nx env => .ok (.fz .non) (ioOf κio env)
  | .rt tv env => .ok tv (ioOf κio env)
  | .ex e env => .ex e (ioOf κio env)
  | _ => .stuck

section
variable {P : Program} {w : World} {K : PySem.W.Frag} {mg : Str → Option Value} {base : Heap}
theorem reps_nth {B : Bas} {H : Hp} {av : Addr → Prop} {n : Nat} : ∀ {vs : List V} {ds : List D} {i : Nat} {sv : SV} {x : Option V}, Reps B H av vs ds → (ds.map SV.fz ++ List.replicate n .no)[i]? = some sv → (vs.map some ++ List.replicate n none)[i]? = some x → SlotR B H av sv x (fun _ => False)
  | [], [], i, sv, x, .nil, h1, h2 => by
    simp only [List.map_nil, List.nil_append] at h1
    have := List.mem_of_getElem? h1
    rw [List.mem_replicate] at this
    rw [this.2]; exact fun _ z => z
  | v :: vs, d :: ds, 0, sv, x, .cons h _, h1, h2 => by
    simp at h1 h2; subst h1 h2
    exact ⟨⟨v, rfl, h⟩, fun _ z => z⟩
  | v :: vs, d :: ds, i + 1, sv, x, .cons _ t, h1, h2 => by
    simp at h1 h2
    exact reps_nth (i := i) t (by simpa using h1) (by simpa using h2)
theorem fext_of {env env' : Env} {fp fp' : Nat → Addr → Prop} {H H' : Hp} {q : Addr → Prop} (x : Ext env fp H env' fp' H') (hq : ∀ i a, fp i a → q a) : Fext q H H' :=
  ⟨fun a o nt e n => x.chg a o nt e fun i z => absurd (hq i a z) n, x.typ, x.dom, x.tab⟩
theorem newOf {H : Hp} {a : Addr} (h : ¬ H a ≠ none) : H a = none := by
  cases q : H a with
  | none => rfl
  | some o => exact absurd (by rw [q]; exact fun z => nomatch z) h
/-- a def's body, by its denotation -/
theorem fn_body {qual : Str} {st : Stmt} {f : Addr} {N ps : List Str} {κio : Option Kd} {body : SM} {cdv : Value} {A : Around} {outer : List PySem.Env} {s : Shared} {H : Hp} {vs : List V} {Q : VK} {E : XK} (S : FnScope N ps (defScope st))
    (hd : DSs (cxOf (L2.CX P w) P w K mg base N qual (defScope st) f cdv A outer s H E) (fun cls d _ H => E cls d H) κio.isNone (defBody st) body) (h : spF (mkB K mg) ps.length κio (runF N.length κio body) vs H Q E) :
    ∃ t, PSs (cxOf (L2.CX P w) P w K mg base N qual (defScope st) f cdv A outer s H E) (defBody st) t ∧ t { nx := fun _ H' => Q .non H', rt := Q } (start N vs) H := by
  have hNp : ps.length ≤ N.length := by
    have := congrArg List.length S.pre
    rw [List.length_take] at this
    omega
  obtain ⟨hl, T, ds, hT, hb, hTb, h⟩ := h
  obtain ⟨t, p, sd⟩ := hd.out
  refine ⟨t, p, ?_⟩
  cases κio with
  | none =>
    obtain ⟨rs, fq⟩ := h
    have hld := rs.length
    have r0 : R (mkB K mg) (fun a => H a ≠ none) T none (fun _ _ => False) (initE N.length none ds) (L2.start N vs) H := by
      refine ⟨?_, fun i sv x h1 h2 => ?_, fun _ _ z => z.elim, fun _ _ _ z => z.elim, fun _ _ z => z.elim, fun a z => hT a (z.elim id fun ⟨_, z⟩ => z.elim), fun _ _ z => z.elim, (fun _ e => by cases e), fun _ z => z, hb, hTb⟩
      · unfold initE L2.start
        simp only [List.length_append, List.length_map, List.length_replicate]; omega
      · have av : (avOf T fun (_ : Nat) (_ : Addr) => False) = T := by
          funext a; exact propext ⟨fun z => z.elim id fun ⟨_, z⟩ => z.elim, fun z => .inl z⟩
        rw [av]
        unfold initE at h1
        unfold L2.start at h2
        simp only at h1
        rw [hld] at h2
        exact reps_nth rs h1 h2
    refine sd _ T none _ _ _ H _ (fun _ => rfl) r0 ?_
    unfold runF at fq
    have avx : ∀ {fp' : Nat → Addr → Prop} {a : Addr}, T a → avOf T fp' a := fun z => .inl z
    cases e : body (initE N.length none ds) with
    | stuck => rw [e] at fq; exact fq.elim
    | bk env => rw [e] at fq; exact fq.elim
    | ct env => rw [e] at fq; exact fq.elim
    | nx env => rw [e] at fq; exact fun σ' fp' H' x r => fq .non H' (fext_of x fun _ _ z => z) r.hb .non
    | ex ee env => rw [e] at fq; exact fun cls dx σ' fp' H' x r ⟨C, d, v, e1, e2, e3, e4, e5⟩ => fq cls dx H' (fext_of x fun _ _ z => z) r.hb ⟨C, d, v, e1, e2, e3, e4, e5.weak fun a z => .inl z⟩
    | rt tv env =>
      rw [e] at fq
      cases tv with
      | sl i => exact fq.elim
      | fz d => exact fun v σ' fp' H' x r p => fq v H' (fext_of x fun _ _ z => z) r.hb (p.weak fun a z => .inl z)
      | ow κ d => exact fun v σ' fp' H' q x r o hq => fq v H' q (fext_of x fun _ _ z => z) r.hb (o.mono (fun _ _ _ e _ => e) (fun a z => .inl (.inl z)) fun _ _ _ e => e) fun a z => newOf (hq a z).2.1
  | some κ =>
    obtain ⟨v0, vs', d0, ds', q0, rfl, rfl, own, hqT, rs, fq⟩ := h
    have hld := rs.length
    have fp0 : ∀ {i : Nat} {a : Addr}, (if i = 0 then q0 a else False) → i = 0 ∧ q0 a := fun {i a} z => by
      by_cases h : i = 0
      · rw [if_pos h] at z; exact ⟨h, z⟩
      · rw [if_neg h] at z; exact z.elim
    have av : (avOf T fun (i : Nat) (a : Addr) => if i = 0 then q0 a else False) = fun a => T a ∨ q0 a := by
      funext a; exact propext ⟨fun z => z.imp id fun ⟨_, z⟩ => (fp0 z).2, fun z => z.imp id fun z => ⟨0, by show (if (0 : Nat) = 0 then q0 a else False); rw [if_pos rfl]; exact z⟩⟩
    have r0 : R (mkB K mg) (fun a => H a ≠ none) T (some v0) (fun i a => if i = 0 then q0 a else False) (initE N.length (some κ) (d0 :: ds')) (L2.start N (v0 :: vs')) H := by
      refine ⟨?_, fun i sv x h1 h2 => ?_, fun i a z => ?_, fun i j a z1 z2 => (fp0 z1).1.trans (fp0 z2).1.symm, fun i a z => hqT a (fp0 z).2, fun a z => ?_, fun i a z _ => ⟨(fp0 z).1, rfl⟩, (fun v e => by cases e; rfl), fun _ z => z, hb, hTb⟩
      · unfold initE L2.start
        simp only [List.length_append, List.length_map, List.length_replicate, List.length_cons] at hl ⊢; omega
      · rw [av]
        unfold initE at h1
        unfold L2.start at h2
        simp only at h1
        cases i with
        | zero =>
          simp at h1 h2
          subst h1 h2
          exact ⟨v0, rfl, by simpa using own⟩
        | succ i =>
          simp only [List.getElem?_cons_succ, List.map_cons, List.cons_append] at h1 h2
          rw [List.length_cons] at h1 h2
          rw [hld] at h2
          have := reps_nth rs h1 h2
          simpa using this
      · rw [(fp0 z).1]; unfold initE; simp
      · rw [av] at z
        exact z.elim (hT a) (own.cells a)
    refine sd _ T (some v0) _ _ _ H _ (fun h => by cases h) r0 ?_
    unfold runF at fq
    have io : ∀ {env : Env} {σ' : L2.St} {fp' : Nat → Addr → Prop} {H' : Hp} {T' : Addr → Prop} {d : D}, R (mkB K mg) (fun a => H a ≠ none) T' (some v0) fp' env σ' H' → ioOf (some κ) env = some d → Own (mkB K mg) H' (avOf T' fp') κ v0 d (fp' 0) := fun {env σ' fp' H' T' d} r e => by
      unfold ioOf at e
      simp only at e
      split at e
      · rename_i κ' d' e0
        split at e
        · rename_i hk
          subst hk
          cases e
          obtain ⟨v, ev, o⟩ := slot_own r e0
          rw [r.io0 v0 rfl] at ev
          cases ev
          exact o
        · cases e
      · cases e
    have sub : ∀ {env' : Env} {fp' : Nat → Addr → Prop} {H' : Hp}, Ext (initE N.length (some κ) (d0 :: ds')) (fun i a => if i = 0 then q0 a else False) H env' fp' H' → ∀ a, fp' 0 a → q0 a ∨ H a = none := fun {env' fp' H'} x a z => by
      cases q : H a with
      | none => exact .inr rfl
      | some o =>
        obtain ⟨j, z', _⟩ := x.sub 0 a z (by rw [q]; exact fun z => nomatch z)
        exact .inl (fp0 z').2
    have fx : ∀ {env' : Env} {fp' : Nat → Addr → Prop} {H' : Hp}, Ext (initE N.length (some κ) (d0 :: ds')) (fun i a => if i = 0 then q0 a else False) H env' fp' H' → Fext q0 H H' := fun x => fext_of x fun i a z => (fp0 z).2
    have wk : ∀ {fp' : Nat → Addr → Prop} (a : Addr), (T a ∨ fp' 0 a) → avOf T fp' a := fun a z => z.imp id fun z => ⟨0, z⟩
    cases e : body (initE N.length (some κ) (d0 :: ds')) with
    | stuck => rw [e] at fq; exact fq.elim
    | bk env => rw [e] at fq; exact fq.elim
    | ct env => rw [e] at fq; exact fq.elim
    | nx env =>
      rw [e] at fq
      cases e2 : ioOf (some κ) env with
      | none => simp only [e2] at fq; exact fq.elim
      | some d =>
        simp only [e2] at fq
        exact fun σ' fp' H' x r => fq .non H' (fp' 0) (fx x) r.hb ((io r e2).mono (fun _ _ _ e _ => e) (fun a z => .inl (wk a z)) fun _ _ _ e => e) (sub x) .non
    | ex ee env =>
      rw [e] at fq
      cases e2 : ioOf (some κ) env with
      | none => simp only [e2] at fq; exact fq.elim
      | some d =>
        simp only [e2] at fq
        exact fun cls dx σ' fp' H' x r ⟨C, d, v, e1, e22, e3, e4, e5⟩ => fq cls dx H' (fp' 0) (fx x) r.hb ((io r e2).mono (fun _ _ _ e _ => e) (fun a z => .inl (wk a z)) fun _ _ _ e => e) (sub x) ⟨C, d, v, e1, e22, e3, e4, e5.weak wk⟩
    | rt tv env =>
      rw [e] at fq
      cases e2 : ioOf (some κ) env with
      | none => cases tv <;> simp only [e2] at fq <;> exact fq.elim
      | some d =>
        simp only [e2] at fq
        cases tv with
        | sl i => exact fq.elim
        | fz d' => exact fun v σ' fp' H' x r p => fq v H' (fp' 0) (fx x) r.hb ((io r e2).mono (fun _ _ _ e _ => e) (fun a z => .inl (wk a z)) fun _ _ _ e => e) (sub x) (p.weak wk)
        | ow κ' d' =>
          intro v σ' fp' H' q x r o hq
          have wk2 : ∀ a, ((T a ∨ fp' 0 a) ∨ q a) → avOf (fun a => T a ∨ q a) fp' a := fun a z => by
            rcases z with (z | z) | z
            · exact .inl (.inl z)
            · exact .inr ⟨0, z⟩
            · exact .inl (.inr z)
          refine fq v H' (fp' 0) q (fx x) r.hb ((io r e2).mono (fun _ _ _ e _ => e) (fun a z => .inl (wk2 a z)) fun _ _ _ e => e) (sub x) (o.mono (fun _ _ _ e _ => e) (fun a z => .inl (wk2 a z)) fun _ _ _ e => e) fun a z => ?_
          exact ⟨newOf (hq a z).2.1, fun z' => r.offT 0 a z' (.inr z)⟩
/-- THE RULE for a def -/
theorem fn_mk {x qual : Str} {st : Stmt} {f : Addr} {fd : FuncData} {N ps : List Str} {k : Nat} {κio : Option Kd} {body : SM} (F : Fun K x qual st f fd) (S : FnScope N ps (defScope st))
    (hbody : ∀ (cdv : Value) (A : Around) (outer : List PySem.Env) (s : Shared) (H : Hp) (E : XK), Room k (A.deeper (envOfC qual (defScope st) s.heap.objs.size f cdv)) →
      DSs (cxOf (L2.CX P w) P w K mg base N qual (defScope st) f cdv A outer s H E) (fun cls d _ H => E cls d H) κio.isNone (defBody st) body) :
    FnOk P w K mg base (L2.CX P w) (k + 1) f fd ps (spF (mkB K mg) ps.length κio (runF N.length κio body)) :=
  F.okX S (fun vs H Q E h => h.1) fun cdv A outer s H vs Q E hr h => fn_body S (hbody cdv A outer s H E hr) h
end
end VL
namespace VL
open PySem PySem.Spec PyProof.Rows L2
variable [tt : TabList]

/-! ### calls of defs -/
def argB (env : Env) : TV → Option (D × Bool)
  | .fz d => some (d, false)
  | .ow _ d => some (d, false)
  | .sl i => match env[i]? with
    | some (.fz d) => some (d, false)
    | some (.ow _ d) => some (d, true)
    | some (.lk _ d) => some (d, true)
    | _ => none
def argsB (env : Env) : List TV → Option (List D × Bool)
  | [] => some ([], false)
  | t :: ts => match argB env t, argsB env ts with
    | some (d, b), some (ds, b') => some (d :: ds, b || b')
    | _, _ => none
def cFn (F : List D → FRes) (fs : List (M TV)) : M TV := fun env => (cArgs fs env).bind fun ts env1 => match argsB env1 ts with
  | some (ds, bor) => match F ds with
    | .ok (.fz d) _ => if !bor || imm d then .ok (.fz d) env1 else .stuck
    | .ok (.ow κ d) _ => if !bor || (κ.one && immIn d) then .ok (.ow κ d) env1 else .stuck
    | .ex e _ => if !bor || imm e.arg then .ex e env1 else .stuck
    | _ => .stuck
  | none => .stuck
/-- the first argument is slot i, inout -/
def cFnIo (i : Nat) (κ : Kd) (F : List D → FRes) (fs : List (M TV)) : M TV := fun env => match env[i]? with
  | some (.ow _ _) => (cArgs fs env).bind fun ts env1 => match env1[i]?, frzs ts with
    | some (.ow κ1 d0), some ds => if κ1 = κ then match F (d0 :: ds) with
        | .ok (.fz d) (some d0') => .ok (.fz d) (env1.set i (.ow κ d0'))
        | .ok (.ow κ' d) (some d0') => .ok (.ow κ' d) (env1.set i (.ow κ d0'))
        | .ex e (some d0') => .ex e (env1.set i (.ow κ d0'))
        | _ => .stuck
      else .stuck
    | _, _ => .stuck
  | _ => .stuck
/-- cells of borrowed slots -/
def borC (fp : Nat → Addr → Prop) (ts : List TV) (a : Addr) : Prop := ∃ j, TV.sl j ∈ ts ∧ fp j a
section
variable {B : Bas} {E T : Addr → Prop} {io : Option V} {env : Env} {fp : Nat → Addr → Prop} {σ : L2.St} {H : Hp}
theorem argB_rep (r : R B E T io fp env σ H) {av' : Addr → Prop} (hav : ∀ a, av' a → avOf T fp a) {v : V} {t : TV} {d : D} {b : Bool} (hb : ∀ j a, t = .sl j → fp j a → ¬ av' a) (h : Hold B T fp H σ v t) (e : argB env t = some (d, b)) : Rep B H av' v d := by
  cases t with
  | fz d' => cases e; exact Rep.weak hav h
  | ow κ d' => cases e; exact Rep.weak hav h
  | sl i =>
    have h : σ[i]? = some (some v) := h
    simp only [argB] at e
    cases q : env[i]? with
    | none => simp only [q] at e; cases e
    | some sv =>
      simp only [q] at e
      have s := r.slot i sv _ q h
      cases sv with
      | no => cases e
      | fz d' => cases e; obtain ⟨⟨v', ev, p⟩, _⟩ := s; cases ev; exact p.weak hav
      | ow κ d' => cases e; obtain ⟨v', ev, p⟩ := s; cases ev; exact p.rep hav fun a z => hb i a rfl z
      | lk κ d' => cases e; obtain ⟨v', ev, p⟩ := s; cases ev; exact p.rep hav fun a z => hb i a rfl z
theorem argsB_reps (r : R B E T io fp env σ H) {av' : Addr → Prop} (hav : ∀ a, av' a → avOf T fp a) : ∀ {vs : List V} {ts : List TV} {ds : List D} {b : Bool}, (∀ j a, TV.sl j ∈ ts → fp j a → ¬ av' a) → Holds B T fp H σ vs ts → argsB env ts = some (ds, b) → Reps B H av' vs ds := by
  intro vs ts ds b hb hh e
  induction hh generalizing ds b with
  | nil => cases e; exact .nil
  | @cons v vs t ts h rr ih =>
    unfold argsB at e
    cases e1 : argB env t with
    | none => rw [e1] at e; cases e
    | some db =>
      cases e2 : argsB env ts with
      | none => rw [e1, e2] at e; cases e
      | some dsb =>
        obtain ⟨d, b1⟩ := db
        obtain ⟨ds', b2⟩ := dsb
        rw [e1, e2] at e; cases e
        exact .cons (argB_rep r hav (fun j a z => hb j a (by rw [z]; exact List.mem_cons_self)) h e1) (ih (fun j a z => hb j a (List.mem_cons_of_mem _ z)) e2)
theorem argsB_no : ∀ {ts : List TV} {ds : List D}, argsB env ts = some (ds, false) → ∀ (j : Nat), TV.sl j ∈ ts → (∃ d, env[j]? = some (.fz d))
  | [], _, _, j, h => by simp at h
  | t :: ts, ds, e, j, h => by
    unfold argsB at e
    cases e1 : argB env t with
    | none => rw [e1] at e; cases e
    | some db =>
      cases e2 : argsB env ts with
      | none => rw [e1, e2] at e; cases e
      | some dsb =>
        obtain ⟨d, b1⟩ := db
        obtain ⟨ds', b2⟩ := dsb
        rw [e1, e2] at e
        have eb : (b1 || b2) = false := by injection e with e; injection e
        have eb1 : b1 = false := by cases b1 <;> simp_all
        have eb2 : b2 = false := by cases b2 <;> simp_all
        subst eb1 eb2
        rcases List.mem_cons.mp h with h | h
        · subst h
          simp only [argB] at e1
          cases q : env[j]? with
          | none => simp only [q] at e1; cases e1
          | some sv =>
            cases sv with
            | fz d => exact ⟨d, rfl⟩
            | no => simp only [q] at e1; cases e1
            | ow _ _ => simp only [q] at e1; cases e1
            | lk _ _ => simp only [q] at e1; cases e1
        · exact argsB_no e2 j h
theorem fx_keep {H H' : Hp} (x : Fext (fun _ => False) H H') {a : Addr} {o : HO} (nt : NT o) (e : H a = some o) : H' a = some o := x.chg a o nt e fun z => z
theorem Ext.growT {env : Env} {fp : Nat → Addr → Prop} {H H' : Hp} (g : Fext (fun _ => False) H H') : Ext env fp H env fp H' := ⟨fun a o nt e _ => fx_keep g nt e, fun i _ h _ => ⟨i, h, fun z => ⟨rfl, z⟩⟩, g.dom, g.typ, g.tab⟩
theorem R.moreT {E T : Addr → Prop} {io : Option V} {env : Env} {fp : Nat → Addr → Prop} {σ : L2.St} {H H' : Hp} (r : R B E T io fp env σ H) {q : Addr → Prop} (g : Fext (fun _ => False) H H') (hq : ∀ a, q a → H a = none) (ho : ∀ a, q a → ∃ o, H' a = some o ∧ ownO o) (hb : HB H') : R B E (fun a => T a ∨ q a) io fp env σ H' := by
  have al : ∀ a, avOf T fp a → ∃ o, H' a = some o ∧ ownO o := fun a h => by obtain ⟨o, e, w⟩ := r.all a h; exact ⟨o, fx_keep g (own_nt w) e, w⟩
  refine ⟨r.len, fun i sv x h1 h2 => ?_, r.out, r.dis, fun i a h => ?_, fun a h => ?_, r.new, r.io0, fun a h => g.dom a (r.old a h), hb, fun p hp => g.tab _ hp (r.tabs p hp)⟩
  · refine (r.slot i sv x h1 h2).mono (fun a o nt e _ => fx_keep g nt e) (fun a z => ?_) (fun a o z e => fx_keep g (own_nt (r.own_at z e)) e)
    rcases z with (z | z) | z
    · exact .inl (.inl z)
    · exact .inr (hq a z)
    · exact .inl (.inr z)
  · rintro (z | z)
    · exact r.offT i a h z
    · exact r.avH (.inr ⟨i, h⟩) (hq a z)
  · rcases h with (z | z) | z
    · exact al a (.inl z)
    · exact ho a z
    · exact al a (.inr z)
theorem R.growT {E T : Addr → Prop} {io : Option V} {env : Env} {fp : Nat → Addr → Prop} {σ : L2.St} {H H' : Hp} (r : R B E T io fp env σ H) (g : Fext (fun _ => False) H H') (hb : HB H') : R B E T io fp env σ H' :=
  (r.moreT (q := fun _ => False) g (fun _ z => z.elim) (fun _ z => z.elim) hb).sub fun _ z => .inl z
theorem own_imm {κ : Kd} {v : V} {d : D} {q av av' : Addr → Prop} (h : Own B H av κ v d q) (hk : κ.one = true) (hi : immIn d = true) (ha : AvOk H av') : Own B H av' κ v d q := by
  cases κ with
  | l => obtain ⟨a, vs, ds, h1, rfl, e, h3, rfl⟩ := h; exact ⟨a, vs, ds, h1, rfl, e, imm_reps ha ds _ hi h3, rfl⟩
  | dk => obtain ⟨a, vs, ds, h1, rfl, e, h3, rfl⟩ := h; exact ⟨a, vs, ds, h1, rfl, e, imm_reps ha ds _ hi h3, rfl⟩
  | dt => obtain ⟨a, vs, ds, h1, rfl, e, h3, rfl⟩ := h; exact ⟨a, vs, ds, h1, rfl, e, imm_reps ha ds _ hi h3, rfl⟩
  | l2 => exact absurd hk (by decide)
  | m => exact absurd hk (by decide)
end
section
variable {X : Cx} {W : WX} {fs : List (M TV)} {F : List D → FRes}
/-- the callee's promise, from the caller's state -/
theorem sound_fn {n : Nat} {E T : Addr → Prop} {io : Option V} {env1 : Env} {fp1 : Nat → Addr → Prop} {σ : L2.St} {H1 : Hp} {Q : VK} {vs : List V} {ts : List TV} (r1 : R (bas X) E T io fp1 env1 σ H1) (h1 : Holds (bas X) T fp1 H1 σ vs ts) (hn : ∀ ds b, argsB env1 ts = some (ds, b) → ds.length = n)
    (k : OKE (bas X) E T io env1 fp1 H1 σ Q W (match argsB env1 ts with
      | some (ds, bor) => match F ds with
        | .ok (.fz d) _ => if !bor || imm d then .ok (.fz d) env1 else .stuck
        | .ok (.ow κ d) _ => if !bor || (κ.one && immIn d) then .ok (.ow κ d) env1 else .stuck
        | .ex e _ => if !bor || imm e.arg then .ex e env1 else .stuck
        | _ => .stuck
      | none => .stuck)) : spF (bas X) n none F vs H1 Q (fun cls d H' => W cls d σ H') := by
  cases ea : argsB env1 ts with
  | none => simp only [ea] at k; exact k.elim
  | some db =>
    obtain ⟨ds, bor⟩ := db
    simp only [ea] at k
    have hT' : ∀ a, (avOf T fp1 a ∧ ¬ borC fp1 ts a) → avOf T fp1 a := fun a z => z.1
    have rs : Reps (bas X) H1 (fun a => avOf T fp1 a ∧ ¬ borC fp1 ts a) vs ds := argsB_reps r1 hT' (fun j a z1 z2 z => z.2 ⟨j, z1, z2⟩) h1 ea
    have hl : vs.length = n := by rw [rs.length]; exact hn ds bor ea
    refine ⟨hl, _, ds, fun a z => r1.all a z.1, r1.hb, r1.tabs, rs, ?_⟩
    have nb : bor = false → ∀ a, avOf T fp1 a → (avOf T fp1 a ∧ ¬ borC fp1 ts a) := fun e a z => ⟨z, fun ⟨j, z1, z2⟩ => by
      subst e
      obtain ⟨d, q⟩ := argsB_no ea j z1
      have hlj : j < σ.length := by rw [← r1.len]; exact (List.getElem?_eq_some_iff.mp q).1
      exact (r1.slot j _ _ q (List.getElem?_eq_getElem hlj)).2 a z2⟩
    cases ef : F ds with
    | stuck => simp only [ef] at k; exact k.elim
    | ex e io' =>
      simp only [ef] at k
      split at k
      · rename_i hc
        intro cls dx H' fx hb ⟨C, d, v, e1, e2, e3, e4, e5⟩
        have gr := fx
        have r' := r1.growT gr hb
        refine k cls dx fp1 H' (Ext.growT gr) r' ⟨C, d, v, e1, e2, e3, e4, ?_⟩
        cases bor with
        | false => exact e5.weak (nb rfl)
        | true => exact imm_rep r'.all _ _ (by simpa using hc) e5
      · exact k.elim
    | ok tv io' =>
      simp only [ef] at k
      cases tv with
      | sl i => exact k.elim
      | fz d =>
        simp only at k
        split at k
        · rename_i hc
          intro v H' fx hb p
          have gr := fx
          have r' := r1.growT gr hb
          refine k v fp1 H' (Ext.growT gr) r' ?_
          cases bor with
          | false => exact p.weak (nb rfl)
          | true => exact imm_rep r'.all _ _ (by simpa using hc) p
        · exact k.elim
      | ow κ d =>
        simp only at k
        split at k
        · rename_i hc
          intro v H' q fx hb o hq
          have gr := fx
          have r' := r1.moreT gr hq o.cells hb
          refine k v fp1 H' (Ext.growT gr) q r' ?_ fun a z => ⟨fun z' => r1.avH (.inl z') (hq a z), fun z' => r1.old a z' (hq a z), .inl (hq a z)⟩
          cases bor with
          | false =>
            refine o.mono (fun _ _ _ e _ => e) (fun a z => .inl ?_) fun _ _ _ e => e
            rcases z with (z | z) | z
            · exact .inl (nb rfl a (.inl z))
            · exact .inr z
            · exact .inl (nb rfl a (.inr z))
          | true =>
            have hc : κ.one = true ∧ immIn d = true := by simpa using hc
            exact own_imm o hc.1 hc.2 r'.all
        · exact k.elim
theorem cArgs_len : ∀ {fs : List (M TV)} {env env1 : Env} {ts : List TV}, cArgs fs env = .ok ts env1 → ts.length = fs.length
  | [], env, env1, ts, h => by cases h; rfl
  | f :: fs, env, env1, ts, h => by
    unfold cArgs at h
    cases e : f env with
    | stuck => rw [e] at h; cases h
    | ex _ _ => rw [e] at h; cases h
    | ok t env2 =>
      rw [e] at h
      simp only [Res.bind] at h
      cases e2 : cArgs fs env2 with
      | stuck => rw [e2] at h; cases h
      | ex _ _ => rw [e2] at h; cases h
      | ok ts' env3 => rw [e2] at h; cases h; rw [List.length_cons, List.length_cons, cArgs_len e2]
theorem argsB_len {env : Env} : ∀ {ts : List TV} {ds : List D} {b : Bool}, argsB env ts = some (ds, b) → ds.length = ts.length
  | [], _, _, e => by cases e; rfl
  | t :: ts, ds, b, e => by
    unfold argsB at e
    cases e1 : argB env t with
    | none => rw [e1] at e; cases e
    | some db =>
      cases e2 : argsB env ts with
      | none => rw [e1, e2] at e; cases e
      | some dsb =>
        obtain ⟨d, b1⟩ := db
        obtain ⟨ds', b2⟩ := dsb
        rw [e1, e2] at e; cases e
        rw [List.length_cons, List.length_cons, argsB_len e2]
theorem frzs_len : ∀ {ts : List TV} {ds : List D}, frzs ts = some ds → ds.length = ts.length
  | [], _, e => by cases e; rfl
  | t :: ts, ds, e => by
    unfold frzs at e
    cases e1 : frzV t with
    | none => rw [e1] at e; cases e
    | some d =>
      cases e2 : frzs ts with
      | none => rw [e1, e2] at e; cases e
      | some ds' => rw [e1, e2] at e; cases e; rw [List.length_cons, List.length_cons, frzs_len e2]
theorem sound_fnA {n : Nat} {t : TA} (s : ∀ E T io env fp σ H Q, R (bas X) E T io fp env σ H → OKA (bas X) E T io env fp H σ Q W (cArgs fs env) → t σ H Q) (hn : fs.length = n) {E T io env fp σ H Q} (R0 : R (bas X) E T io fp env σ H) (h : OKE (bas X) E T io env fp H σ Q W (cFn F fs env)) :
    t σ H fun vs H1 => spF (bas X) n none F (vs ++ []) H1 Q (fun cls d H' => W cls d σ H') := by
  unfold cFn at h
  cases ec : cArgs fs env with
  | stuck => rw [ec] at h; exact h.elim
  | ex e env' => exact s E T io env fp σ H _ R0 (by rw [ec] at h ⊢; exact h)
  | ok ts env1 =>
    rw [ec] at h
    refine s E T io env fp σ H _ R0 ?_
    rw [ec]
    intro vs fp1 H1 x1 r1 h1
    rw [List.append_nil]
    exact sound_fn r1 h1 (fun ds b e => by rw [argsB_len e, cArgs_len ec, hn]) (OKE.after x1 h)
/-- f(e, ..) -/
theorem de_call {k n : Nat} {f : Addr} {fd : FuncData} {ps : List Str} {x : Str} {e : Expr} {es : List Expr} {p pos : Pos} (G : FnOk X.prog X.w X.K X.mg X.base (L2.CX X.prog X.w) k f fd ps (spF (bas X) n none F)) (hr : Room k X.A) (hg : Gl X x) (hm : X.mg x = some (.ref f)) (hk : PySem.W.keepIn X.K (.ref f) = true)
    (hb : Binds X.K fd ps []) (tk : Takes X W) (ha : DA X W (e :: es) fs) (hn : fs.length = n) (hdb : (x == ("__debug__" : Str)) = false := by decide) (he : starEach (e :: es) X.env = (false, eval e X.env) :: starEach es X.env := by rfl) (hpl : (backTo pos (starEach es X.env)).any (·.1) = false := by rfl) :
    DE X W (.Call (.Name x p) (e :: es) [] pos) (cFn F fs) := by
  obtain ⟨t, pa, s⟩ := ha.out
  refine .mk ⟨_, pe_callSD (E := fun σ cls d H' => W cls d σ H') (dvs := []) G hr hg hm hk hb .nil (fun σ pins H s' e s'' I c => tk e s'' (XE.of_call I (fun cls d H' h => h) c)) pa hdb he hpl, fun E T io env fp σ H Q R0 h => ?_⟩
  exact sound_fnA s hn R0 h
theorem pe_call0S {k : Nat} {f : Addr} {fd : FuncData} {ps : List Str} {x : Str} {p pos : Pos} {sp : Sp} {Es : L2.St → XK} (G : FnOk X.prog X.w X.K X.mg X.base (L2.CX X.prog X.w) k f fd ps sp) (hr : Room k X.A) (hg : Gl X x) (hm : X.mg x = some (.ref f)) (hk : PySem.W.keepIn X.K (.ref f) = true)
    (hb : Binds X.K fd ps []) (hx : ∀ σ, PassesAt (L2.CX X.prog X.w) X σ (Es σ)) (hdb : (x == ("__debug__" : Str)) = false := by decide) : PE X (.Call (.Name x p) [] [] pos) (tCallSD sp [] Es tNil) := by
  refine ⟨fun pins s σ H Q I h => ?_⟩
  refine wpAny_Call_Name_kw (ld_glob I hg hm ?_ hdb)
  exact PySem.W.callWith_K0 I.kIn hk (run_fnSD (us := []) G hr hb .nil (hx σ) I .nil h)
/-- f() -/
theorem de_call0 {k : Nat} {f : Addr} {fd : FuncData} {ps : List Str} {x : Str} {p pos : Pos} (G : FnOk X.prog X.w X.K X.mg X.base (L2.CX X.prog X.w) k f fd ps (spF (bas X) 0 none F)) (hr : Room k X.A) (hg : Gl X x) (hm : X.mg x = some (.ref f)) (hk : PySem.W.keepIn X.K (.ref f) = true)
    (hb : Binds X.K fd ps []) (tk : Takes X W) (hdb : (x == ("__debug__" : Str)) = false := by decide) : DE X W (.Call (.Name x p) [] [] pos) (cFn F []) := by
  refine .mk ⟨_, pe_call0S (Es := fun σ cls d H' => W cls d σ H') G hr hg hm hk hb (fun σ pins H s' e s'' I c => tk e s'' (XE.of_call I (fun cls d H' h => h) c)) hdb, fun E T io env fp σ H Q R0 h => ?_⟩
  exact sound_fnA (fs := []) (t := tNil) (fun E T io env fp σ H Q R0 h => h [] fp H Ext.refl R0 .nil) rfl R0 h

/-- f(m, ..), m the slot i, inout -/
theorem sound_io {n i : Nat} {κ : Kd} {t : TA} (s : ∀ E T io env fp σ H Q, R (bas X) E T io fp env σ H → OKA (bas X) E T io env fp H σ Q W (cArgs fs env) → t σ H Q) (hn : fs.length + 1 = n) {E T io env fp σ H Q} (R0 : R (bas X) E T io fp env σ H) (h : OKE (bas X) E T io env fp H σ Q W (cFnIo i κ F fs env)) :
    tCons (tVar i) t σ H fun vs H1 => spF (bas X) n (some κ) F (vs ++ []) H1 Q (fun cls d H' => W cls d σ H') := by
  unfold cFnIo at h
  cases e0 : env[i]? with
  | none => simp only [e0] at h; exact h.elim
  | some sv0 =>
  cases sv0 with
  | no => simp only [e0] at h; exact h.elim
  | fz _ => simp only [e0] at h; exact h.elim
  | lk _ _ => simp only [e0] at h; exact h.elim
  | ow κ0 d00 =>
  simp only [e0] at h
  obtain ⟨v0, ev0, _⟩ := slot_own R0 e0
  refine ⟨v0, ev0, ?_⟩
  cases ec : cArgs fs env with
  | stuck => rw [ec] at h; exact h.elim
  | ex e env' => exact s E T io env fp σ H _ R0 (by rw [ec] at h ⊢; exact h)
  | ok ts env1 =>
    rw [ec] at h
    refine s E T io env fp σ H _ R0 ?_
    rw [ec]
    intro vs fp1 H1 x1 r1 h1
    have k := OKE.after x1 h
    simp only [Res.bind] at k
    show spF (bas X) n (some κ) F ((v0 :: vs) ++ []) H1 Q (fun cls d H' => W cls d σ H')
    rw [List.append_nil]
    cases e1 : env1[i]? with
    | none => simp only [e1] at k; exact k.elim
    | some sv =>
    cases sv with
    | no => simp only [e1] at k; exact k.elim
    | fz _ => simp only [e1] at k; exact k.elim
    | lk _ _ => simp only [e1] at k; exact k.elim
    | ow κ1 d0 =>
    cases e2 : frzs ts with
    | none => simp only [e1, e2] at k; exact k.elim
    | some ds =>
    simp only [e1, e2] at k
    by_cases hk : κ1 = κ
    · subst hk
      simp only [if_true] at k
      obtain ⟨v', ev', own⟩ := slot_own r1 e1
      rw [ev0] at ev'; cases ev'
      have hi := (List.getElem?_eq_some_iff.mp e1).1
      have l := unlk e1 (fun _ _ z => nomatch z)
      have rs := frzs_reps h1 e2
      have hav : ∀ a, ((avOf T fp1 a ∧ ¬ fp1 i a) ∨ fp1 i a) → avOf T fp1 a := fun a z => z.elim (·.1) fun z => .inr ⟨i, z⟩
      refine ⟨by rw [List.length_cons, rs.length, frzs_len e2, cArgs_len ec, hn], fun a => avOf T fp1 a ∧ ¬ fp1 i a, d0 :: ds, fun a z => r1.all a z.1, r1.hb, r1.tabs, v0, vs, d0, ds, fp1 i, rfl, rfl, own.mono (fun _ _ _ e _ => e) (fun a z => .inl (hav a z)) fun _ _ _ e => e, fun a z z' => z'.2 z, rs.weak hav, ?_⟩
      -- behind the call
      have av2 : ∀ (q : Addr → Prop) (a : Addr), avOf T (setF fp1 i q) a → ((avOf T fp1 a ∧ ¬ fp1 i a) ∨ q a) := fun q a z => by
        rcases z with z | ⟨j, z⟩
        · exact .inl ⟨.inl z, fun z' => r1.offT i a z' z⟩
        · by_cases hj : j = i
          · subst hj; rw [setF_same] at z; exact .inr z
          · rw [setF_ne hj] at z; exact .inl ⟨.inr ⟨j, z⟩, fun z' => hj (r1.dis j i a z z')⟩
      have back : ∀ {H' : Hp} {q q' : Addr → Prop} {d0' : D}, Fext (fp1 i) H1 H' → HB H' → (∀ a, q a → fp1 i a ∨ H1 a = none) → (∀ a, q' a → H1 a = none ∧ ¬ q a) → (∀ a, q' a → ∃ o, H' a = some o ∧ ownO o) → Own (bas X) H' (fun a => ((avOf T fp1 a ∧ ¬ fp1 i a) ∨ q a) ∨ q' a) κ1 v0 d0' q →
          R (bas X) E (fun a => T a ∨ q' a) io (setF fp1 i q) (env1.set i (.ow κ1 d0')) σ H' ∧ Ext env1 fp1 H1 (env1.set i (.ow κ1 d0')) (setF fp1 i q) H' := fun {H' q q' d0'} fx hb hq hq' ho o => by
        refine ⟨r1.put' (T' := T) hi (fun a z => z.imp id fun z => ⟨(hq' a z).1, ho a z⟩) (fun a z => .inr (hq a z)) (fun a z z' => ?_) (fun a z => o.cells a z) (fun a z zE => ?_) fx.chg fx.tab fx.typ fx.dom rfl (fun _ _ => rfl) ev0 r1.io0 hb ⟨v0, rfl, o.mono (fun _ _ _ e _ => e) (fun a z => .inl ?_) fun _ _ _ e => e⟩,
          Ext.put (fun a z => (hq a z).imp (fun z => ⟨z, l⟩) id) (fun a o nt e n => fx.chg a o nt e fun z => l (n z)) fx.tab fx.typ fx.dom⟩
        · rcases z' with z' | z'
          · rcases hq a z with z | z
            · exact r1.offT i a z z'
            · exact r1.avH (.inl z') z
          · exact (hq' a z').2 z
        · rcases hq a z with z | z
          · exact r1.new i a z zE
          · exact absurd z (r1.old a zE)
        · rcases z with (z | z) | ⟨j, z⟩
          · exact .inl (.inl ⟨.inl z, fun z' => r1.offT i a z' z⟩)
          · exact .inr z
          · exact .inl (av2 q a (.inr ⟨j, z⟩))
      cases ef : F (d0 :: ds) with
      | stuck => simp only [ef] at k; exact k.elim
      | ex e iod =>
        cases iod with
        | none => simp only [ef] at k; exact k.elim
        | some d0' =>
          simp only [ef] at k
          intro cls dx H' q fx hb o hq ⟨C, d, v, e1, e2, e3, e4, e5⟩
          obtain ⟨r2, x2⟩ := back (q' := fun _ => False) fx hb hq (fun a z => z.elim) (fun a z => z.elim) (o.mono (fun _ _ _ e _ => e) (fun a z => .inl (z.elim id False.elim)) fun _ _ _ e => e)
          exact k cls dx _ H' x2 (r2.sub fun a z => .inl z) ⟨C, d, v, e1, e2, e3, e4, e5.weak (av2 q)⟩
      | ok tv iod =>
        cases iod with
        | none => cases tv <;> simp only [ef] at k <;> exact k.elim
        | some d0' =>
          cases tv with
          | sl j => simp only [ef] at k; exact k.elim
          | fz d =>
            simp only [ef] at k
            intro v H' q fx hb o hq p
            obtain ⟨r2, x2⟩ := back (q' := fun _ => False) fx hb hq (fun a z => z.elim) (fun a z => z.elim) (o.mono (fun _ _ _ e _ => e) (fun a z => .inl (z.elim id False.elim)) fun _ _ _ e => e)
            exact k v _ H' x2 (r2.sub fun a z => .inl z) (p.weak (av2 q))
          | ow κ' d =>
            simp only [ef] at k
            intro v H' q q' fx hb o hq o' hq'
            obtain ⟨r2, x2⟩ := back fx hb hq hq' o'.cells o
            refine k v _ H' x2 q' r2 (o'.mono (fun _ _ _ e _ => e) (fun a z => .inl ?_) fun _ _ _ e => e) fun a z => ⟨fun z' => r1.avH (.inl z') (hq' a z).1, fun z' => r1.old a z' (hq' a z).1, .inl (hq' a z).1⟩
            rcases z with (z | z) | ⟨j, z⟩
            · exact .inl (.inl ⟨.inl z, fun z' => r1.offT i a z' z⟩)
            · exact .inr z
            · exact .inl (av2 q a (.inr ⟨j, z⟩))
    · simp only [hk, if_false] at k; exact k.elim
theorem de_callIo {k n i : Nat} {κ : Kd} {f : Addr} {fd : FuncData} {ps : List Str} {x y : Str} {es : List Expr} {p yp pos : Pos} (G : FnOk X.prog X.w X.K X.mg X.base (L2.CX X.prog X.w) k f fd ps (spF (bas X) n (some κ) F)) (hr : Room k X.A) (hg : Gl X x) (hm : X.mg x = some (.ref f)) (hk : PySem.W.keepIn X.K (.ref f) = true)
    (hb : Binds X.K fd ps []) (tk : Takes X W) (hy : PE X (.Name y yp) (tVar i)) (ha : DA X W es fs) (hn : fs.length + 1 = n) (hdb : (x == ("__debug__" : Str)) = false := by decide)
    (he : starEach (.Name y yp :: es) X.env = (false, eval (.Name y yp) X.env) :: starEach es X.env := by rfl) (hpl : (backTo pos (starEach es X.env)).any (·.1) = false := by rfl) :
    DE X W (.Call (.Name x p) (.Name y yp :: es) [] pos) (cFnIo i κ F fs) := by
  obtain ⟨t, pa, s⟩ := ha.out
  refine .mk ⟨_, pe_callSD (E := fun σ cls d H' => W cls d σ H') (dvs := []) G hr hg hm hk hb .nil (fun σ pins H s' e s'' I c => tk e s'' (XE.of_call I (fun cls d H' h => h) c)) (pa_cons hy pa he) hdb he hpl, fun E T io env fp σ H Q R0 h => ?_⟩
  exact sound_io s hn R0 h
end
end VL
namespace VL
open PySem PySem.Spec PyProof.Rows L2
variable [tt : TabList]

section
variable {B : Bas} {H H' : Hp} {av : Addr → Prop} {v : V} {Q : VK}
theorem rep1_lst {ds : List D} (h : Rep1 B H av v (.lst ds)) : ∃ a vs, v = .ref a ∧ Rd H a (.lst vs) ∧ Reps B H av vs ds := by
  cases h with
  | lst h1 h2 => exact ⟨_, _, rfl, h1, h2⟩
theorem rep1_tup {ds : List D} (h : Rep1 B H av v (.tup ds)) : ∃ a vs, v = .ref a ∧ H a = some (.tup vs) ∧ Reps B H av vs ds := by
  cases h with
  | tup h1 h2 => exact ⟨_, _, rfl, h1, h2⟩
theorem rep1_ty {n : String} (h : Rep1 B H av v (.ty n)) : v = .ty n := by cases h; rfl
theorem rep1s_1 {xs : List V} {d : D} (h : Rep1s B H av xs [d]) : ∃ x, xs = [x] ∧ Rep1 B H av x d := by
  cases h with
  | cons h1 h2 => cases h2; exact ⟨_, rfl, h1⟩
theorem rep1s_2 {xs : List V} {d e : D} (h : Rep1s B H av xs [d, e]) : ∃ x y, xs = [x, y] ∧ Rep1 B H av x d ∧ Rep1 B H av y e := by
  cases h with
  | cons h1 h2 =>
    obtain ⟨y, rfl, h3⟩ := rep1s_1 h2
    exact ⟨_, _, rfl, h1, h3⟩
/-- what is no list and no dict is not anyone's -/
theorem Rep1.tupRep (ha : AvOk H av) {ds : List D} (h : Rep1 B H av v (.tup ds)) : Rep B H av v (.tup ds) := by
  cases h with
  | tup h1 h2 => exact .tup h1 (fun z => by obtain ⟨o, e, w⟩ := ha _ z; rw [h1] at e; cases e; exact w) h2
theorem opq0 {d : D} (h : OpQ B H av Q (.val d)) (r : Rep B H av v d) : Q v H := h v H (fun _ _ e => e) r
end

/-! ### ints -/
def oAdd : D → D → ORes
  | .int i, .int j => .val (.int (i + j))
  | .lst xs, .lst ys => if xs.length + ys.length ≤ sizeLine then .new .l (.lst (xs ++ ys)) else .stuck
  | .tup xs, .tup ys => if xs.length + ys.length ≤ sizeLine then .val (.tup (xs ++ ys)) else .stuck
  | .str x, .str y => if x.length + y.length ≤ sizeLine then .val (.str (x ++ y)) else .stuck
  | _, _ => .stuck
def oSub : D → D → ORes
  | .int i, .int j => .val (.int (i - j))
  | _, _ => .stuck
def oFdiv : D → D → ORes
  | .int i, .int j => if 0 < j ∧ j.natAbs.log2 < 9000 then .val (.int (i / j)) else .stuck
  | _, _ => .stuck
def oMod : D → D → ORes
  | .int i, .int j => if 0 < j then .val (.int (i % j)) else if j ≠ 0 then .val (.int (i.fmod j)) else .stuck
  | _, _ => .stuck
def oPow : D → D → ORes
  | .int i, .int j => if 0 ≤ j ∧ j ≤ 1000000 ∧ i.natAbs < 2 ^ 64 then .val (.int (i ^ j.toNat)) else .stuck
  | _, _ => .stuck
def oNeg : D → ORes
  | .int i => .val (.int (-i))
  | _ => .stuck
def oMul : D → D → ORes
  | .int i, .int j => if i.natAbs.log2 + j.natAbs.log2 < 1000000 then .val (.int (i * j)) else .stuck
  | .lst xs, .int k => if -(2 ^ 63) ≤ k ∧ k < 2 ^ 63 ∧ xs.length * k.toNat ≤ sizeLine then .new .l (.lst (List.replicate k.toNat xs).flatten) else .stuck
  | .tup xs, .int k => if k = 1 then .val (.tup xs) else if xs ≠ [] ∧ 2 ≤ k ∧ k ≤ 1000 ∧ xs.length ≤ 1000 then .val (.tup (List.replicate k.toNat xs).flatten) else .stuck
  | _, _ => .stuck
def oLt : D → D → ORes
  | .int i, .int j => .val (.bl (decide (i < j)))
  | _, _ => .stuck
def oLe : D → D → ORes
  | .int i, .int j => .val (.bl (decide (i ≤ j)))
  | _, _ => .stuck
def oGt : D → D → ORes
  | .int i, .int j => .val (.bl (decide (j < i)))
  | _, _ => .stuck
def oGe : D → D → ORes
  | .int i, .int j => .val (.bl (decide (j ≤ i)))
  | _, _ => .stuck
/-! ### == -/
mutual
def toP : D → PyData
  | .non => .none | .bl b => .bool b | .int i => .int i | .str x => .str x
  | .tup ds => .tuple (toPs ds) | .lst ds => .list (toPs ds)
  | _ => .none
def toPs : List D → List PyData
  | [] => []
  | d :: ds => toP d :: toPs ds
end
mutual
/-- plain data of nesting below n -/
def pl : Nat → D → Bool
  | _, .non => true | _, .bl _ => true | _, .int _ => true
  | _, .str x => PyData.strOk x
  | n + 1, .tup ds => pls n ds
  | n + 1, .lst ds => pls n ds
  | _, _ => false
def pls : Nat → List D → Bool
  | _, [] => true
  | n, d :: ds => pl n d && pls n ds
end
mutual
def deq : D → D → Bool
  | .non, .non => true
  | .bl a, .bl b => a == b
  | .bl a, .int j => (if a then 1 else 0) == j
  | .int i, .bl b => i == (if b then 1 else 0)
  | .int i, .int j => i == j
  | .str x, .str y => x == y
  | .lst xs, .lst ys => deqs xs ys
  | .tup xs, .tup ys => deqs xs ys
  | _, _ => false
def deqs : List D → List D → Bool
  | [], [] => true
  | x :: xs, y :: ys => deq x y && deqs xs ys
  | _, _ => false
end
section
variable {B : Bas} {H : Hp} {av : Addr → Prop}
mutual
theorem toP_ok : ∀ (d : D) (n : Nat) (v : V), pl n d = true → Rep B H av v d → Dp B.K H v (toP d) ∧ (toP d).canLay0 = true ∧ (toP d).depth ≤ n
  | .non, n, v, _, h => by cases h; exact ⟨.non, rfl, Nat.zero_le _⟩
  | .bl b, n, v, _, h => by cases h; exact ⟨.bl _, rfl, Nat.zero_le _⟩
  | .int b, n, v, _, h => by cases h; exact ⟨.int _, rfl, Nat.zero_le _⟩
  | .str x, n, v, e, h => by cases h; exact ⟨.str _, (by cases n <;> exact e), Nat.zero_le _⟩
  | .tup ds, 0, v, e, h => by exact absurd e (by simp [pl])
  | .tup ds, n + 1, v, e, h => by
    have e : pls n ds = true := e
    cases h with
    | tup h1 h2 h3 =>
      obtain ⟨r1, r2, r3⟩ := toPs_ok ds n _ e h3
      exact ⟨.tup (.inl (.inl h1)) r1, r2, Nat.succ_le_succ r3⟩
  | .lst ds, 0, v, e, h => by exact absurd e (by simp [pl])
  | .lst ds, n + 1, v, e, h => by
    have e : pls n ds = true := e
    cases h with
    | lst h1 h2 h3 =>
      obtain ⟨r1, r2, r3⟩ := toPs_ok ds n _ e h3
      exact ⟨.lst (.inl h1) r1, r2, Nat.succ_le_succ r3⟩
  | .dct _ _, n, v, e, h => absurd e (by cases n <;> simp [pl])
  | .ins _ _ _, n, v, e, h => absurd e (by cases n <;> simp [pl])
  | .ty _, n, v, e, h => absurd e (by cases n <;> simp [pl])
  | .cls _, n, v, e, h => absurd e (by cases n <;> simp [pl])
  | .clo _ _, n, v, e, h => absurd e (by cases n <;> simp [pl])
theorem toPs_ok : ∀ (ds : List D) (n : Nat) (vs : List V), pls n ds = true → Reps B H av vs ds → DpAll B.K H vs (toPs ds) ∧ PyData.canLayAll0 (toPs ds) = true ∧ PyData.depthAll (toPs ds) ≤ n
  | [], n, _, _, h => by cases h; exact ⟨.nil, rfl, Nat.zero_le _⟩
  | d :: ds, n, _, e, h => by
    have e : pl n d = true ∧ pls n ds = true := by cases n <;> simpa [pls] using e
    cases h with
    | cons h1 h2 =>
      obtain ⟨a1, a2, a3⟩ := toP_ok d n _ e.1 h1
      obtain ⟨b1, b2, b3⟩ := toPs_ok ds n _ e.2 h2
      refine ⟨.cons a1 b1, ?_, ?_⟩
      · simp [toPs, PyData.canLayAll0, a2, b2]
      · simp only [toPs, PyData.depthAll]; omega
end
mutual
theorem eqv_deq : ∀ (d e : D) (n m : Nat), pl n d = true → pl m e = true → PyData.eqv (toP d) (toP e) = deq d e
  | d, e, n, m, h1, h2 => by
    cases d <;> cases e <;> first
      | rfl
      | exact eqvs_deqs _ _ (n - 1) (m - 1) (by cases n <;> simp_all [pl]) (by cases m <;> simp_all [pl])
      | (exfalso; first | (cases n <;> simp [pl] at h1; done) | (cases m <;> simp [pl] at h2; done))
termination_by d => sizeOf d
theorem eqvs_deqs : ∀ (d e : List D) (n m : Nat), pls n d = true → pls m e = true → PyData.eqvAll (toPs d) (toPs e) = deqs d e
  | [], [], _, _, _, _ => rfl
  | [], _ :: _, _, _, _, _ => rfl
  | _ :: _, [], _, _, _, _ => rfl
  | d :: ds, e :: es, n, m, h1, h2 => by
    have h1 : pl n d = true ∧ pls n ds = true := by cases n <;> simpa [pls] using h1
    have h2 : pl m e = true ∧ pls m es = true := by cases m <;> simpa [pls] using h2
    show (PyData.eqv (toP d) (toP e) && PyData.eqvAll (toPs ds) (toPs es)) = (deq d e && deqs ds es)
    rw [eqv_deq d e n m h1.1 h2.1, eqvs_deqs ds es n m h1.2 h2.2]
termination_by d => sizeOf d
end
theorem toP1_ok {d : D} {n : Nat} {v : V} (e : pl n d = true) (h : Rep1 B H av v d) : Dp B.K H v (toP d) ∧ (toP d).canLay0 = true ∧ (toP d).depth ≤ n := by
  cases h with
  | non => exact toP_ok (av := fun _ => False) .non n _ e .non
  | bl b => exact toP_ok (av := fun _ => False) (.bl b) n _ e (.bl b)
  | int b => exact toP_ok (av := fun _ => False) (.int b) n _ e (.int b)
  | str b => exact toP_ok (av := fun _ => False) (.str b) n _ e (.str b)
  | @tup a vs ds h1 h2 =>
    cases n with
    | zero => exact absurd e (by simp [pl])
    | succ n =>
      obtain ⟨r1, r2, r3⟩ := toPs_ok ds n _ e h2
      exact ⟨.tup (.inl (.inl h1)) r1, r2, Nat.succ_le_succ r3⟩
  | @lst a vs ds h1 h2 =>
    cases n with
    | zero => exact absurd e (by simp [pl])
    | succ n =>
      obtain ⟨r1, r2, r3⟩ := toPs_ok ds n _ e h2
      exact ⟨.lst (.inl h1) r1, r2, Nat.succ_le_succ r3⟩
  | ty x => exact absurd e (by cases n <;> simp [pl])
  | cls x => exact absurd e (by cases n <;> simp [pl])
  | clo _ _ _ _ _ _ _ => exact absurd e (by cases n <;> simp [pl])
  | dK _ _ _ => exact absurd e (by cases n <;> simp [pl])
  | dT _ _ _ => exact absurd e (by cases n <;> simp [pl])
  | ins _ _ _ _ => exact absurd e (by cases n <;> simp [pl])
theorem shaped_of {d : PyData} (h1 : d.canLay0 = true) (h2 : d.depth ≤ 60) : SeqAt.shaped d = true := by
  unfold SeqAt.shaped
  rw [h1, Bool.true_and]
  exact decide_eq_true (by omega)
end
def oEq (d e : D) : ORes := if pl 60 d && pl 60 e then .val (.bl (deq d e)) else .stuck
def oNe (d e : D) : ORes := if pl 60 d && pl 60 e then .val (.bl (!deq d e)) else .stuck

/-! ### keys -/
def kOf : D → Option Key
  | .int i => some (.inl i)
  | .str x => some (.inr x)
  | _ => none
def ksOf : List D → Option (List Key)
  | [] => some []
  | d :: ds => match kOf d, ksOf ds with
    | some k, some ks => some (k :: ks)
    | _, _ => none
def dkOf : D → Option DK
  | .tup ds => (ksOf ds).map .inr
  | d => (kOf d).map .inl
def dLook : List DK → List D → DK → Option D
  | k' :: ks, d :: ds, k => if k' = k then some d else dLook ks ds k
  | _, _, _ => none
/-- all keys of one kind -/
def allK : List DK → Bool
  | [] => true
  | .inl _ :: ks => allK ks
  | .inr _ :: _ => false
section
variable {B : Bas} {H : Hp} {av : Addr → Prop}
theorem kOf_rep {d : D} {k : Key} {v : V} (h : Rep B H av v d) (e : kOf d = some k) : v = kV k := by
  cases h with
  | int i => cases e; rfl
  | str x => cases e; rfl
  | _ => cases e
theorem ksOf_reps : ∀ {ds : List D} {ks : List Key} {vs : List V}, Reps B H av vs ds → ksOf ds = some ks → vs = ks.map kV
  | [], _, _, h, e => by cases h; cases e; rfl
  | d :: ds, ks, _, h, e => by
    cases h with
    | cons h1 h2 =>
      unfold ksOf at e
      cases e1 : kOf d with
      | none => rw [e1] at e; cases e
      | some k =>
        cases e2 : ksOf ds with
        | none => rw [e1, e2] at e; cases e
        | some ks' =>
          rw [e1, e2] at e; cases e
          rw [kOf_rep h1 e1, ksOf_reps h2 e2]; rfl
theorem look_gen {κ : Type} [DecidableEq κ] (f : κ → DK) (hf : ∀ a b, f a = f b → a = b) (k : κ) : ∀ {kvs : List (κ × V)} {ds : List D}, Reps B H av (kvs.map (·.2)) ds →
    (dLook (kvs.map fun p => f p.1) ds (f k) = none ∧ valV kvs k = none) ∨ ∃ d v, dLook (kvs.map fun p => f p.1) ds (f k) = some d ∧ valV kvs k = some v ∧ Rep B H av v d
  | [], _, h => .inl ⟨by cases h; rfl, rfl⟩
  | p :: kvs, _, h => by
    cases h with
    | @cons _ _ d ds h1 h2 =>
      by_cases e : p.1 = k
      · refine .inr ⟨d, p.2, ?_, valV_pos e, h1⟩
        simp only [List.map_cons, dLook, e, if_true]
      · have e' : ¬ f p.1 = f k := fun z => e (hf _ _ z)
        rw [valV_neg e]
        simp only [List.map_cons, dLook, e', if_false]
        exact look_gen f hf k h2
theorem look_mis {κ : Type} (f : κ → DK) (q : DK) (hq : ∀ a, f a ≠ q) : ∀ {kvs : List (κ × V)} {ds : List D}, dLook (kvs.map fun p => f p.1) ds q = none
  | [], ds => by cases ds <;> rfl
  | p :: kvs, [] => rfl
  | p :: kvs, d :: ds => by
    simp only [List.map_cons, dLook, hq, if_false]
    exact look_mis f q hq
end
def dHas (ks : List DK) (k : DK) : Bool := ks.any fun k' => decide (k' = k)
/-- the dict's keys are of the kind of k -/
def kFits (ks : List DK) : DK → Bool
  | .inl _ => allK ks
  | .inr _ => ks.all fun k => match k with | .inr _ => true | .inl _ => false
end VL
namespace VL
open PySem PySem.Spec PyProof.Rows L2
variable [tt : TabList]

/-! ### the operations of the language, as relations -/
theorem Inv.lstRd {X : Cx} {pins : List (Addr × Obj)} {σ : L2.St} {H : Hp} {s : Shared} {l : Addr} {xs : List V} (I : Inv X pins σ H s) (hH : Rd H l (.lst xs)) : xs.length ≤ sizeLine ∧ ∃ (its : List Value) (n : Nat), Vals xs its ∧ xs.length = its.length ∧ s.heap.get? l = some { cls := .type "list", data := .seq its.toArray n } := by
  obtain ⟨z, its, n, r, e⟩ := hH.ok I.hok
  exact ⟨z, its, n, r, r.length, e⟩
def rCatL : R2 := fun x y H Q => ∃ l b xs zs, x = .ref l ∧ y = .ref b ∧ Rd H l (.lst xs) ∧ Rd H b (.lst zs) ∧ xs.length + zs.length ≤ sizeLine ∧ ∀ p, H p = none → Q (.ref p) (upd H p (.lst (xs ++ zs)))
def rRepL : R2 := fun x y H Q => ∃ l k xs, x = .ref l ∧ y = .int k ∧ Rd H l (.lst xs) ∧ -(2 ^ 63) ≤ k ∧ k < 2 ^ 63 ∧ xs.length * k.toNat ≤ sizeLine ∧
  ∀ p, H p = none → Q (.ref p) (upd H p (.lst (List.replicate k.toNat xs).flatten))
def rAddStr : R2 := fun x y H Q => ∃ i j, x = .str i ∧ y = .str j ∧ i.length + j.length ≤ sizeLine ∧ Q (.str (i ++ j)) H
def rAddAll (K : PySem.W.Frag) : R2 := fun x y H Q => rI0 (fun i j => .int (i + j)) x y H Q ∨ rCatL x y H Q ∨ rCatA K x y H Q ∨ rAddStr x y H Q
theorem tuple_mul1 (l : Addr) (items : Array Value) (n : Nat) (dd : Option Addr) (sl : Array (Option Value)) (u : Tok) :
    Meets (Builtin.«tuple.__mul__» ⟨[.ref l, .int 1 u], []⟩) (fun _ R s => s.heap.get? l = some { cls := .type "tuple", dict := dd, data := .seq items n, slots := sl } ∧
      R (.ok (.ret (Value.ref l))) s) :=
  .of_wp fun prog w A R s h => by
    obtain ⟨hp, g, d, tk, os⟩ := s
    obtain ⟨hl, h⟩ := h
    have f1 := AutoSeq1.idx_int
    have c0 : (decide ((1 : Int) < -(2 ^ 63)) || decide ((1 : Int) ≥ 2 ^ 63)) = false := by decide
    have c1 : (items.isEmpty || (1 : Int) == 1) = true := by rw [Bool.or_eq_true]; exact .inr rfl
    wp_walk using wpAny_loadPart' hl
    repeat (first
      | (refine wpAny_ite_false (decide_eq_false (by rw [c0]; exact Bool.false_ne_true)) ?_; wp_walk using wpAny_loadPart' hl)
      | (refine wpAny_ite_true (decide_eq_true c1) ?_; wp_walk using wpAny_loadPart' hl))
    exact ⟨_, rfl, h⟩
def rRepT1 (K : PySem.W.Frag) : R2 := fun x y H Q => ∃ l xs, x = .ref l ∧ y = .int 1 ∧ SqT K H l xs ∧ Q (.ref l) H
theorem op_repT1 {X : Cx} : OpR X (binaryOp .Mult) (rRepT1 X.K) := by
  intro pins s σ H x y v u Q I rx ry h
  obtain ⟨l, xs, rfl, rfl, hT, q⟩ := h
  cases rx
  obtain ⟨t, rfl⟩ := ry
  obtain ⟨its, r, ⟨⟨cls, dd, data, sl⟩, ho, hc, n, hd⟩, hs⟩ := I.tuple hT
  simp only at hc hd
  subst hc hd
  exact wpAny_binaryOp_repeat_ref (T := "tuple") (U := "int") (by decide) ⟨_, ho, rfl⟩ (fun s' => typeIs_int s' 1 t) noFill_tuple_mul F.fills_int_mul F.slot_int_rmul repeat_tuple F.slot_int_index.lookup
    (call_meets F.slot_int_rmul (typeIs_int s 1 t) F.entry_int_rmul (F.args_int_rmul_2 _ _) (int_rmul_tuple 1 t l its.toArray n dd sl)
      ⟨ho, rfl, ⟨_, ho, rfl⟩, call_meets F.slot_tuple_mul ⟨_, ho, rfl⟩ F.entry_tuple_mul (F.args_tuple_mul_2 _ _) (tuple_mul1 l its.toArray n dd sl t) ⟨ho, ⟨.ref l, _, I, rfl, q⟩⟩⟩)
def rMulAll (K : PySem.W.Frag) : R2 := fun x y H Q => rI CMulW (fun i j => .int (i * j)) x y H Q ∨ rRepL x y H Q ∨ rRepT K x y H Q ∨ rRepT1 K x y H Q
def rFdivAll : R2 := rI CDivW fun i j => .int (i / j)
def rModAll : R2 := fun x y H Q => rI (fun _ j => 0 < j) (fun i j => .int (i % j)) x y H Q ∨ rI (fun _ j => j ≠ 0) (fun i j => .int (i.fmod j)) x y H Q
section
variable {X : Cx}
theorem op_catL : OpR X (binaryOp .Add) rCatL := by
  intro pins s σ H x y v u Q I rx ry h
  obtain ⟨l, b, xs, zs, rfl, rfl, hH, hB, hz, q⟩ := h
  cases rx
  cases ry
  obtain ⟨z, its, n, r, hl, e⟩ := Inv.lstRd I hH
  obtain ⟨z2, its2, n2, r2, hl2, e2⟩ := Inv.lstRd I hB
  refine PySem.P.add_list e e2 ?_ (by rw [List.size_toArray, List.size_toArray]; omega)
  have ea : its.toArray ++ its2.toArray = (its ++ its2).toArray := by simp
  rw [ea]
  exact ⟨.ref _, _, I.lnew (t' := s.toks) (r.append r2) (by rw [List.length_append]; omega), rfl, q _ I.fresh⟩
theorem op_repL : OpR X (binaryOp .Mult) rRepL := by
  intro pins s σ H x y v u Q I rx ry h
  obtain ⟨l, k, xs, rfl, rfl, hH, h1, h2, hz, q⟩ := h
  cases rx
  obtain ⟨t, rfl⟩ := ry
  obtain ⟨z, its, n, r, hl, e⟩ := Inv.lstRd I hH
  have hlen : its.toArray.size * k.toNat ≤ sizeLine := by rw [List.size_toArray, ← hl]; exact hz
  have hcap : ¬ its.toArray.size * k.toNat > (2 ^ 63 - 1) / 8 := by
    have : (sizeLine : Nat) ≤ (2 ^ 63 - 1) / 8 := by decide
    omega
  have hfit : ¬ (!Builtin.List.listFitsIndex k) = true := by
    rw [fitsIndex_both h1 h2]
    exact Bool.false_ne_true
  have hlong : ¬ Builtin.List.listTooLong (its.toArray.size * k.toNat) = true := by
    rw [notLongL hlen]
    exact Bool.false_ne_true
  have hnew : List.foldl (fun x1 x2 => x1 ++ x2) #[] (List.replicate (if its.toArray.isEmpty = true then 0 else k.toNat) its.toArray) = (List.replicate k.toNat its).flatten.toArray := by
    have f0 : ∀ m : Nat, List.foldl (fun x1 x2 => x1 ++ x2) #[] (List.replicate m its.toArray) = (List.replicate m its).flatten.toArray := fun m => by
      have := foldl_rep its m []
      rw [List.nil_append] at this
      exact this
    rw [f0]
    cases its with
    | nil => simp
    | cons a r' => rw [if_neg (by simp)]
  refine wpAny_binaryOp_repeat_ref (T := "list") (U := "int") (by decide) ⟨_, e, rfl⟩ (fun s' => typeIs_int s' k t) noFill_list_mul F.fills_int_mul F.slot_int_rmul repeat_list F.slot_int_index.lookup
    (call_meets F.slot_int_rmul (typeIs_int s k t) F.entry_int_rmul (F.args_int_rmul_2 _ _) (int___rmul___int_list k t l its.toArray n)
      ⟨e, rfl, ⟨_, e, rfl⟩, call_meets F.slot_list_mul ⟨_, e, rfl⟩ F.entry_list_mul (F.args_list_mul_2 _ _) (AutoListH.list___mul___list_int_3 l its.toArray n k t hfit hcap hlong) ⟨e, ?_⟩⟩)
  rw [hnew]
  exact ⟨.ref _, _, I.lnew (t' := s.toks) (r.rep k.toNat) (by rw [PyProof.Rows.lm_len_rep_flat, Nat.mul_comm]; exact hz), rfl, q _ I.fresh⟩
theorem op_addAll : OpR X (binaryOp .Add) (rAddAll X.K) := op_add.or (op_catL.or (op_catA.or op_add_str))
theorem op_mulAll : OpR X (binaryOp .Mult) (rMulAll X.K) := op_mulW.or (op_repL.or (op_repT.or op_repT1))
theorem op_modAll : OpR X (binaryOp .Mod) rModAll := op_mod.or op_modN
end
theorem Reps.rep {B : Bas} {H : Hp} {av : Addr → Prop} {vs : List V} {ds : List D} (h : Reps B H av vs ds) : ∀ n : Nat, Reps B H av (List.replicate n vs).flatten (List.replicate n ds).flatten
  | 0 => .nil
  | n + 1 => by
    simp only [List.replicate_succ, List.flatten_cons]
    exact h.append (Reps.rep h n)
section
variable {X : Cx}
theorem s_add : Op2S X (rAddAll X.K) oAdd := by
  intro H av x y d1 d2 Q ha r1 r2 h
  unfold oAdd at h
  split at h
  · cases r1; cases r2; exact .inl ⟨_, _, rfl, rfl, opq0 h (.int _)⟩
  · split at h
    · rename_i xs ys hl
      obtain ⟨a, vs, rfl, ha, rs⟩ := rep1_lst r1
      obtain ⟨b, ws, rfl, hb, ss⟩ := rep1_lst r2
      exact .inr (.inl ⟨a, b, vs, ws, rfl, rfl, ha, hb, by rw [rs.length, ss.length]; exact hl, fun p hp => opq_lst hp (rs.append ss) h⟩)
    · exact h.elim
  · split at h
    · rename_i xs ys hl
      have t1 := r1.tupRep ha
      have t2 := r2.tupRep ha
      obtain ⟨a, vs, rfl, h1, rs⟩ := rep1_tup r1
      obtain ⟨b, ws, rfl, h2, ss⟩ := rep1_tup r2
      refine .inr (.inr (.inl ⟨a, b, vs, ws, rfl, rfl, .inl (.inl h1), .inl (.inl h2), by rw [rs.length, ss.length]; exact hl, fun e => ?_, fun _ e => ?_, fun _ _ p hp => opq_tup ha hp (rs.append ss) h⟩))
      · subst e; cases rs; exact opq0 h (by simpa using t2)
      · subst e; cases ss; exact opq0 h (by simpa using t1)
    · exact h.elim
  · split at h
    · rename_i hl
      cases r1; cases r2; exact .inr (.inr (.inr ⟨_, _, rfl, rfl, hl, opq0 h (.str _)⟩))
    · exact h.elim
  · exact h.elim
theorem s_sub : Op2S X (rI0 fun i j => .int (i - j)) oSub := by
  intro H av x y d1 d2 Q ha r1 r2 h
  unfold oSub at h
  split at h
  · cases r1; cases r2; exact ⟨_, _, rfl, rfl, opq0 h (.int _)⟩
  · exact h.elim
theorem s_fdiv : Op2S X rFdivAll oFdiv := by
  intro H av x y d1 d2 Q ha r1 r2 h
  unfold oFdiv at h
  split at h
  · split at h
    · rename_i hc
      cases r1; cases r2; exact ⟨_, _, rfl, rfl, hc, opq0 h (.int _)⟩
    · exact h.elim
  · exact h.elim
theorem s_mod : Op2S X rModAll oMod := by
  intro H av x y d1 d2 Q ha r1 r2 h
  unfold oMod at h
  split at h
  · split at h
    · rename_i hc
      cases r1; cases r2; exact .inl ⟨_, _, rfl, rfl, hc, opq0 h (.int _)⟩
    · split at h
      · rename_i hc
        cases r1; cases r2; exact .inr ⟨_, _, rfl, rfl, hc, opq0 h (.int _)⟩
      · exact h.elim
  · exact h.elim
theorem s_pow : Op2S X (rI CPow fun i j => .int (i ^ j.toNat)) oPow := by
  intro H av x y d1 d2 Q ha r1 r2 h
  unfold oPow at h
  split at h
  · split at h
    · rename_i hc
      cases r1; cases r2; exact ⟨_, _, rfl, rfl, hc, opq0 h (.int _)⟩
    · exact h.elim
  · exact h.elim
theorem s_neg : Op1S X (rU fun i => .int (-i)) oNeg := by
  intro H av x d1 Q ha r1 h
  unfold oNeg at h
  split at h
  · cases r1; exact ⟨_, rfl, opq0 h (.int _)⟩
  · exact h.elim
theorem s_mul : Op2S X (rMulAll X.K) oMul := by
  intro H av x y d1 d2 Q ha r1 r2 h
  unfold oMul at h
  split at h
  · split at h
    · rename_i hc
      cases r1; cases r2; exact .inl ⟨_, _, rfl, rfl, hc, opq0 h (.int _)⟩
    · exact h.elim
  · split at h
    · rename_i hl
      obtain ⟨a, vs, rfl, ha, rs⟩ := rep1_lst r1
      cases r2
      exact .inr (.inl ⟨a, _, vs, rfl, rfl, ha, hl.1, hl.2.1, by rw [rs.length]; exact hl.2.2, fun p hp => opq_lst hp (rs.rep _) h⟩)
    · exact h.elim
  · split at h
    · rename_i hl
      have t1 := r1.tupRep ha
      obtain ⟨a, vs, rfl, h1, rs⟩ := rep1_tup r1
      cases r2
      subst hl
      exact .inr (.inr (.inr ⟨a, vs, rfl, rfl, .inl (.inl h1), opq0 h t1⟩))
    split at h
    · rename_i hl
      obtain ⟨a, vs, rfl, h1, rs⟩ := rep1_tup r1
      cases r2
      exact .inr (.inr (.inl ⟨a, _, vs, rfl, rfl, .inl (.inl h1), fun e => by subst e; cases rs; exact hl.1 rfl, hl.2.1, hl.2.2.1, by rw [rs.length]; exact hl.2.2.2, fun p hp => opq_tup ha hp (rs.rep _) h⟩))
    · exact h.elim
  · exact h.elim
theorem s_lt : Op2S X (rI0 fun i j => .bl (decide (i < j))) oLt := by
  intro H av x y d1 d2 Q ha r1 r2 h
  unfold oLt at h
  split at h
  · cases r1; cases r2; exact ⟨_, _, rfl, rfl, opq0 h (.bl _)⟩
  · exact h.elim
theorem s_le : Op2S X (rI0 fun i j => .bl (decide (i ≤ j))) oLe := by
  intro H av x y d1 d2 Q ha r1 r2 h
  unfold oLe at h
  split at h
  · cases r1; cases r2; exact ⟨_, _, rfl, rfl, opq0 h (.bl _)⟩
  · exact h.elim
theorem s_gt : Op2S X (rI0 fun i j => .bl (decide (j < i))) oGt := by
  intro H av x y d1 d2 Q ha r1 r2 h
  unfold oGt at h
  split at h
  · cases r1; cases r2; exact ⟨_, _, rfl, rfl, opq0 h (.bl _)⟩
  · exact h.elim
theorem s_ge : Op2S X (rI0 fun i j => .bl (decide (j ≤ i))) oGe := by
  intro H av x y d1 d2 Q ha r1 r2 h
  unfold oGe at h
  split at h
  · cases r1; cases r2; exact ⟨_, _, rfl, rfl, opq0 h (.bl _)⟩
  · exact h.elim
theorem p_le : Op2P X (rI0 fun i j => .bl (decide (i ≤ j))) oLe := by
  intro H av x y d1 d2 Q r1 r2 h
  unfold oLe at h
  split at h
  · rename_i e; split at e
    · cases e; cases r1; cases r2; exact ⟨_, _, rfl, rfl, h⟩
    · cases e
  · exact h.elim
theorem p_lt : Op2P X (rI0 fun i j => .bl (decide (i < j))) oLt := by
  intro H av x y d1 d2 Q r1 r2 h
  unfold oLt at h
  split at h
  · rename_i e; split at e
    · cases e; cases r1; cases r2; exact ⟨_, _, rfl, rfl, h⟩
    · cases e
  · exact h.elim
theorem s_eq : Op2S X (rEqD X.K) oEq := by
  intro H av x y d1 d2 Q ha r1 r2 h
  unfold oEq at h
  split at h
  · rename_i hc
    rw [Bool.and_eq_true] at hc
    obtain ⟨a1, a2, a3⟩ := toP1_ok hc.1 r1
    obtain ⟨b1, b2, b3⟩ := toP1_ok hc.2 r2
    exact ⟨_, _, a1, b1, shaped_of a2 a3, shaped_of b2 b3, by rw [eqv_deq d1 d2 60 60 hc.1 hc.2]; exact opq0 h (.bl _)⟩
  · exact h.elim
theorem s_ne : Op2S X (rNeD X.K) oNe := by
  intro H av x y d1 d2 Q ha r1 r2 h
  unfold oNe at h
  split at h
  · rename_i hc
    rw [Bool.and_eq_true] at hc
    obtain ⟨a1, a2, a3⟩ := toP1_ok hc.1 r1
    obtain ⟨b1, b2, b3⟩ := toP1_ok hc.2 r2
    exact ⟨_, _, a1, b1, shaped_of a2 a3, shaped_of b2 b3, by rw [eqv_deq d1 d2 60 60 hc.1 hc.2]; exact opq0 h (.bl _)⟩
  · exact h.elim
def nonD : D → Bool
  | .non => true
  | _ => false
def oIsN : D → D → ORes
  | d, .non => .val (.bl (nonD d))
  | _, _ => .stuck
def oNotN : D → D → ORes
  | d, .non => .val (.bl (!nonD d))
  | _, _ => .stuck
theorem isnon_rep {B : Bas} {H : Hp} {av : Addr → Prop} {x : V} {d : D} (r : Rep1 B H av x d) : decide (x = V.non) = nonD d := by
  cases r <;> rfl
theorem s_isN : Op2S X rIsN oIsN := by
  intro H av x y d1 d2 Q ha r1 r2 h
  unfold oIsN at h
  split at h
  · cases r2
    refine ⟨rfl, ?_⟩
    rw [isnon_rep r1]
    exact opq0 h (.bl _)
  · exact h.elim
theorem s_notN : Op2S X rNotN oNotN := by
  intro H av x y d1 d2 Q ha r1 r2 h
  unfold oNotN at h
  split at h
  · rename_i d
    cases r2
    refine ⟨rfl, ?_⟩
    rw [isnon_rep r1]
    exact opq0 h (.bl _)
  · exact h.elim
end
end VL
namespace HT
open PySem PySem.Spec PyProof.Rows
section
variable {prog : Program} {w : World} {A : Around} {E : Value → Shared → Prop} {s : Shared}
theorem sliceApplied_rev {sl : Addr} {vs : Value} {n : Nat} {Q : Int × Int × Nat → Shared → Prop} (hs : s.heap.IsSliceOf sl .none .none vs) (ps : IsPart vs (some (-1)))
    (h : Q ((n : Int) - 1, -1, n) s) : wpAny (model prog w) A (Builtin.Slice.sliceApplied (.ref sl) (pure (n : Int))) Q E s := by
  obtain ⟨os, hos, hcs, hds⟩ := id hs
  unfold Builtin.Slice.sliceApplied Builtin.Slice.sliceFields
  refine wpAny_bind (wpAny_bind (wpAny_field hos hds (x := .none) rfl (wpAny_bind (wpAny_field hos hds (x := .none) rfl (wpAny_bind (wpAny_field hos hds (x := vs) rfl (wpAny_pure ?_)))))))
  refine wpAny_bind (slicePart_ ps ?_)
  show wpAny _ _ (if ((-1 : Int) == 0) = true then _ else _) _ _ s
  rw [if_neg (by decide)]
  refine wpAny_bind (slicePart_none (wpAny_bind (slicePart_none (wpAny_bind (wpAny_pure ?_)))))
  show wpAny _ _ (match Builtin.Slice.sliceAdjust none none (-1) (n : Int) with | (lo, hi) => pure (lo, (-1 : Int), Builtin.Slice.slicePlaces lo hi (-1))) _ _ s
  show wpAny _ _ (pure ((n : Int) - 1, (-1 : Int), Builtin.Slice.slicePlaces ((n : Int) - 1) (-1) (-1))) _ _ s
  have e : Builtin.Slice.slicePlaces ((n : Int) - 1) (-1) (-1) = n := by
    unfold Builtin.Slice.slicePlaces
    have h1 : ¬ ((-1 : Int) > 0) := by decide
    simp only [h1, if_false]
    rw [show (- -1 : Int) = 1 by decide, Int.ediv_one]
    split <;> omega
  rw [e]
  exact wpAny_pure h
theorem fm_congr {α β : Type} {f g : α → Option β} : ∀ {l : List α}, (∀ a ∈ l, f a = g a) → l.filterMap f = l.filterMap g
  | [], _ => rfl
  | a :: l, h => by
    rw [List.filterMap_cons, List.filterMap_cons, h a List.mem_cons_self, fm_congr fun b hb => h b (List.mem_cons_of_mem _ hb)]
theorem pick_rev (xs : Array Value) : ((List.range xs.size).filterMap fun (m : Nat) => xs[((xs.size : Int) - 1 + (m : Int) * -1).toNat]?).toArray = xs.toList.reverse.toArray := by
  have e1 := PySem.W.krv_pick xs
  unfold slicePick at e1
  rw [PySem.W.krv_bounds] at e1
  have e1 : ((sliceRange ((xs.size : Int) - 1) (-1) (-1)).filterMap (xs[·]?)).toArray = xs.toList.reverse.toArray := e1
  rw [PySem.W.krv_sliceRange, List.filterMap_map] at e1
  rw [← e1]
  congr 1
  apply fm_congr
  intro m hm
  have := List.mem_range.mp hm
  have : ((xs.size : Int) - 1 + (m : Int) * -1).toNat = xs.size - 1 - m := by omega
  rw [this]; rfl
theorem getItem_tuple_rev {t sl : Addr} {items : Array Value} {vs : Value} {Q : Value → Shared → Prop} (ht : IsTup s.heap t items) (hs : s.heap.IsSliceOf sl .none .none vs) (ps : IsPart vs (some (-1)))
    (h : Q (.ref s.heap.objs.size) { s with heap := s.heap.push { cls := .type "tuple", data := .seq items.toList.reverse.toArray } })
    (hsz : items.size ≤ sizeLine) : wpAny (model prog w) A (getItem (.ref t) (.ref sl)) Q E s := by
  have htake : sizeOk (.seq items.toList.reverse.toArray) := by
    show items.toList.reverse.toArray.size ≤ sizeLine
    rw [List.size_toArray, List.length_reverse, Array.length_toList]
    omega
  obtain ⟨os, hos, hcs, hds⟩ := id hs
  have hTs : s.TypeIs (.ref sl) "slice" := ⟨os, hos, hcs⟩
  unfold getItem
  try with_reducible refine wpAny_holding ?_
  first | refine wpAny_bind (wpAny_pure ?_) | skip
  refine wpAny_bind (wpAny_sequenceKey ht.typeIs (by decide) ?_)
  refine wpAny_bind (wpAny_callSpecial?_slot (name := Str.ofString "__getitem__") ht.typeIs PyProof.Rows.slot_tuple_getitem
    (wpAny_call_entry PyProof.Rows.slot_tuple_getitem ht.typeIs entry_tuple_getitem ?_ (args_tuple_getitem _ _)))
  show wpAny _ _ (Builtin.Tuple.tupleItemsOf (.ref t) >>= _) _ _ s
  refine wpAny_bind (tupleItemsOf_ ht ?_)
  refine wpAny_bind (wpAny_typeOf hTs ?_)
  rw [if_pos (by decide)]
  refine wpAny_bind (sliceApplied_rev hs ps ?_)
  have hno : ¬ ((((items.size : Int) - 1 == 0 && (-1 : Int) == 1 && items.size == items.size) = true)) := by
    intro q
    rw [Bool.and_eq_true, Bool.and_eq_true] at q
    exact absurd q.1.2 (by decide)
  show wpAny _ _ (if ((items.size : Int) - 1 == 0 && (-1 : Int) == 1 && items.size == items.size) = true then _ else _) _ _ s
  rw [if_neg hno, pick_rev]
  first
    | exact wpAny_bind (m := Builtin.Tuple.tupleExact _) (wpAny_newObj_type (wpAny_pure ⟨_, rfl, wpAny_pure h⟩) htake)
    | exact wpAny_bind (m := Builtin.Tuple.tupleExact _) (wpAny_newObj_type (wpAny_bind (wpAny_pure (wpAny_pure ⟨_, rfl, wpAny_pure h⟩))) htake)
    | exact wpAny_bind (wpAny_bind (m := Builtin.Tuple.tupleExact _) (wpAny_newObj_type (wpAny_pure (wpAny_pure ⟨_, rfl, wpAny_pure h⟩)) htake))
    | exact wpAny_bind (wpAny_bind (m := Builtin.Tuple.tupleExact _) (wpAny_newObj_type (wpAny_pure ⟨_, rfl, wpAny_pure h⟩) htake))
end
end HT

namespace VL
open PySem PySem.Spec PyProof.Rows L2
variable [tt : TabList]
def tRevA (K : PySem.W.Frag) (te : TE) : TE := fun σ H Q => te σ H fun x H1 => ∃ a xs, x = .ref a ∧ ((SqL K H1 a xs ∧ ∀ p, H1 p = none → Q (.ref p) (upd H1 p (.lst xs.reverse))) ∨ (SqT K H1 a xs ∧ ∀ p, H1 p = none → Q (.ref p) (upd H1 p (.tup xs.reverse))))
section
variable {X : Cx}
theorem pe_revA {e : Expr} {te : TE} {k : Nat} {p1 p2 p3 pos : Pos} (he : PE X e te) : PE X (.Subscript e (.Slice none none (some (.UnaryOp .USub (.Constant (.int 1) k p1) p2)) p3) pos) (tRevA X.K te) := by
  refine ⟨fun pins s σ H Q I h => ?_⟩
  refine Subscript_ (thn (he.run pins s σ H _ I h) fun v s1 ⟨x, H1, I1, r1, q1⟩ => ?_)
  obtain ⟨a, xs, ex, q⟩ := q1
  subst ex
  cases r1
  have hst : PO X (some (.UnaryOp .USub (.Constant (.int 1) k p1) p2)) (tPart (tUn (rU fun i => .int (-i)) (tC (.int 1)))) := po_some (pe_un un_neg pe_int)
  refine wpAny_Slice (thn (po_none.run pins s1 σ H1 (fun o H2 => o = none ∧ H2 = H1) I1 ⟨rfl, rfl⟩) fun vl s2 ⟨l, H2, I2, pl, el, e2⟩ => ?_)
  subst el e2
  refine thn (po_none.run pins s2 σ H2 (fun o H3 => o = none ∧ H3 = H2) I2 ⟨rfl, rfl⟩) fun vu s3 ⟨u, H3, I3, pu, eu, e3⟩ => ?_
  subst eu e3
  refine thn (hst.run pins s3 σ H3 (fun o H4 => o = some (-1) ∧ H4 = H3) I3 ⟨1, rfl, -1, rfl, rfl, rfl⟩) fun vs s4 ⟨o, H4, I4, ps, eo, e4⟩ => ?_
  subst eo e4
  have I5 : Inv X pins σ H4 { s4 with heap := s4.heap.push { cls := .type "slice", data := .fields #[vl, vu, vs] } } := I4.kept (t' := s4.toks) fun b ob q => Heap.get?_push_of_some _ q
  show wpAny (model X.prog X.w) X.A (subscriptTail e (.Slice none none (some (.UnaryOp .USub (.Constant (.int 1) k p1) p2)) p3) (.ref a) (.ref s4.heap.objs.size)) (EP X pins σ Q) X.xe { s4 with heap := s4.heap.push { cls := .type "slice", data := .fields #[vl, vu, vs] } }
  rcases q with ⟨hx, q⟩ | ⟨hx, q⟩
  · obtain ⟨its, r, ht, hz⟩ := I5.list hx
    have hlen := r.length
    refine tail_any (ops := [.ref a, .ref s4.heap.objs.size]) ht.isList.typeIs (PySem.slot_list_getitem.lookup) ?_ (by with_unfolding_all rfl)
    refine wpAny_getItem_list_slice ht.isList (Heap.IsSliceOf.new _ vl vu vs) pl pu ps (by decide) ?_ (by rw [List.size_toArray]; omega)
    rw [PySem.W.krv_pick]
    refine ⟨.ref _, _, I5.laid (t' := s4.toks) (o := .lst xs.reverse) (fun b ob q => Heap.get?_push_of_some _ q) (Nat.le_refl _) ?_, rfl, q _ (I5.hok.fresh (Nat.le_refl _))⟩
    exact ⟨by rw [List.length_reverse]; exact hz, _, 0, r.reverse, Heap.get?_push_size _ rfl⟩
  · obtain ⟨its, r, ht, hz⟩ := I5.tuple hx
    have hlen := r.length
    cases pl
    cases pu
    refine tail_any (ops := [.ref a, .ref s4.heap.objs.size]) ht.typeIs (PyProof.Rows.slot_tuple_getitem.lookup) ?_ (by with_unfolding_all rfl)
    refine HT.getItem_tuple_rev ht (Heap.IsSliceOf.new _ _ _ vs) ps ?_ (by rw [List.size_toArray]; omega)
    refine ⟨.ref _, _, I5.laid (t' := s4.toks) (o := .tup xs.reverse) (fun b ob q => Heap.get?_push_of_some _ q) (Nat.le_refl _) ?_, rfl, q _ (I5.hok.fresh (Nat.le_refl _))⟩
    exact ⟨by rw [List.length_reverse]; exact hz, _, r.reverse, IsTup.new _ _⟩
def oRev : D → ORes
  | .lst ds => .new .l (.lst ds.reverse)
  | .tup ds => .val (.tup ds.reverse)
  | _ => .stuck
theorem de_rev {W : WX} {e : Expr} {f : M TV} {k : Nat} {p1 p2 p3 pos : Pos} (he : DE X W e f) : DE X W (.Subscript e (.Slice none none (some (.UnaryOp .USub (.Constant (.int 1) k p1) p2)) p3) pos) (cUn oRev f) := by
  obtain ⟨t, p, s⟩ := he.out
  refine .mk ⟨_, peHB (pe_revA p), fun E T io env fp σ H Q R0 h => ?_⟩
  refine oke_bind (f := f) (s E T io env fp σ H _ R0) h fun t1 env1 v1 fp1 H1 x1 r1 h1 k1 => ?_
  cases g1 : getV env1 t1 with
  | none => simp only [g1] at k1; exact k1.elim
  | some d1 =>
    simp only [g1] at k1
    have p1 := h1.get r1 g1
    have o1 := oke_fin r1 k1
    cases d1 with
    | lst ds =>
      obtain ⟨a, vs, rfl, ha, rs⟩ := rep1_lst p1
      exact ⟨a, vs, rfl, .inl ⟨.inl ha, fun p hp => opq_lst hp rs.reverse o1⟩⟩
    | tup ds =>
      obtain ⟨a, vs, rfl, ha, rs⟩ := rep1_tup p1
      exact ⟨a, vs, rfl, .inr ⟨.inl (.inl ha), fun p hp => opq_tup (AvOk.of r1) hp rs.reverse o1⟩⟩
    | _ => exact o1.elim
end
end VL
namespace VL
open PySem PySem.Spec PyProof.Rows L2
variable [tt : TabList]

/-! ### the items of a value, collected -/
def rCol (K : PySem.W.Frag) : V → Hp → (List V → Prop) → Prop := fun x H P => ∃ a, x = .ref a ∧ ((∃ xs, SqL K H a xs ∧ P xs) ∨ (∃ xs, SqT K H a xs ∧ P xs) ∨ (∃ kvs, Rd H a (.dK kvs) ∧ P (kvs.map fun p => kV p.1)) ∨
  ∃ kvs, Rd H a (.dT kvs) ∧ ∀ bs, IsKeys H kvs bs → P (bs.map V.ref))
theorem vals_of_items {vs : List (Key × Value)} {kvs : List (Key × V)} {acc : Array Value} (rel : KV kvs vs) (h : ItemsOf (fun i v => ∃ k x, vs[i]? = some (k, x) ∧ keyIs k v = true) acc vs.length) : Vals (kvs.map fun p => kV p.1) acc.toList := by
  have hl : kvs.length = vs.length := rel.length
  refine vals_of_at (by rw [List.length_map, Array.length_toList]; exact hl.trans h.1.symm) fun j x u h1 h2 => ?_
  obtain ⟨k, y, e1, e2⟩ := h.2 j u (by rw [← Array.getElem?_toList]; exact h2)
  have e3 : (vs.map (·.1))[j]? = some k := by rw [List.getElem?_map, e1]; rfl
  rw [← rel.keys, List.getElem?_map] at e3
  rw [List.getElem?_map] at h1
  cases e4 : kvs[j]? with
  | none => rw [e4] at h1; cases h1
  | some p =>
    rw [e4] at h1 e3
    have h1 : kV p.1 = x := Option.some.inj h1
    have e3 : p.1 = k := Option.some.inj e3
    rw [← h1, e3]
    exact keyIs_rel e2
section
variable {X : Cx}
theorem collect_ok (hc : X.calm = true) {A : Around} (hA : A.handled = X.A.handled) {pins : List (Addr × Obj)} {σ : L2.St} {H : Hp} {s : Shared} (I : Inv X pins σ H s) {x : V} {v : Value} (rx : RelV x v) {P : List V → Prop} (h : rCol X.K x H P) {E : Value → Shared → Prop} {Qc : List Value → Shared → Prop}
    (hq : ∀ h' tk us xs, (∀ b o, s.heap.get? b = some o → h'.get? b = some o) → Inv X pins σ H { s with heap := h', toks := tk } → Vals xs us → xs.length ≤ sizeLine → P xs → Qc us { s with heap := h', toks := tk }) :
    wpAny (model X.prog X.w) A (collect v) Qc E s := by
  obtain ⟨a, rfl, h⟩ := h
  cases rx
  have hh : A.handled = none := hA.trans (I.ok.hd hc)
  rcases h with ⟨xs, hs, p⟩ | ⟨xs, hs, p⟩ | ⟨kvs, hd, p⟩ | ⟨kvs, hd, p⟩
  · obtain ⟨its, rv, hl, hz⟩ := I.list hs
    obtain ⟨o, ho, hc', n, hd⟩ := hl.isList
    refine wpAny_collect_seq a (.inl rfl) ho hc' hd (fun h' hk => ?_) (by rw [List.size_toArray, ← rv.length]; exact hz)
    exact hq h' s.toks _ xs hk (I.kept (t' := s.toks) hk) (by simpa using rv) hz p
  · obtain ⟨its, rv, hl, hz⟩ := I.tuple hs
    obtain ⟨o, ho, hc', n, hd⟩ := hl
    refine wpAny_collect_seq a (.inr rfl) ho hc' hd (fun h' hk => ?_) (by rw [List.size_toArray, ← rv.length]; exact hz)
    exact hq h' s.toks _ xs hk (I.kept (t' := s.toks) hk) (by simpa using rv) hz p
  · obtain ⟨z, lo, vs, rel, dd⟩ := dk_rd I.hok hd
    obtain ⟨ep, hat⟩ := dd.dictAt
    have hl : kvs.length = vs.length := rel.length
    refine PySem.W.kdu_collect (A := A) (PySem.W.kdl_dict (knd := mixKind X.prog X.w) (kvs := vs) (ep := ep) lo) hh hat (by omega) fun h' tk acc hk hacc => ?_
    exact hq h' tk _ _ hk (I.kept hk) (vals_of_items rel hacc) (by rw [List.length_map]; exact z) p
  · obtain ⟨z, hs, ks, pr, o, es, ep, ho, hx, hdt, he, hn⟩ := (show ObjOk X.prog X.w H s.heap a (.dT kvs) from hd.ok I.hok)
    have l1 : es.size = ks.length := size_of_entries he
    have l2 : kvs.length = ks.length := Paired.length pr
    refine PySem.W.kdu_collect (A := A) (kdl_raw hs hx hdt) hh ho (by omega) fun h' tk acc' e it => ?_
    have ea : acc'.toList = ks.map fun x => Value.ref x.2.1 := by
      have hl : acc'.toList.length = ks.length := by rw [Array.length_toList, it.1]; exact l1
      apply List.ext_getElem?
      intro j
      rw [List.getElem?_map]
      cases hj : acc'.toList[j]? with
      | none =>
        have h1 := List.getElem?_eq_none_iff.mp hj
        rw [List.getElem?_eq_none (by omega)]
        all_goals rfl
      | some v =>
        obtain ⟨en, hen, hv⟩ := it.2 j v (by rw [← Array.getElem?_toList]; exact hj)
        have qe := entry_at he j
        rw [hen] at qe
        cases hb : ks[j]? with
        | none =>
          rw [hb] at qe
          exact nomatch (show some en = none from qe)
        | some b =>
          rw [hb] at qe
          have e2 : en = entryOfKey (tupleKind (mixKind X.prog X.w)) b := Option.some.inj qe
          rw [hv, e2]
          all_goals rfl
    refine hq h' tk _ (ks.map fun x => V.ref x.2.1) e (I.kept e) ?_ (by rw [List.length_map, ← l2]; exact z) ?_
    · rw [ea]
      have := vals_refs (ks.map fun x => x.2.1)
      rw [List.map_map, List.map_map] at this
      exact this
    · have := p _ (isKeys_of pr)
      rw [List.map_map] at this
      exact this
end

/-! ### sorted -/
open PySem.W in
theorem eachIs_of : ∀ {xs : List V} {us : List Value} {ps : List PyData}, Vals xs us → xs.length = ps.length → PySem.W.EachIs (fun u (b : V × PyData) => RelV b.1 u) us (xs.zip ps)
  | [], _, [], h, _ => by cases h; exact .nil
  | [], _, _ :: _, h, e => by simp at e
  | x :: xs, _, [], h, e => by simp at e
  | x :: xs, _, p :: ps, h, e => by
    cases h with
    | cons h1 h2 => exact .cons h1 (eachIs_of h2 (by simpa using e))
theorem vals_of_each : ∀ {us : List Value} {bs : List (V × PyData)}, PySem.W.EachIs (fun u (b : V × PyData) => RelV b.1 u) us bs → Vals (bs.map (·.1)) us
  | _, _, .nil => .nil
  | _, _, .cons h t => .cons h (vals_of_each t)
theorem zip_snd : ∀ {xs : List V} {ps : List PyData}, xs.length = ps.length → (xs.zip ps).map (·.2) = ps
  | [], [], _ => rfl
  | [], _ :: _, e => by simp at e
  | _ :: _, [], e => by simp at e
  | x :: xs, p :: ps, e => by simp only [List.zip_cons_cons, List.map_cons, zip_snd (xs := xs) (ps := ps) (by simpa using e)]
def sortZ (xs : List V) (ps : List PyData) : List V := ((xs.zip ps).mergeSort (PySem.W.dataLe false (·.2))).map (·.1)
def rSortC (K : PySem.W.Frag) : List V → Hp → VK → Prop := fun vs H Q => ∃ x, vs = [x] ∧ rCol K x H fun xs => ∃ ps, DpAll K H xs ps ∧ PySem.W.AllAlike ps ∧ PySem.W.Sortable ps ∧ (∀ p ∈ ps, p.depth ≤ 60) ∧ ∀ p, H p = none → Q (.ref p) (upd H p (.lst (sortZ xs ps)))
theorem DpAll.length {K : PySem.W.Frag} {H : Hp} : ∀ {xs : List V} {ps : List PyData}, DpAll K H xs ps → xs.length = ps.length
  | _, _, .nil => rfl
  | _, _, .cons _ t => by rw [List.length_cons, List.length_cons, DpAll.length t]
section
variable {X : Cx}
theorem cr_sortC (hc : X.calm = true) (hu : X.A.units + 70 < cLine) : CallR X (.builtin "sorted") (rSortC X.K) := by
  intro pins s σ H vs us Q I r h
  obtain ⟨x, rfl, h⟩ := h
  obtain ⟨u, rfl, rx⟩ := vals1 r
  refine Calls.call_function_entry PyProof.Rows.kind_sorted PyProof.Rows.plain_sorted PyProof.Rows.entry_sorted (PyProof.Rows.args_sorted1 _) ?_
  unfold Builtin.«sorted»
  refine wpAny_bind (m := checkCount "sorted" 1 1 _) (wpAny_pure ?_)
  refine wpAny_bind (collect_ok hc (A := X.A.in1) rfl I rx h fun h' tk us xs hk I1 rv hz p => ?_)
  obtain ⟨ps, dp, hal, hso, hd, q⟩ := p
  have hlx := rv.length
  have hlp := DpAll.length dp
  refine wpAny_bind (wpAny_newList ?_ (by omega))
  have hoL : (h'.push (seqObj "list" us.toArray 0)).get? h'.objs.size = some (seqObj "list" us.toArray 0) := Heap.get?_push_size _ rfl
  show wpAny _ _ _ _ _ { s with heap := h'.push (seqObj "list" us.toArray 0), toks := tk }
  obtain ⟨as, rr⟩ := Dp.readsAll I1 ps xs us dp rv
  have hsnd := zip_snd hlp
  have er1 : PySem.W.EachIs (fun v (b : V × PyData) => ∃ as, Reads { s with heap := h', toks := tk }.heap v b.2 as) us (xs.zip ps) := PySem.W.readsAll_each (fun b : V × PyData => b.2) (as := as) (by rw [hsnd]; exact rr)
  have er : PySem.W.EachIs (fun v (b : V × PyData) => ∃ as, Reads (PySem.W.sortingHeap (h'.push (seqObj "list" us.toArray 0)) h'.objs.size us) v b.2 as) us (xs.zip ps) := er1.mono fun _ _ ⟨as, r⟩ => ⟨as, PyProof.Rows.Reads.keeps (fun b o e => PySem.W.sortingHeap_old (Nat.ne_of_lt (Heap.lt_size e)) (Heap.get?_push_of_some _ e)) r⟩
  have ei := eachIs_of rv hlp
  have hal' : PySem.W.AllAlike ((xs.zip ps).map (·.2)) := by rw [hsnd]; exact hal
  have hso' : PySem.W.Sortable ((xs.zip ps).map (·.2)) := by rw [hsnd]; exact hso
  have out := PySem.W.sortVals_data (h' := PySem.W.sortingHeap (h'.push (seqObj "list" us.toArray 0)) h'.objs.size us) (enc := fun b : V × PyData => b.2) false ei er hal'
  refine wpAny_bind (wpAny_holding (wpAny_call_entry PyProof.Rows.slot_list_sort ⟨_, hoL, rfl⟩ PyProof.Rows.entry_list_sort
    (PySem.W.list_sort_vals (s := { s with heap := h'.push (seqObj "list" us.toArray 0), toks := tk }) (κ := PySem.W.dataKind (PySem.W.sortingHeap (h'.push (seqObj "list" us.toArray 0)) h'.objs.size us) ((xs.zip ps).map (·.2))) hoL
      (PySem.W.SortsAt.data (s := { s with heap := PySem.W.sortingHeap (h'.push (seqObj "list" us.toArray 0)) h'.objs.size us, toks := tk }) (PySem.W.each_map (R := fun v d => ∃ as, Reads (PySem.W.sortingHeap (h'.push (seqObj "list" us.toArray 0)) h'.objs.size us) v d as) (fun b : V × PyData => b.2) er) hal' hso' (fun d hd' => ?_)) (by omega) ⟨_, rfl, ?_⟩) (PyProof.Rows.args_list_sort _)))
  · rw [hsnd] at hd'
    have := hd d hd'
    show X.A.units + 1 + 1 + d.depth < cLine
    omega
  · obtain ⟨c, he'⟩ := PyProof.Rows.sortedHeap_at (vs := us) (out := (PySem.W.sortVals (PySem.W.dataKind (PySem.W.sortingHeap (h'.push (seqObj "list" us.toArray 0)) h'.objs.size us) ((xs.zip ps).map (·.2))) false us us).toArray) hoL
    have hv := vals_of_each out
    have hlen : (sortZ xs ps).length ≤ sizeLine := by
      unfold sortZ
      rw [List.length_map, List.length_mergeSort, List.length_zip]
      omega
    refine wpAny_pure ⟨_, rfl, .ref h'.objs.size, upd H h'.objs.size (.lst (sortZ xs ps)), I1.laid (t' := tk) (fun b u e => ?_) (Nat.le_refl _) ⟨hlen, _, c, hv, he'⟩, rfl, q _ (I1.hok.fresh (Nat.le_refl _))⟩
    exact (PyProof.Rows.sortedHeap_old (Nat.ne_of_lt (Heap.lt_size e)) (Heap.lt_size (Heap.get?_push_of_some _ e))).trans (Heap.get?_push_of_some _ e)
end
end VL
namespace VL
open PySem PySem.Spec PyProof.Rows L2
variable [tt : TabList]

def kD : Key → D
  | .inl i => .int i
  | .inr x => .str x
def dkD : DK → D
  | .inl k => kD k
  | .inr ks => .tup (ks.map kD)
def colD : D → Option (List D)
  | .lst ds => some ds
  | .tup ds => some ds
  | .dct ks _ => some (ks.map dkD)
  | _ => none
section
variable {B : Bas} {H : Hp} {av : Addr → Prop}
theorem kD_rep (k : Key) : Rep B H av (kV k) (kD k) := by cases k <;> first | exact .int _ | exact .str _
theorem kD_reps : ∀ ks : List Key, Reps B H av (ks.map kV) (ks.map kD)
  | [] => .nil
  | k :: ks => .cons (kD_rep k) (kD_reps ks)
theorem keys_reps {kvs : List (Key × V)} : Reps B H av (kvs.map fun p => kV p.1) ((kvs.map fun p => (Sum.inl p.1 : DK)).map dkD) := by
  induction kvs with
  | nil => exact .nil
  | cons p kvs ih => exact .cons (kD_rep p.1) ih
theorem keysT_reps (ha : AvOk H av) : ∀ {kvs : List (List Key × V)} {bs : List Addr}, IsKeys H kvs bs → Reps B H av (bs.map V.ref) ((kvs.map fun p => (Sum.inr p.1 : DK)).map dkD)
  | _, _, .nil => .nil
  | _, _, .cons h t => .cons (Rep1.tupRep ha (.tup h (kD_reps _))) (keysT_reps ha t)
theorem colD_ok (ha : AvOk H av) {x : V} {d : D} {ds : List D} (r : Rep1 B H av x d) (e : colD d = some ds) {P : List V → Prop} (h : ∀ xs, Reps B H av xs ds → P xs) : rCol B.K x H P := by
  cases r with
  | lst h1 h2 => cases e; exact ⟨_, rfl, .inl ⟨_, .inl h1, h _ h2⟩⟩
  | tup h1 h2 => cases e; exact ⟨_, rfl, .inr (.inl ⟨_, .inl (.inl h1), h _ h2⟩)⟩
  | dK h1 e2 h2 => cases e; subst e2; exact ⟨_, rfl, .inr (.inr (.inl ⟨_, h1, h _ keys_reps⟩))⟩
  | dT h1 e2 h2 => cases e; subst e2; exact ⟨_, rfl, .inr (.inr (.inr ⟨_, h1, fun bs hb => h _ (keysT_reps ha hb)⟩))⟩
  | _ => cases e
end

/-! ### sorted -/
def dle (a b : D) : Bool := PySem.W.dataLe (β := D) false toP a b
def srt (ds : List D) : List D := ds.mergeSort dle
def sortOk (ds : List D) : Bool := pls 60 ds && (ds.all fun d => ds.all fun e => PySem.W.alike (toP d) (toP e)) && ((ds.all fun d => match d with | .tup (_ :: _) => true | _ => false) || (ds.all fun d => match d with | .tup _ => false | .non => false | _ => true))
theorem toPs_map : ∀ ds : List D, toPs ds = ds.map toP
  | [] => rfl
  | d :: ds => by rw [toPs, List.map_cons, toPs_map ds]
theorem depth_mem : ∀ {ps : List PyData} {n : Nat}, PyData.depthAll ps ≤ n → ∀ p ∈ ps, p.depth ≤ n
  | [], _, _, _, h => nomatch h
  | q :: ps, n, h, p, hp => by
    simp only [PyData.depthAll] at h
    rcases List.mem_cons.mp hp with rfl | hp
    · omega
    · exact depth_mem (by omega) p hp
theorem pls_mem : ∀ {ds : List D} {n : Nat}, pls n ds = true → ∀ d ∈ ds, pl n d = true
  | [], _, _, _, h => nomatch h
  | q :: ds, n, h, d, hd => by
    have h : pl n q = true ∧ pls n ds = true := by cases n <;> simpa [pls] using h
    rcases List.mem_cons.mp hd with rfl | hd
    · exact h.1
    · exact pls_mem h.2 d hd
theorem sortOk_out {ds : List D} (h : sortOk ds = true) : pls 60 ds = true ∧ PySem.W.AllAlike (toPs ds) ∧ PySem.W.Sortable (toPs ds) := by
  unfold sortOk at h
  rw [Bool.and_eq_true, Bool.and_eq_true, Bool.or_eq_true] at h
  obtain ⟨⟨h1, h2⟩, h3⟩ := h
  rw [toPs_map]
  refine ⟨h1, fun d hd e he => ?_, ?_⟩
  · obtain ⟨a, ha, rfl⟩ := List.mem_map.mp hd
    obtain ⟨b, hb, rfl⟩ := List.mem_map.mp he
    rw [List.all_eq_true] at h2
    have := h2 a ha
    rw [List.all_eq_true] at this
    exact this b hb
  · rcases h3 with h3 | h3
    · refine .inl fun d hd => ?_
      obtain ⟨a, ha, rfl⟩ := List.mem_map.mp hd
      rw [List.all_eq_true] at h3
      have := h3 a ha
      split at this
      · exact ⟨_, _, rfl⟩
      · cases this
    · refine .inr fun d hd => ?_
      obtain ⟨a, ha, rfl⟩ := List.mem_map.mp hd
      rw [List.all_eq_true] at h3
      have := h3 a ha
      have pp := pls_mem h1 a ha
      cases a with
      | non => exact absurd this Bool.false_ne_true
      | tup _ => exact absurd this Bool.false_ne_true
      | bl _ => exact ⟨fun z => (nomatch z), fun _ z => (nomatch z)⟩
      | int _ => exact ⟨fun z => (nomatch z), fun _ z => (nomatch z)⟩
      | str _ => exact ⟨fun z => (nomatch z), fun _ z => (nomatch z)⟩
      | lst _ => exact ⟨fun z => (nomatch z), fun _ z => (nomatch z)⟩
      | dct _ _ => exact absurd pp (by simp [pl])
      | ins _ _ _ => exact absurd pp (by simp [pl])
      | ty _ => exact absurd pp (by simp [pl])
      | cls _ => exact absurd pp (by simp [pl])
      | clo _ _ => exact absurd pp (by simp [pl])
theorem reps_zip {B : Bas} {H : Hp} {av : Addr → Prop} : ∀ {xs : List V} {ds : List D}, Reps B H av xs ds → ∀ p ∈ xs.zip ds, Rep B H av p.1 p.2
  | _, _, .nil, _, h => nomatch h
  | _, _, .cons r t, p, h => by
    rw [List.zip_cons_cons] at h
    rcases List.mem_cons.mp h with rfl | h
    · exact r
    · exact reps_zip t p h
theorem reps_of_zip {B : Bas} {H : Hp} {av : Addr → Prop} : ∀ {ps : List (V × D)}, (∀ p ∈ ps, Rep B H av p.1 p.2) → Reps B H av (ps.map (·.1)) (ps.map (·.2))
  | [], _ => .nil
  | p :: ps, h => .cons (h p List.mem_cons_self) (reps_of_zip fun q hq => h q (List.mem_cons_of_mem _ hq))
theorem zip_snd' {α β : Type} : ∀ {xs : List α} {ps : List β}, xs.length = ps.length → (xs.zip ps).map (·.2) = ps
  | [], [], _ => rfl
  | [], _ :: _, e => by simp at e
  | _ :: _, [], e => by simp at e
  | x :: xs, p :: ps, e => by simp only [List.zip_cons_cons, List.map_cons, zip_snd' (xs := xs) (ps := ps) (by simpa using e)]
theorem sortZ_reps {B : Bas} {H : Hp} {av : Addr → Prop} {xs : List V} {ds : List D} (r : Reps B H av xs ds) : Reps B H av (sortZ xs (toPs ds)) (srt ds) := by
  have hl := r.length
  have e1 : sortZ xs (toPs ds) = (((xs.zip ds).mergeSort fun a b => dle a.2 b.2).map (·.1)) := by
    unfold sortZ
    have e0 : xs.zip (toPs ds) = (xs.zip ds).map fun p => (p.1, toP p.2) := by
      rw [toPs_map]
      clear hl r
      induction xs generalizing ds with
      | nil => simp
      | cons x xs ih => cases ds with
        | nil => simp
        | cons d ds => simp only [List.map_cons, List.zip_cons_cons, ih]
    rw [e0, ← List.map_mergeSort (r := fun a b => dle a.2 b.2) (fun a _ b _ => rfl), List.map_map]
    rfl
  have e2 : srt ds = (((xs.zip ds).mergeSort fun a b => dle a.2 b.2).map (·.2)) := by
    unfold srt
    have := List.map_mergeSort (r := fun (a b : V × D) => dle a.2 b.2) (s := dle) (f := fun p : V × D => p.2) (l := xs.zip ds) (fun a _ b _ => rfl)
    rw [zip_snd' hl] at this
    exact this.symm
  rw [e1, e2]
  exact reps_of_zip fun p hp => reps_zip r p ((List.mergeSort_perm _ _).mem_iff.mp hp)
def oSorted : List D → ORes
  | [d] => match colD d with
    | some ds => if sortOk ds then .new .l (.lst (srt ds)) else .stuck
    | none => .stuck
  | _ => .stuck
def oList : List D → ORes
  | [d] => match colD d with
    | some ds => .new .l (.lst ds)
    | none => .stuck
  | _ => .stuck
def oTuple : List D → ORes
  | [.lst ds] => .val (.tup ds)
  | [.tup ds] => .val (.tup ds)
  | _ => .stuck
def oLen : List D → ORes
  | [.lst ds] => .val (.int ds.length)
  | [.tup ds] => .val (.int ds.length)
  | [.dct ks _] => .val (.int ks.length)
  | [.str x] => if x.length ≤ sizeLine then .val (.int x.length) else .stuck
  | _ => .stuck
def oInt : List D → ORes
  | [.int i] => .val (.int i)
  | [.bl b] => .val (.int (if b then 1 else 0))
  | _ => .stuck
def oAbs : List D → ORes
  | [.int i] => .val (.int (if i < 0 then -i else i))
  | _ => .stuck
def allBl : List D → Option (List Bool)
  | [] => some []
  | .bl b :: ds => (allBl ds).map (b :: ·)
  | _ => none
def allInt : List D → Option (List Int)
  | [] => some []
  | .int i :: ds => (allInt ds).map (i :: ·)
  | _ => none
def oAny : List D → ORes
  | [.lst ds] => match allBl ds with
    | some bs => .val (.bl (bs.any id))
    | none => .stuck
  | _ => .stuck
def oAll : List D → ORes
  | [.lst ds] => match allBl ds with
    | some bs => .val (.bl (bs.all id))
    | none => .stuck
  | _ => .stuck
def oSum : List D → ORes
  | [.lst ds] => match allInt ds with
    | some ns => .val (.int ns.sum)
    | none => .stuck
  | _ => .stuck
def maxL : Int → List Int → Int
  | m, [] => m
  | m, n :: ns => maxL (if n > m then n else m) ns
def minL : Int → List Int → Int
  | m, [] => m
  | m, n :: ns => minL (if n < m then n else m) ns
def oMax : List D → ORes
  | [.lst ds] => match allInt ds with
    | some (n :: ns) => .val (.int (maxL n ns))
    | _ => .stuck
  | [.int i, .int j] => .val (.int (if j > i then j else i))
  | _ => .stuck
def oMin : List D → ORes
  | [.lst ds] => match allInt ds with
    | some (n :: ns) => .val (.int (minL n ns))
    | _ => .stuck
  | [.int i, .int j] => .val (.int (if j < i then j else i))
  | _ => .stuck
theorem maxL_mem : ∀ (ns : List Int) (m : Int), maxL m ns ∈ m :: ns ∧ ∀ y ∈ m :: ns, y ≤ maxL m ns
  | [], m => ⟨List.mem_cons_self, fun y h => by simp at h; rw [h]; exact Int.le_refl _⟩
  | n :: ns, m => by
    obtain ⟨h1, h2⟩ := maxL_mem ns (if n > m then n else m)
    have h3 := h2 _ List.mem_cons_self
    refine ⟨?_, fun y hy => ?_⟩
    · show maxL (if n > m then n else m) ns ∈ _
      rcases List.mem_cons.mp h1 with h1 | h1
      · rw [h1]; split <;> simp
      · exact List.mem_cons_of_mem _ (List.mem_cons_of_mem _ h1)
    · show y ≤ maxL (if n > m then n else m) ns
      have h4 : n ≤ (if n > m then n else m) ∧ m ≤ (if n > m then n else m) := by split <;> omega
      rcases List.mem_cons.mp hy with rfl | hy
      · exact Int.le_trans h4.2 h3
      · rcases List.mem_cons.mp hy with rfl | hy
        · exact Int.le_trans h4.1 h3
        · exact h2 y (List.mem_cons_of_mem _ hy)
theorem minL_mem : ∀ (ns : List Int) (m : Int), minL m ns ∈ m :: ns ∧ ∀ y ∈ m :: ns, minL m ns ≤ y
  | [], m => ⟨List.mem_cons_self, fun y h => by simp at h; rw [h]; exact Int.le_refl _⟩
  | n :: ns, m => by
    obtain ⟨h1, h2⟩ := minL_mem ns (if n < m then n else m)
    have h3 := h2 _ List.mem_cons_self
    refine ⟨?_, fun y hy => ?_⟩
    · show minL (if n < m then n else m) ns ∈ _
      rcases List.mem_cons.mp h1 with h1 | h1
      · rw [h1]; split <;> simp
      · exact List.mem_cons_of_mem _ (List.mem_cons_of_mem _ h1)
    · show minL (if n < m then n else m) ns ≤ y
      have h4 : (if n < m then n else m) ≤ n ∧ (if n < m then n else m) ≤ m := by split <;> omega
      rcases List.mem_cons.mp hy with rfl | hy
      · exact Int.le_trans h3 h4.2
      · rcases List.mem_cons.mp hy with rfl | hy
        · exact Int.le_trans h3 h4.1
        · exact h2 y (List.mem_cons_of_mem _ hy)
theorem allBl_reps {B : Bas} {H : Hp} {av : Addr → Prop} : ∀ {ds : List D} {xs : List V} {bs : List Bool}, Reps B H av xs ds → allBl ds = some bs → xs = bs.map V.bl
  | [], _, _, h, e => by cases h; cases e; rfl
  | d :: ds, _, bs, h, e => by
    cases h with
    | cons h1 h2 =>
      cases d with
      | bl b =>
        simp only [allBl] at e
        cases e2 : allBl ds with
        | none => rw [e2] at e; cases e
        | some bs' => rw [e2] at e; cases e; cases h1; rw [allBl_reps h2 e2]; rfl
      | _ => simp [allBl] at e
theorem allInt_reps {B : Bas} {H : Hp} {av : Addr → Prop} : ∀ {ds : List D} {xs : List V} {bs : List Int}, Reps B H av xs ds → allInt ds = some bs → xs = bs.map V.int
  | [], _, _, h, e => by cases h; cases e; rfl
  | d :: ds, _, bs, h, e => by
    cases h with
    | cons h1 h2 =>
      cases d with
      | int b =>
        simp only [allInt] at e
        cases e2 : allInt ds with
        | none => rw [e2] at e; cases e
        | some bs' => rw [e2] at e; cases e; cases h1; rw [allInt_reps h2 e2]; rfl
      | _ => simp [allInt] at e
end VL
namespace VL
open PySem PySem.Spec PyProof.Rows L2
variable [tt : TabList]

/-! ### calls of built-in functions: soundness -/
def rLenA (K : PySem.W.Frag) : List V → Hp → VK → Prop := fun xs H Q => (∃ x n, xs = [x] ∧ LenV K x H n ∧ Q (.int n) H) ∨ (∃ a kvs, xs = [V.ref a] ∧ Rd H a (.dK kvs) ∧ Q (.int kvs.length) H) ∨ ∃ a kvs, xs = [V.ref a] ∧ Rd H a (.dT kvs) ∧ Q (.int ((kvs.length : Nat) : Int)) H
def rListA (K : PySem.W.Frag) : List V → Hp → VK → Prop := fun xs H Q => (∃ p ys, xs = [V.ref p] ∧ (SqL K H p ys ∨ SqT K H p ys) ∧ ∀ l, H l = none → Q (.ref l) (upd H l (.lst ys))) ∨
  (∃ (a : Addr) (kvs : List (Key × V)), xs = [.ref a] ∧ Rd H a (.dK kvs) ∧ ∀ p, H p = none → Q (.ref p) (upd H p (.lst (kvs.map fun kv => kV kv.1)))) ∨
  (∃ d kvs, xs = [V.ref d] ∧ Rd H d (.dT kvs) ∧ ∀ p bs, H p = none → IsKeys H kvs bs → Q (.ref p) (upd H p (.lst (bs.map V.ref))))
def rTupA (K : PySem.W.Frag) : List V → Hp → VK → Prop := fun xs H Q => ∃ p ys, xs = [V.ref p] ∧ ((SqL K H p ys ∧ ∀ l, H l = none → Q (.ref l) (upd H l (.tup ys))) ∨ (SqT K H p ys ∧ Q (.ref p) H))
def rMaxA (K : PySem.W.Frag) : List V → Hp → VK → Prop := fun xs H Q => rMax K xs H Q ∨ ∃ i j, xs = [.int i, .int j] ∧ Q (.int (if j > i then j else i)) H
def rMinA (K : PySem.W.Frag) : List V → Hp → VK → Prop := fun xs H Q => rMin K xs H Q ∨ ∃ i j, xs = [.int i, .int j] ∧ Q (.int (if j < i then j else i)) H
def rIntA : List V → Hp → VK → Prop := fun xs H Q => (∃ i, xs = [.int i] ∧ Q (.int i) H) ∨ ∃ k, xs = [.bl k] ∧ Q (.int (if k then 1 else 0)) H
def rAbsA : List V → Hp → VK → Prop := fun xs H Q => ∃ i, xs = [.int i] ∧ Q (.int (if i < 0 then -i else i)) H
section
variable {X : Cx}
theorem call_lenRdK : CallR X (.builtin "len") (fun xs H Q => ∃ a kvs, xs = [V.ref a] ∧ Rd H a (.dK kvs) ∧ Q (.int kvs.length) H) := by
  intro pins s σ H xs us Q I r h
  obtain ⟨a, kvs, rfl, hd, q⟩ := h
  obtain ⟨u, rfl, rx⟩ := vals1 r
  cases rx
  exact d_len I hd fun t s' I' => ⟨.int _, H, I', ⟨_, rfl⟩, q⟩
theorem call_lenRdT : CallR X (.builtin "len") (fun xs H Q => ∃ a kvs, xs = [V.ref a] ∧ Rd H a (.dT kvs) ∧ Q (.int ((kvs.length : Nat) : Int)) H) := by
  intro pins s σ H xs us Q I r h
  obtain ⟨p, kvs, rfl, hp, q⟩ := h
  obtain ⟨u, rfl, rx⟩ := vals1 r
  obtain rfl : u = .ref p := rx
  obtain ⟨z, hd, ys, rel, dd⟩ := dt_rd I.hok hp
  have hl : kvs.length = ys.length := Paired.length rel
  refine call_len_dictH hd dd (by rw [← hl]; rw [sizeLine_eq] at z; omega) ?_
  rw [← hl]
  exact ⟨.int ((kvs.length : Nat) : Int), H, I.tok _, ⟨_, rfl⟩, q⟩
theorem c_len : CallR X (.builtin "len") (rLenA X.K) := call_len.or (call_lenRdK.or call_lenRdT)
theorem c_list (hc : X.calm = true) : CallR X (.type "list") (rListA X.K) := call_list_of.or ((call_listD hc).or (call_list_dT hc))
theorem c_tuple : CallR X (.type "tuple") (rTupA X.K) := call_tuple_of
theorem c_max (hc : X.calm = true) : CallR X (.builtin "max") (rMaxA X.K) := (cr_max hc).or (call_max2 hc)
theorem c_min (hc : X.calm = true) : CallR X (.builtin "min") (rMinA X.K) := (cr_min hc).or (call_min2 hc)
theorem c_int : CallR X (.type "int") rIntA := call_int1
theorem c_abs : CallR X (.builtin "abs") rAbsA := call_abs
theorem c_sum (hc : X.calm = true) : CallR X (.builtin "sum") (rSum X.K) := cr_sum hc
theorem c_any (hc : X.calm = true) : CallR X (.builtin "any") (rAny X.K) := cr_any hc
theorem c_all (hc : X.calm = true) : CallR X (.builtin "all") (rAll X.K) := cr_all hc
theorem c_sorted {k : Nat} (hc : X.calm = true) (hr : Room k X.A) : CallR X (.builtin "sorted") (rSortC X.K) := cr_sortC hc (by have := hr.un; omega)

theorem s_len : OpNS X (rLenA X.K) oLen := by
  intro H av xs ds Q ha r h
  unfold oLen at h
  split at h
  · obtain ⟨x, rfl, r1⟩ := rep1s_1 r
    obtain ⟨a, vs, rfl, h1, rs⟩ := rep1_lst r1
    exact .inl ⟨_, vs.length, rfl, .inl ⟨_, .inl h1, rfl⟩, by rw [rs.length]; exact opq0 h (.int _)⟩
  · obtain ⟨x, rfl, r1⟩ := rep1s_1 r
    obtain ⟨a, vs, rfl, h1, rs⟩ := rep1_tup r1
    exact .inl ⟨_, vs.length, rfl, .inr ⟨_, .inl (.inl h1), rfl⟩, by rw [rs.length]; exact opq0 h (.int _)⟩
  · obtain ⟨x, rfl, r1⟩ := rep1s_1 r
    cases r1 with
    | dK h1 e h2 => subst e; exact .inr (.inl ⟨_, _, rfl, h1, by rw [List.length_map] at h; exact opq0 h (.int _)⟩)
    | dT h1 e h2 => subst e; exact .inr (.inr ⟨_, _, rfl, h1, by rw [List.length_map] at h; exact opq0 h (.int _)⟩)
  · obtain ⟨x, rfl, r1⟩ := rep1s_1 r
    split at h
    · cases r1; exact .inl ⟨_, _, rfl, ⟨by assumption, rfl⟩, opq0 h (.int _)⟩
    · exact h.elim
  · exact h.elim
theorem s_sorted : OpNS X (rSortC X.K) oSorted := by
  intro H av xs ds Q ha r h
  unfold oSorted at h
  split at h
  · obtain ⟨x, rfl, r1⟩ := rep1s_1 r
    split at h
    · rename_i ds' e
      split at h
      · rename_i hk
        obtain ⟨k1, k2, k3⟩ := sortOk_out hk
        refine ⟨x, rfl, colD_ok ha r1 e fun vs rs => ?_⟩
        obtain ⟨a1, a2, a3⟩ := toPs_ok ds' 60 vs k1 rs
        exact ⟨_, a1, k2, k3, depth_mem a3, fun p hp => opq_lst hp (sortZ_reps rs) h⟩
      · exact h.elim
    · exact h.elim
  · exact h.elim
theorem s_list : OpNS X (rListA X.K) oList := by
  intro H av xs ds Q ha r h
  unfold oList at h
  split at h
  · obtain ⟨x, rfl, r1⟩ := rep1s_1 r
    split at h
    · rename_i ds' e
      cases r1 with
      | lst h1 h2 => cases e; exact .inl ⟨_, _, rfl, .inl (.inl h1), fun p hp => opq_lst hp h2 h⟩
      | tup h1 h2 => cases e; exact .inl ⟨_, _, rfl, .inr (.inl (.inl h1)), fun p hp => opq_lst hp h2 h⟩
      | dK h1 e2 h2 => cases e; subst e2; exact .inr (.inl ⟨_, _, rfl, h1, fun p hp => opq_lst hp keys_reps h⟩)
      | dT h1 e2 h2 => cases e; subst e2; exact .inr (.inr ⟨_, _, rfl, h1, fun p bs hp hb => opq_lst hp (keysT_reps ha hb) h⟩)
      | _ => cases e
    · exact h.elim
  · exact h.elim
theorem s_tuple : OpNS X (rTupA X.K) oTuple := by
  intro H av xs ds Q ha r h
  unfold oTuple at h
  split at h
  · obtain ⟨x, rfl, r1⟩ := rep1s_1 r
    obtain ⟨a, vs, rfl, h1, rs⟩ := rep1_lst r1
    exact ⟨_, _, rfl, .inl ⟨.inl h1, fun p hp => opq_tup ha hp rs h⟩⟩
  · obtain ⟨x, rfl, r1⟩ := rep1s_1 r
    have t := r1.tupRep ha
    obtain ⟨a, vs, rfl, h1, rs⟩ := rep1_tup r1
    exact ⟨_, _, rfl, .inr ⟨.inl (.inl h1), opq0 h t⟩⟩
  · exact h.elim
theorem s_int : OpNS X rIntA oInt := by
  intro H av xs ds Q ha r h
  unfold oInt at h
  split at h
  · obtain ⟨x, rfl, r1⟩ := rep1s_1 r; cases r1; exact .inl ⟨_, rfl, opq0 h (.int _)⟩
  · obtain ⟨x, rfl, r1⟩ := rep1s_1 r; cases r1; exact .inr ⟨_, rfl, opq0 h (.int _)⟩
  · exact h.elim
theorem s_abs : OpNS X rAbsA oAbs := by
  intro H av xs ds Q ha r h
  unfold oAbs at h
  split at h
  · obtain ⟨x, rfl, r1⟩ := rep1s_1 r; cases r1; exact ⟨_, rfl, opq0 h (.int _)⟩
  · exact h.elim
theorem s_any : OpNS X (rAny X.K) oAny := by
  intro H av xs ds Q ha r h
  unfold oAny at h
  split at h
  · obtain ⟨x, rfl, r1⟩ := rep1s_1 r
    obtain ⟨a, vs, rfl, h1, rs⟩ := rep1_lst r1
    split at h
    · rename_i bs e
      have := allBl_reps rs e
      subst this
      exact ⟨_, _, rfl, .inl h1, opq0 h (.bl _)⟩
    · exact h.elim
  · exact h.elim
theorem s_all : OpNS X (rAll X.K) oAll := by
  intro H av xs ds Q ha r h
  unfold oAll at h
  split at h
  · obtain ⟨x, rfl, r1⟩ := rep1s_1 r
    obtain ⟨a, vs, rfl, h1, rs⟩ := rep1_lst r1
    split at h
    · rename_i bs e
      have := allBl_reps rs e
      subst this
      exact ⟨_, _, rfl, .inl h1, opq0 h (.bl _)⟩
    · exact h.elim
  · exact h.elim
theorem s_sum : OpNS X (rSum X.K) oSum := by
  intro H av xs ds Q ha r h
  unfold oSum at h
  split at h
  · obtain ⟨x, rfl, r1⟩ := rep1s_1 r
    obtain ⟨a, vs, rfl, h1, rs⟩ := rep1_lst r1
    split at h
    · rename_i bs e
      have := allInt_reps rs e
      subst this
      exact ⟨_, _, rfl, .inl h1, opq0 h (.int _)⟩
    · exact h.elim
  · exact h.elim
theorem s_max : OpNS X (rMaxA X.K) oMax := by
  intro H av xs ds Q ha r h
  unfold oMax at h
  split at h
  · obtain ⟨x, rfl, r1⟩ := rep1s_1 r
    obtain ⟨a, vs, rfl, h1, rs⟩ := rep1_lst r1
    split at h
    · rename_i n ns e
      have := allInt_reps rs e
      subst this
      refine .inl ⟨_, _, rfl, .inl h1, by simp, fun m hm hx => ?_⟩
      obtain ⟨a1, a2⟩ := maxL_mem ns n
      have : m = maxL n ns := Int.le_antisymm (a2 m hm) (hx _ a1)
      rw [this]
      exact opq0 h (.int _)
    · exact h.elim
  · obtain ⟨x, y, rfl, r1, r2⟩ := rep1s_2 r
    cases r1; cases r2
    exact .inr ⟨_, _, rfl, opq0 h (.int _)⟩
  · exact h.elim
theorem s_min : OpNS X (rMinA X.K) oMin := by
  intro H av xs ds Q ha r h
  unfold oMin at h
  split at h
  · obtain ⟨x, rfl, r1⟩ := rep1s_1 r
    obtain ⟨a, vs, rfl, h1, rs⟩ := rep1_lst r1
    split at h
    · rename_i n ns e
      have := allInt_reps rs e
      subst this
      refine .inl ⟨_, _, rfl, .inl h1, by simp, fun m hm hx => ?_⟩
      obtain ⟨a1, a2⟩ := minL_mem ns n
      have : m = minL n ns := Int.le_antisymm (hx _ a1) (a2 m hm)
      rw [this]
      exact opq0 h (.int _)
    · exact h.elim
  · obtain ⟨x, y, rfl, r1, r2⟩ := rep1s_2 r
    cases r1; cases r2
    exact .inr ⟨_, _, rfl, opq0 h (.int _)⟩
  · exact h.elim
end
end VL
namespace VL
open PySem PySem.Spec PyProof.Rows L2
variable [tt : TabList]

/-! ### o[i] -/
def rIxDct : R2 := fun x y H Q => ∃ a v, x = .ref a ∧ DGet H a y (some v) ∧ Q v H
def rIxA (K : PySem.W.Frag) : R2 := fun x y H Q => rIx K x y H Q ∨ rIxDct x y H Q
def oIx : D → D → ORes
  | .lst ds, .int i => match atI ds i with
    | some d => .val d
    | none => .stuck
  | .tup ds, .int i => match atI ds i with
    | some d => .val d
    | none => .stuck
  | .str z, .int i => if z.length ≤ sizeLine then match atI z.cps.toList i with
      | some c => .val (.str ⟨#[c]⟩)
      | none => .stuck
    else .stuck
  | .dct ks vs, d => match dkOf d with
    | some k => match dLook ks vs k with
      | some d => .val d
      | none => .stuck
    | none => .stuck
  | _, _ => .stuck
theorem atI_reps {B : Bas} {H : Hp} {av : Addr → Prop} {vs : List V} {ds : List D} (r : Reps B H av vs ds) {i : Int} {d : D} (e : atI ds i = some d) : ∃ v, atI vs i = some v ∧ Rep B H av v d := by
  unfold atI at e ⊢
  rw [r.length]
  cases e1 : ixN ds.length i with
  | none => rw [e1] at e; cases e
  | some j => rw [e1] at e; exact r.getD e
theorem inl_inj {α β : Type} : ∀ a b : α, (Sum.inl a : Sum α β) = Sum.inl b → a = b := fun _ _ e => Sum.inl.inj e
theorem inr_inj {α β : Type} : ∀ a b : β, (Sum.inr a : Sum α β) = Sum.inr b → a = b := fun _ _ e => Sum.inr.inj e
/-- y in the dict at a, also where a is empty and y a key of the other kind -/
def DGetX (H : Hp) (a : Addr) (y : V) (r : Option V) : Prop :=
  DGet H a y r ∨ (∃ (k : List Key) (b : Addr), Rd H a (.dK []) ∧ y = .ref b ∧ H b = some (.tup (k.map kV)) ∧ r = none) ∨ ∃ k : Key, Rd H a (.dT []) ∧ y = kV k ∧ r = none
section
variable {X : Cx} {pins : List (Addr × Obj)} {σ : L2.St} {H : Hp} {s : Shared} {a : Addr} {y v : V} {u r : Value} {o : Option V} {A : Around} {E : Value → Shared → Prop}
theorem dk_emptyH (I : Inv X pins σ H s) (e : Rd H a (.dK [])) : (a == sysModules) = false ∧ s.heap.DictOfH (tupleKind (mixKind X.prog X.w)) a [] := by
  obtain ⟨z, hd, vs, rel, ob, es, ep, h1, h2, h3, h4, h5, h6⟩ := dk_rd I.hok e
  cases rel
  refine ⟨hd, ob, es, ep, h1, h2, h3, ?_, (fun x hx => nomatch hx), .nil⟩
  cases hes : es.toList with
  | nil => rfl
  | cons p ps => rw [hes] at h5; cases h5
theorem dt_emptyK (I : Inv X pins σ H s) (e : Rd H a (.dT [])) : (a == sysModules) = false ∧ s.heap.DictOf (mixKind X.prog X.w) a [] := by
  obtain ⟨z, hd, vs, rel, ob, es, ep, h1, h2, h3, h4, h5, h6⟩ := dt_rd I.hok e
  cases rel
  have : es = #[] := by
    apply Array.toList_inj.mp
    rw [h4]; rfl
  subst this
  exact ⟨hd, ob, _, ep, h1, h2, h3, (by first | exact (fun i h => absurd h (by simp)) | simp [KeysOf]), (by first | exact .nil | exact True.intro), .nil⟩
theorem d_inX {Q : Value → Shared → Prop} (hu : A.units + 1 < cLine) (I : Inv X pins σ H s) (g : DGetX H a y o) (ry : RelV y u) (h : ∀ s', Inv X pins σ H s' → Q (.bool o.isSome) s') :
    wpAny (model X.prog X.w) A (compareOp .In u (.ref a)) Q E s := by
  rcases g with g | ⟨k, b, e, ey, eb, l⟩ | ⟨k, e, ey, l⟩
  · exact d_in hu I g ry h
  · subst ey l
    cases (show u = Value.ref b from ry)
    obtain ⟨hd, dd⟩ := dk_emptyH I e
    exact wpAny_in_heap (tupleKind_room_in1 hu) (key_of I.hok eb) hd dd (h _ (I.tok _))
  · subst ey l
    obtain ⟨hd, dd⟩ := dt_emptyK I e
    exact wpAny_in_of (kV_is ry) hd dd.mapOf (h _ (I.tok _))
theorem d_notInX {Q : Value → Shared → Prop} (hu : A.units + 1 < cLine) (I : Inv X pins σ H s) (g : DGetX H a y o) (ry : RelV y u) (h : ∀ s', Inv X pins σ H s' → Q (.bool (!o.isSome)) s') :
    wpAny (model X.prog X.w) A (compareOp .NotIn u (.ref a)) Q E s := by
  rcases g with g | ⟨k, b, e, ey, eb, l⟩ | ⟨k, e, ey, l⟩
  · exact d_notIn hu I g ry h
  · subst ey l
    cases (show u = Value.ref b from ry)
    obtain ⟨hd, dd⟩ := dk_emptyH I e
    exact wpAny_notIn_heap (tupleKind_room_in1 hu) (key_of I.hok eb) hd dd (h _ (I.tok _))
  · subst ey l
    obtain ⟨hd, dd⟩ := dt_emptyK I e
    exact wpAny_notIn_of (kV_is ry) hd dd.mapOf (h _ (I.tok _))
end
/-- the key's place in a dict -/
theorem dget_of {B : Bas} {H : Hp} {av : Addr → Prop} {x y : V} {ks : List DK} {vs : List D} {d2 : D} {k : DK} (r1 : Rep1 B H av x (.dct ks vs)) (r2 : Rep1 B H av y d2) (e : dkOf d2 = some k) (hf : kFits ks k = true) :
    ∃ a o, x = .ref a ∧ DGetX H a y o ∧ ((o = none ∧ dLook ks vs k = none) ∨ ∃ v d, o = some v ∧ dLook ks vs k = some d ∧ Rep B H av v d) := by
  have kk : (∃ q, k = .inl q ∧ y = kV q) ∨ ∃ qs b, k = .inr qs ∧ y = .ref b ∧ H b = some (.tup (qs.map kV)) := by
    cases d2 with
    | int i => cases e; cases r2; exact .inl ⟨_, rfl, rfl⟩
    | str z => cases e; cases r2; exact .inl ⟨_, rfl, rfl⟩
    | tup ds =>
      obtain ⟨b, ws, rfl, hb, rs⟩ := rep1_tup r2
      simp only [dkOf] at e
      cases e2 : ksOf ds with
      | none => rw [e2] at e; cases e
      | some qs => rw [e2] at e; cases e; exact .inr ⟨qs, b, rfl, rfl, by rw [hb, ksOf_reps rs e2]⟩
    | _ => cases e
  cases r1 with
  | @dK a kvs _ _ h1 e1 h2 =>
    subst e1
    rcases kk with ⟨q, rfl, rfl⟩ | ⟨qs, b, rfl, rfl, hb⟩
    · refine ⟨a, valV kvs q, rfl, .inl (.inl ⟨kvs, q, h1, rfl, rfl⟩), ?_⟩
      rcases look_gen (fun p : Key => (Sum.inl p : DK)) inl_inj q h2 with ⟨a1, a2⟩ | ⟨d, v, a1, a2, a3⟩
      · exact .inl ⟨a2, a1⟩
      · exact .inr ⟨v, d, a2, a1, a3⟩
    · cases kvs with
      | nil => exact ⟨a, none, rfl, .inr (.inl ⟨qs, b, h1, rfl, hb, rfl⟩), .inl ⟨rfl, by cases vs <;> rfl⟩⟩
      | cons p kvs => simp [kFits] at hf
  | @dT a kvs _ _ h1 e1 h2 =>
    subst e1
    rcases kk with ⟨q, rfl, rfl⟩ | ⟨qs, b, rfl, rfl, hb⟩
    · cases kvs with
      | nil => exact ⟨a, none, rfl, .inr (.inr ⟨q, h1, rfl, rfl⟩), .inl ⟨rfl, by cases vs <;> rfl⟩⟩
      | cons p kvs => simp [kFits, allK] at hf
    · refine ⟨a, valV kvs qs, rfl, .inl (.inr ⟨kvs, qs, b, h1, rfl, hb, rfl⟩), ?_⟩
      rcases look_gen (fun p : List Key => (Sum.inr p : DK)) inr_inj qs h2 with ⟨a1, a2⟩ | ⟨d, v, a1, a2, a3⟩
      · exact .inl ⟨a2, a1⟩
      · exact .inr ⟨v, d, a2, a1, a3⟩

theorem dget_some {B : Bas} {H : Hp} {av : Addr → Prop} {x y : V} {ks : List DK} {vs : List D} {d2 d : D} {k : DK} (r1 : Rep1 B H av x (.dct ks vs)) (r2 : Rep1 B H av y d2) (e : dkOf d2 = some k) (e2 : dLook ks vs k = some d) :
    ∃ a v, x = .ref a ∧ DGet H a y (some v) ∧ Rep B H av v d := by
  have kk : (∃ q, k = .inl q ∧ y = kV q) ∨ ∃ qs b, k = .inr qs ∧ y = .ref b ∧ H b = some (.tup (qs.map kV)) := by
    cases d2 with
    | int i => cases e; cases r2; exact .inl ⟨_, rfl, rfl⟩
    | str z => cases e; cases r2; exact .inl ⟨_, rfl, rfl⟩
    | tup ds =>
      obtain ⟨b, ws, rfl, hb, rs⟩ := rep1_tup r2
      simp only [dkOf] at e
      cases e3 : ksOf ds with
      | none => rw [e3] at e; cases e
      | some qs => rw [e3] at e; cases e; exact .inr ⟨qs, b, rfl, rfl, by rw [hb, ksOf_reps rs e3]⟩
    | _ => cases e
  cases r1 with
  | @dK a kvs _ _ h1 e1 h2 =>
    subst e1
    rcases kk with ⟨q, rfl, rfl⟩ | ⟨qs, b, rfl, rfl, hb⟩
    · rcases look_gen (fun p : Key => (Sum.inl p : DK)) inl_inj q h2 with ⟨a1, a2⟩ | ⟨d, v, a1, a2, a3⟩
      · rw [a1] at e2; cases e2
      · rw [a1] at e2; cases e2
        exact ⟨a, v, rfl, .inl ⟨kvs, q, h1, rfl, a2.symm⟩, a3⟩
    · rw [look_mis (fun p : Key => (Sum.inl p : DK)) _ (fun a z => by cases z)] at e2; cases e2
  | @dT a kvs _ _ h1 e1 h2 =>
    subst e1
    rcases kk with ⟨q, rfl, rfl⟩ | ⟨qs, b, rfl, rfl, hb⟩
    · rw [look_mis (fun p : List Key => (Sum.inr p : DK)) _ (fun a z => by cases z)] at e2; cases e2
    · rcases look_gen (fun p : List Key => (Sum.inr p : DK)) inr_inj qs h2 with ⟨a1, a2⟩ | ⟨d, v, a1, a2, a3⟩
      · rw [a1] at e2; cases e2
      · rw [a1] at e2; cases e2
        exact ⟨a, v, rfl, .inr ⟨kvs, qs, b, h1, rfl, hb, a2.symm⟩, a3⟩

def rInTD (K : PySem.W.Frag) (neg : Bool) : R2 := fun x y H Q => ∃ d ds, Dp K H x d ∧ (Dp K H y (.list ds) ∨ Dp K H y (.tuple ds)) ∧ SeqAt.shaped d = true ∧ SeqAt.shaped (.list ds) = true ∧ Q (.bl (neg != ds.any fun z => PyData.eqv z d)) H
def rInDX (neg : Bool) : R2 := fun x y H Q => ∃ a o, y = .ref a ∧ DGetX H a x o ∧ Q (.bl (neg != o.isSome)) H
def rInStr (neg : Bool) : R2 := fun x y H Q => ∃ i j, x = .str i ∧ y = .str j ∧ Q (.bl (neg != !(Builtin.Str.occurrences j i 0 j.length 1).isEmpty)) H
def rInA (K : PySem.W.Frag) (neg : Bool) : R2 := fun x y H Q => rInTD K neg x y H Q ∨ rInDX neg x y H Q ∨ rInStr neg x y H Q
section
variable {X : Cx}
theorem op_inTD (hu : X.A.units + 65 < cLine) : OpR X (compareOp .In) (rInTD X.K false) := by
  intro pins s σ H x y v u Q I rx ry h
  obtain ⟨d, ds, hd, he, sd, se, q⟩ := h
  obtain ⟨as, r1⟩ := Dp.reads I d x v hd rx
  rw [Bool.false_bne] at q
  rcases he with he | he
  · obtain ⟨bs, r2⟩ := Dp.reads I (.list ds) y u he ry
    exact SeqAt.in_list_reads r2 r1 (SeqAt.canLay_of_shaped se) (SeqAt.canLay_of_shaped sd) (room_in_shaped sd hu) ⟨.bl _, H, I, rfl, q⟩
  · obtain ⟨bs, r2⟩ := Dp.reads I (.tuple ds) y u he ry
    exact SeqAt.in_tuple_reads r2 r1 (SeqAt.canLay_of_shaped se) (SeqAt.canLay_of_shaped sd) (room_in_shaped sd hu) ⟨.bl _, H, I, rfl, q⟩
theorem op_notInTD (hu : X.A.units + 65 < cLine) : OpR X (compareOp .NotIn) (rInTD X.K true) := by
  intro pins s σ H x y v u Q I rx ry h
  obtain ⟨d, ds, hd, he, sd, se, q⟩ := h
  obtain ⟨as, r1⟩ := Dp.reads I d x v hd rx
  rw [Bool.true_bne] at q
  rcases he with he | he
  · obtain ⟨bs, r2⟩ := Dp.reads I (.list ds) y u he ry
    exact SeqAt.notIn_list_reads r2 r1 (SeqAt.canLay_of_shaped se) (SeqAt.canLay_of_shaped sd) (room_in_shaped sd hu) ⟨.bl _, H, I, rfl, q⟩
  · obtain ⟨bs, r2⟩ := Dp.reads I (.tuple ds) y u he ry
    exact SeqAt.notIn_tuple_reads r2 r1 (SeqAt.canLay_of_shaped se) (SeqAt.canLay_of_shaped sd) (room_in_shaped sd hu) ⟨.bl _, H, I, rfl, q⟩
theorem op_inDX (hu : X.A.units + 1 < cLine) : OpR X (compareOp .In) (rInDX false) := by
  intro pins s σ H x y v u Q I rx ry h
  obtain ⟨a, o, rfl, g, q⟩ := h
  cases ry
  rw [Bool.false_bne] at q
  exact d_inX hu I g rx fun s3 I3 => ⟨.bl o.isSome, H, I3, rfl, q⟩
theorem op_notInDX (hu : X.A.units + 1 < cLine) : OpR X (compareOp .NotIn) (rInDX true) := by
  intro pins s σ H x y v u Q I rx ry h
  obtain ⟨a, o, rfl, g, q⟩ := h
  cases ry
  rw [Bool.true_bne] at q
  exact d_notInX hu I g rx fun s3 I3 => ⟨.bl (!o.isSome), H, I3, rfl, q⟩
theorem op_inStr : OpR X (compareOp .In) (rInStr false) := by
  intro pins s σ H x y v u Q I rx ry h
  obtain ⟨i, j, e1, e2, q⟩ := h
  rw [Bool.false_bne] at q
  exact op_in_str pins s σ H x y v u Q I rx ry ⟨i, j, e1, e2, q⟩
theorem op_notInStr : OpR X (compareOp .NotIn) (rInStr true) := by
  intro pins s σ H x y v u Q I rx ry h
  obtain ⟨i, j, e1, e2, q⟩ := h
  rw [Bool.true_bne] at q
  exact op_notin_str pins s σ H x y v u Q I rx ry ⟨i, j, e1, e2, q⟩
theorem op_inA {k : Nat} (hr : Room k X.A) : OpR X (compareOp .In) (rInA X.K false) := (op_inTD (by have := hr.un; omega)).or ((op_inDX (by have := hr.un; omega)).or op_inStr)
theorem op_notInA {k : Nat} (hr : Room k X.A) : OpR X (compareOp .NotIn) (rInA X.K true) := (op_notInTD (by have := hr.un; omega)).or ((op_notInDX (by have := hr.un; omega)).or op_notInStr)
end
def inD (neg : Bool) : D → D → ORes
  | d, .lst ds => if pl 60 d && pls 59 ds then .val (.bl (neg != ds.any fun z => deq z d)) else .stuck
  | d, .tup ds => if pl 60 d && pls 59 ds then .val (.bl (neg != ds.any fun z => deq z d)) else .stuck
  | d, .dct ks vs => match dkOf d with
    | some k => if kFits ks k then .val (.bl (neg != (dLook ks vs k).isSome)) else .stuck
    | none => .stuck
  | .str i, .str j => .val (.bl (neg != !(Builtin.Str.occurrences j i 0 j.length 1).isEmpty))
  | _, _ => .stuck
theorem any_eqv {d : D} (h : pl 60 d = true) : ∀ {ds : List D} {n : Nat}, pls n ds = true → ((toPs ds).any fun z => PyData.eqv z (toP d)) = ds.any fun z => deq z d
  | [], _, _ => rfl
  | e :: ds, n, h2 => by
    have h2 : pl n e = true ∧ pls n ds = true := by cases n <;> simpa [pls] using h2
    rw [toPs, List.any_cons, List.any_cons, eqv_deq e d n 60 h2.1 h, any_eqv h h2.2]
section
variable {X : Cx}
theorem s_inD (neg : Bool) : Op2S X (rInA X.K neg) (inD neg) := by
  intro H av x y d1 d2 Q ha r1 r2 h
  unfold inD at h
  split at h
  · rename_i d ds
    split at h
    · rename_i hc
      rw [Bool.and_eq_true] at hc
      obtain ⟨a1, a2, a3⟩ := toP1_ok hc.1 r1
      obtain ⟨b1, b2, b3⟩ := toP1_ok (d := .lst ds) (n := 60) hc.2 r2
      refine .inl ⟨_, toPs ds, a1, .inl b1, shaped_of a2 a3, shaped_of b2 b3, ?_⟩
      rw [any_eqv hc.1 hc.2]
      exact opq0 h (.bl _)
    · exact h.elim
  · rename_i d ds
    split at h
    · rename_i hc
      rw [Bool.and_eq_true] at hc
      obtain ⟨a1, a2, a3⟩ := toP1_ok hc.1 r1
      obtain ⟨b1, b2, b3⟩ := toP1_ok (d := .tup ds) (n := 60) hc.2 r2
      refine .inl ⟨_, toPs ds, a1, .inr b1, shaped_of a2 a3, shaped_of b2 b3, ?_⟩
      rw [any_eqv hc.1 hc.2]
      exact opq0 h (.bl _)
    · exact h.elim
  · rename_i d ks vs
    split at h
    · rename_i k e
      split at h
      · rename_i hf
        obtain ⟨a, o, rfl, g, c⟩ := dget_of r2 r1 e hf
        refine .inr (.inl ⟨a, o, rfl, g, ?_⟩)
        rcases c with ⟨rfl, e2⟩ | ⟨v, d', rfl, e2, p⟩
        · rw [e2] at h; exact opq0 h (.bl _)
        · rw [e2] at h; exact opq0 h (.bl _)
      · exact h.elim
    · exact h.elim
  · cases r1; cases r2; exact .inr (.inr ⟨_, _, rfl, rfl, opq0 h (.bl _)⟩)
  · exact h.elim
theorem ix_dct (hu : X.A.units + 1 < cLine) : IxR X rIxDct := by
  intro value slice pins s σ H x y v u Q I rx ry h hs
  obtain ⟨a, z, rfl, g, q⟩ := h
  cases rx
  exact tail_any (dict_typeIs I g) PySem.F.slot_dict_getitem.lookup (d_getItem hu I g ry fun w' s3 I3 rw' => ⟨z, H, I3, rw', q⟩) hs
theorem ix_A {k : Nat} (hr : Room k X.A) : IxR X (rIxA X.K) := ix_seq.or (ix_dct (by have := hr.un; omega))
theorem s_ix : Op2S X (rIxA X.K) oIx := by
  intro H av x y d1 d2 Q ha r1 r2 h
  unfold oIx at h
  split at h
  · split at h
    · rename_i e
      obtain ⟨a, vs, rfl, h1, rs⟩ := rep1_lst r1
      cases r2
      obtain ⟨v, e1, p⟩ := atI_reps rs e
      exact .inl (.inl ⟨_, _, _, _, rfl, rfl, .inl h1, e1, opq0 h p⟩)
    · exact h.elim
  · split at h
    · rename_i e
      obtain ⟨a, vs, rfl, h1, rs⟩ := rep1_tup r1
      cases r2
      obtain ⟨v, e1, p⟩ := atI_reps rs e
      exact .inl (.inr (.inl ⟨_, _, _, _, rfl, rfl, .inl (.inl h1), e1, opq0 h p⟩))
    · exact h.elim
  · split at h
    · split at h
      · rename_i hz _ c e
        cases r1; cases r2
        exact .inl (.inr (.inr ⟨_, _, _, rfl, rfl, hz, e, opq0 h (.str _)⟩))
      · exact h.elim
    · exact h.elim
  · split at h
    · rename_i k e
      split at h
      · rename_i d e2
        obtain ⟨a, v, rfl, g, p⟩ := dget_some r1 r2 e e2
        exact .inr ⟨a, v, rfl, g, opq0 h p⟩
      · exact h.elim
    · exact h.elim
  · exact h.elim
end
end VL
namespace VL
open PySem PySem.Spec PyProof.Rows L2
variable [tt : TabList]

/-! ### slices -/
def cutL {α : Type} (xs : List α) (lo hi : Option Int) : List α := (xs.drop (HT.sIx xs.length 0 lo)).take (HT.sIx xs.length xs.length hi - HT.sIx xs.length 0 lo)
theorem cut_reps {B : Bas} {H : Hp} {av : Addr → Prop} {vs : List V} {ds : List D} (r : Reps B H av vs ds) (lo hi : Option Int) : Reps B H av (cutV vs lo hi) (cutL ds lo hi) := by
  unfold cutV cutL
  rw [r.length]
  exact (r.drop _).take _
theorem cut_whole {α : Type} {ds : List α} {l u : Option Int} (h1 : HT.sIx ds.length 0 l = 0) (h2 : HT.sIx ds.length ds.length u = ds.length) : cutL ds l u = ds := by
  unfold cutL
  rw [h1, h2, List.drop_zero, Nat.sub_zero, List.take_length]
def oSl : D → Option Int → Option Int → ORes
  | .lst ds, lo, hi => .new .l (.lst (cutL ds lo hi))
  | .tup ds, lo, hi => .val (.tup (cutL ds lo hi))
  | .str z, lo, hi => if z.length ≤ sizeLine then .val (.str (cutS z lo hi)) else .stuck
  | _, _, _ => .stuck
def rSlAll (K : PySem.W.Frag) : V → Option Int → Option Int → Hp → VK → Prop := fun x lo hi H Q => rSlL K x lo hi H Q ∨ rSlA K x lo hi H Q ∨ rSlS x lo hi H Q
section
variable {X : Cx}
theorem sl_All : SlR X (rSlAll X.K) := sl_list.or (sl_tupA.or sl_str)
theorem s_sl : OpSS X (rSlAll X.K) oSl := by
  intro H av x d l u Q hb ha r h
  unfold oSl at h
  split at h
  · obtain ⟨a, vs, rfl, h1, rs⟩ := rep1_lst r
    exact .inl ⟨a, vs, rfl, .inl h1, fun p hp => opq_lst hp (cut_reps rs _ _) h⟩
  · have t := r.tupRep ha
    obtain ⟨a, vs, rfl, h1, rs⟩ := rep1_tup r
    refine .inr (.inl ⟨a, vs, rfl, .inl (.inl h1), fun hw => ?_, fun _ p hp => opq_tup ha hp (cut_reps rs _ _) h⟩)
    rw [rs.length] at hw
    rw [cut_whole hw.1 hw.2] at h
    exact opq0 h t
  · split at h
    · cases r; exact .inr (.inr ⟨_, rfl, by assumption, opq0 h (.str _)⟩)
    · exact h.elim
  · exact h.elim
end

/-! ### isinstance -/
def tyN : D → Option String
  | .non => some "NoneType" | .bl _ => some "bool" | .int _ => some "int" | .str _ => some "str"
  | .tup _ => some "tuple" | .lst _ => some "list" | .dct _ _ => some "dict"
  | _ => none
def isiT (t T : String) : Option Bool :=
  if t ∈ ["NoneType", "bool", "int", "str", "tuple", "list", "dict"] ∧ T ∈ ["bool", "int", "str", "tuple", "list", "dict"] then some (t == T || (t == "bool" && T == "int")) else none
def oIsi : List D → ORes
  | [d, .ty T] => match tyN d with
    | some t => match isiT t T with
      | some b => .val (.bl b)
      | none => .stuck
    | none => .stuck
  | _ => .stuck
theorem kitOne_ty (K : PySem.W.Frag) {t T : String} {b : Bool} (h : isiT t T = some b) : PySem.W.kitOne K (.type t) (.type T) = some b := by
  unfold isiT at h
  split at h
  · rename_i hc
    obtain ⟨h1, h2⟩ := hc
    simp only [List.mem_cons, List.not_mem_nil, or_false] at h1 h2
    rcases h1 with rfl | rfl | rfl | rfl | rfl | rfl | rfl <;> rcases h2 with rfl | rfl | rfl | rfl | rfl | rfl <;> (cases h; first | rfl | kernel_rfl)
  · cases h
end VL
namespace VL
open PySem PySem.Spec PyProof.Rows L2
variable [tt : TabList]

/-! ### enumerate, of a list or a tuple -/
set_option maxHeartbeats 1000000 in
theorem meets_enumerate_newB1 {v : Value} {o : Obj} {H : Heap → Prop} (B : Begins v o H) :
    Meets (Builtin.«enumerate.__new__» ⟨[.type "enumerate", v], []⟩) (fun _ R s => H s.heap ∧
      R (.ok (.ret (.ref (s.heap.push o).objs.size))) { s with heap := (s.heap.push o).push { cls := .type "enumerate", data := .fields #[.none, .bool false, .ref s.heap.objs.size, rawInt 0, .none, .none] } }) :=
  .of_wp fun prog w A R s h => by
    obtain ⟨hp, g, d, tk, os⟩ := s; obtain ⟨h1, h⟩ := h
    have hsub := sub_enumerate
    have q1 : ∀ {A' : Around} {E : Value → Shared → Prop} {Q : Value → Shared → Prop}, Q (.ref hp.objs.size) ⟨hp.push o, g, d, tk, os⟩ → wpAny (model prog w) A' (pyIter v) Q E ⟨hp, g, d, tk, os⟩ :=
      fun q => B.iter prog w _ _ ⟨hp, g, d, tk, os⟩ _ h1 q
    wp_walk using q1
    refine wpAny_stack_any fun st => wpAny_pure ?_
    split
    · rename_i c _ _ _ _ _
      cases (c == Value.type "enumerate")
      · wp_walk using q1
        exact ⟨_, rfl, h⟩
      · wp_walk using q1
        exact ⟨_, rfl, h⟩
    · wp_walk using q1
      exact ⟨_, rfl, h⟩
section
variable {prog : Program} {w : World} {A : Around} {E : Value → Shared → Prop} {s : Shared}
theorem enum_begins1 {v : Value} {o : Obj} {H : Heap → Prop} {Q : Value → Shared → Prop} (B : Begins v o H) (h1 : H s.heap)
    (h : ∀ h', IsEnum h' (s.heap.objs.size + 1) s.heap.objs.size 0 .none → h'.get? s.heap.objs.size = some o → h'.objs.size = s.heap.objs.size + 2 →
      (∀ b o, s.heap.get? b = some o → h'.get? b = some o) → Q (.ref (s.heap.objs.size + 1)) { s with heap := h' }) :
    wpAny (model prog w) A (call (.type "enumerate") [v]) Q E s := by
  refine callType_new F.called_enumerate (by decide) (F.typeCall_enumerate_1 _) (F.newCall_enumerate_1 _) (fun obj => F.args_object_init_2 obj _) F.entry_enumerate_new
    (meets_enumerate_newB1 B) ⟨h1, ?_⟩
  have hz : (s.heap.push o).objs.size = s.heap.objs.size + 1 := Heap.size_push ..
  show _ ∧ _
  rw [hz]
  have he : IsEnum ((s.heap.push o).push { cls := .type "enumerate", data := .fields #[.none, .bool false, .ref s.heap.objs.size, rawInt 0, .none, .none] }) (s.heap.objs.size + 1) s.heap.objs.size 0 .none := by
    have := Heap.get?_push_size (s.heap.push o) (o := { cls := .type "enumerate", data := .fields #[.none, .bool false, .ref s.heap.objs.size, rawInt 0, .none, .none] }) rfl
    rw [hz] at this; exact this
  refine ⟨⟨_, he, rfl⟩, h _ he (Heap.get?_push_of_some _ (Heap.get?_push_size _ B.free)) (by rw [Heap.size_push, hz]) fun b o x => Heap.get?_push_of_some _ (Heap.get?_push_of_some _ x)⟩
end
/-- a list (true) or a tuple -/
def Sq (b : Bool) (H : Hp) (a : Addr) (xs : List V) : Prop := if b = true then Rd H a (HO.lst xs) else H a = some (HO.tup xs)
def SqIter (b : Bool) (h : Heap) (it a : Addr) (i : Nat) : Prop := if b then h.IsListIter it a i else h.IsTupleIter it a i
def SqObj (b : Bool) (h : Heap) (a : Addr) (its : Array Value) : Prop := if b then h.IsList a its else h.IsTuple a its
theorem Sq.there {b : Bool} {H : Hp} {a : Addr} {xs : List V} (h : Sq b H a xs) : H a ≠ none := by
  cases b with
  | true => exact rd_some h
  | false => rw [show H a = some (HO.tup xs) from h]; exact fun z => nomatch z
theorem Sq.inj {b : Bool} {H : Hp} {a : Addr} {xs ys : List V} (h : Sq b H a xs) (h' : Sq b H a ys) : xs = ys := by
  cases b with
  | true =>
    rcases (show Rd H a (HO.lst xs) from h) with h | ⟨o, h⟩ <;> rcases (show Rd H a (HO.lst ys) from h') with h' | ⟨o', h'⟩ <;> rw [h] at h' <;> cases h' <;> rfl
  | false =>
    have h : H a = some (HO.tup xs) := h
    rw [show H a = some (HO.tup ys) from h'] at h
    cases h; rfl
theorem Sq.obj {X : Cx} {pins : List (Addr × Obj)} {σ : L2.St} {H : Hp} {s : Shared} {b : Bool} {a : Addr} {xs : List V} (I : Inv X pins σ H s) (h : Sq b H a xs) : ∃ its : List Value, Vals xs its ∧ SqObj b s.heap a its.toArray ∧ xs.length ≤ sizeLine := by
  cases b with
  | true =>
    obtain ⟨its, rv, p, z⟩ := I.list (a := a) (xs := xs) (.inl h)
    exact ⟨its, rv, p.isList, z⟩
  | false =>
    obtain ⟨its, rv, p, z⟩ := I.tuple (a := a) (xs := xs) (.inl (.inl h))
    exact ⟨its, rv, p, z⟩
theorem SqIter.at {b : Bool} {h h' : Heap} {it a : Addr} {i : Nat} (x : SqIter b h it a i) (e : ∀ o, h.get? it = some o → h'.get? it = some o) : SqIter b h' it a i := by
  cases b with
  | true => exact Heap.IsListIter.at x e
  | false => exact Heap.IsTupleIter.at x e
theorem SqIter.get {b : Bool} {h : Heap} {it a : Addr} {i : Nat} (x : SqIter b h it a i) : ∃ o, h.get? it = some o ∧ ∀ v, o.data ≠ .cell v := by
  cases b with
  | true => obtain ⟨o, ho, hc, hd⟩ := x; exact ⟨o, ho, fun v q => by rw [hd] at q; cases q⟩
  | false => obtain ⟨o, ho, hc, hd⟩ := x; exact ⟨o, ho, fun v q => by rw [hd] at q; cases q⟩
theorem sq_draws {prog : Program} {w : World} {A : Around} {b : Bool} (hh : A.handled = none) (it l : Addr) (hne : l ≠ it) (items : Array Value) :
    Draws prog w A it [it, l] items.size (fun i v => items[i]? = some v) (fun i h => SqIter b h it l i ∧ SqObj b h l items) := by
  cases b with
  | true => exact Draws.list hh it l hne items
  | false => exact Draws.tuple hh it l hne items
def sqIt (b : Bool) (a : Addr) : Obj := if b then { cls := .type "list_iterator", data := .fields #[.ref a, .int 0 0] } else { cls := .type "tuple_iterator", data := .fields #[.ref a, .int 0 0] }
theorem sq_begins {b : Bool} (a : Addr) (items : Array Value) : Begins (.ref a) (sqIt b a) fun h => SqObj b h a items := by
  cases b with
  | true => exact begins_list a items
  | false => exact begins_tuple a items
theorem sqIt_iter {b : Bool} {h : Heap} {it a : Addr} (e : h.get? it = some (sqIt b a)) : SqIter b h it a 0 := by
  cases b with
  | true => exact ⟨_, e, rfl, rfl⟩
  | false => exact ⟨_, e, rfl, rfl⟩
def IteA (b : Bool) (a : Addr) : It :=
  ⟨fun i H => ∃ (xs : List V) (x : V), Sq b H a xs ∧ xs[i]? = some x, fun i H v H' => ∃ T x, v = .ref T ∧ H T = none ∧ H' = upd H T (.tup [.int (i : Nat), x]) ∧ ∀ xs, Sq b H a xs → xs[i]? = some x, fun i H => ∃ xs : List V, Sq b H a xs ∧ xs.length = i⟩
theorem turn_enumA {P : Program} {w : World} {K : PySem.W.Frag} {elts : List Expr} {kk : Nat} {tpos : Pos} (b : Bool) (a e it : Addr) :
    Turn P w K (.Tuple elts kk tpos) (IteA b a) [e, it] e (fun i h => (∃ old, IsEnum h e it ((i : Nat) : Int) old) ∧ SqIter b h it a i ∧ e ≠ it) where
  mem := by simp
  obj := fun i h st c hb => by
    obtain ⟨⟨old, he⟩, hi, _⟩ := st
    have e' : c = e ∨ c = it := by simpa using hb
    rcases e' with z | z
    · rw [z]; exact ⟨_, he, fun v q => nomatch q⟩
    · rw [z]; exact hi.get
  keep := fun i h h' st k => let ⟨⟨old, he⟩, hi, hne⟩ := st; ⟨⟨old, k e (by simp) _ he⟩, hi.at fun o q => k it (by simp) o q, hne⟩
  item := by
    intro X hP hw hK hc i pins s σ H E I hf st hg
    subst hP hw hK
    obtain ⟨⟨old, he⟩, hit, hne⟩ := st
    obtain ⟨xs, x, hq, hx⟩ := hg
    obtain ⟨its, rv, p, hz⟩ := hq.obj I
    obtain ⟨u, hu, ru⟩ := rv.get hx
    have hel : e < s.heap.objs.size := Heap.lt_size he
    have hil : it < s.heap.objs.size := by obtain ⟨_, q, _⟩ := hit.get; exact Heap.lt_size q
    have hae : a ≠ e := fun z => hq.there (by rw [z]; exact (hf e (by simp)).1)
    have hai : a ≠ it := fun z => hq.there (by rw [z]; exact (hf it (by simp)).1)
    have D : Draws X.prog X.w X.A.in1 it [it, a] its.toArray.size (fun i v => its.toArray[i]? = some v) (fun i h => SqIter b h it a i ∧ SqObj b h a its.toArray) := sq_draws (A := X.A.in1) (I.ok.hd hc) it a hai its.toArray
    have hlt : i < its.toArray.size := by
      rw [List.size_toArray]
      exact (List.getElem?_eq_some_iff.mp hu).1
    refine wpAny_pyNext_enum_itemD D he ⟨hit, p⟩ hlt hne (by simp [hne, hae.symm]) fun x' h' tk hP ho hst' hT hsz hk => ?_
    have ex' : x' = u := by
      rw [List.getElem?_toArray, hu] at hP
      exact (Option.some.inj hP).symm
    subst ex'
    refine ⟨_, rfl, wpAny_letOwnedTupleGo_enum (s := { s with heap := h', toks := tk + 1 }) ho fun h'' he' sb => ?_⟩
    have hT2 : h''.get? s.heap.objs.size = some { cls := .type "tuple", data := .seq #[.int i tk, x'] } := (sb.2 _ (Nat.ne_of_gt hel)).trans hT
    have new : ObjOk X.prog X.w (upd H s.heap.objs.size (.tup [.int (i : Nat), x])) h'' s.heap.objs.size (.tup [.int (i : Nat), x]) :=
      ⟨by show 2 ≤ sizeLine; decide, [.int i tk, x'], .cons ⟨_, rfl⟩ (.cons ru .nil), ⟨_, hT2, rfl, _, rfl⟩⟩
    have I1 : Inv X pins σ (upd H s.heap.objs.size (.tup [.int (i : Nat), x])) { s with heap := h'', toks := tk + 1 } :=
      I.turnedNew (ch := [e, it]) (fun b ob hb q => (sb.2 b (fun z => hb (by simp [z]))).trans (hk b ob (fun z => hb (by simp [z])) (fun z => hb (by simp [z])) q)) hf (Nat.le_refl _) new
    refine ⟨.ref s.heap.objs.size, _, I1, rfl, ⟨_, x, rfl, I.hok.fresh (Nat.le_refl _), rfl, fun ys hy => by rw [hy.inj hq]; exact hx⟩, ⟨⟨x', ?_⟩, hst'.1.at fun o q => (sb.2 it (Ne.symm hne)).trans q, hne⟩, fun b hb => ?_⟩
    · have e1 : ((i + 1 : Nat) : Int) = (i : Int) + 1 := by omega
      rw [e1]; exact he'
    · have hb' : b < s.heap.objs.size := by
        have e' : b = e ∨ b = it := by simpa using hb
        rcases e' with z | z
        · rw [z]; exact hel
        · rw [z]; exact hil
      rw [upd_ne (Nat.ne_of_lt hb')]
      exact (hf b hb).1
  done := by
    intro X hP hw hK hc i pins s σ H E I hf st hg
    subst hP hw hK
    obtain ⟨⟨old, he⟩, hit, hne⟩ := st
    obtain ⟨xs, hq, hx⟩ := hg
    obtain ⟨its, rv, p, hz⟩ := hq.obj I
    obtain ⟨f0, f1, f2, f3, f4, f5⟩ := hf it (by simp)
    have hl := rv.length
    have hai : a ≠ it := fun z => hq.there (by rw [z]; exact (hf it (by simp)).1)
    have D : Draws X.prog X.w X.A.in1 it [it, a] its.toArray.size (fun i v => its.toArray[i]? = some v) (fun i h => SqIter b h it a i ∧ SqObj b h a its.toArray) := sq_draws (A := X.A.in1) (I.ok.hd hc) it a hai its.toArray
    have hn : its.toArray.size = i := by rw [List.size_toArray, ← hl, hx]
    subst hn
    exact wpAny_pyNext_enum_endD D he ⟨hit, p⟩ fun h' eb => ⟨rfl, I.turned (t' := s.toks) (fun b o hb q => eb b o hb q) f0 f1 f3 f4 f5⟩
  self := fun A i s Q E st h => let ⟨⟨_, he⟩, _⟩ := st; wpAny_pyIter_enum he h
end VL
namespace VL
open PySem PySem.Spec PyProof.Rows L2
variable [tt : TabList]

/-- a list or a tuple whose cell stays -/
def Stay (B : Bas) (T : Addr → Prop) (env1 : Env) (fp1 : Nat → Addr → Prop) (H1 : Hp) (b : Bool) (a : Addr) (vs : List V) (ds : List D) : Prop :=
  (∀ envt fpt Ht, Ext env1 fp1 H1 envt fpt Ht → Sq b Ht a vs) ∧ Reps B H1 (avOf T fp1) vs ds ∧ vs.length ≤ sizeLine
/-- the content that a walk walks -/
def OKQ (B : Bas) (E T : Addr → Prop) (io : Option V) (env : Env) (fp : Nat → Addr → Prop) (H : Hp) (σ : L2.St) (Q : V → Hp → Prop) (W : WX) : Res (List D × Option Nat) → Prop
  | .ok (ds, lk) env' => ∀ b a vs fp' H', Ext env fp H env' fp' H' → (∀ i, lk = some i → ¬ Lk env i) → R B E T io fp' env' σ H' → Stay B T env' fp' H' b a vs ds → Q (.ref a) H'
  | .ex e env' => ∀ cls dx fp' H', Ext env fp H env' fp' H' → R B E T io fp' env' σ H' → ExR B H' (avOf T fp') e cls dx → W cls dx σ H'
  | .stuck => False
section
variable {B : Bas} {E T : Addr → Prop} {io : Option V} {env env1 : Env} {fp fp1 : Nat → Addr → Prop} {σ : L2.St} {H H1 : Hp} {W : WX} {Q : V → Hp → Prop}
theorem stay_fz (r : R B E T io fp env σ H) {v : V} {d : D} {ds : List D} (p : Rep B H (avOf T fp) v d) (e : itemsOf d = some ds) : ∃ b a vs, v = .ref a ∧ Stay B T env fp H b a vs ds := by
  have keep : ∀ {a : Addr} {u : HO}, isNT u = true → Rd H a u → ¬ avOf T fp a → ∀ envt fpt Ht, Ext env fp H envt fpt Ht → Rd Ht a u := fun hu h1 h2 envt fpt Ht x => rd_keep (fun o nt e => x.chg _ o nt e fun i z => absurd (.inr ⟨i, z⟩) h2) h1 hu
  cases d with
  | lst ds' =>
    cases e
    cases p with
    | @lst a vs _ h1 h2 h3 => exact ⟨true, a, vs, rfl, fun envt fpt Ht x => keep rfl h1 h2 envt fpt Ht x, h3, r.hb _ _ (.inl h1)⟩
  | tup ds' =>
    cases e
    cases p with
    | @tup a vs _ h1 h2 h3 => exact ⟨false, a, vs, rfl, fun envt fpt Ht x => x.chg _ _ (nt_of rfl) h1 fun i z => absurd (.inr ⟨i, z⟩) h2, h3, r.hb _ _ (.inr (.inl h1))⟩
  | _ => cases e
theorem seq_any {G : Prop} {f : M TV} (s : OKE B E T io env fp H σ Q W (f env) → G) (h : OKQ B E T io env fp H σ Q W (cSeq f env)) : G := by
  refine s ?_
  unfold cSeq at h
  cases e1 : f env with
  | stuck => rw [e1] at h; exact h
  | ex x env' => rw [e1] at h; exact h
  | ok tv env1 =>
    rw [e1] at h
    simp only [Res.bind] at h
    refine oke_hold fun v fp1 H1 x1 r1 h1 => ?_
    cases tv with
    | fz d =>
      simp only at h
      cases e : itemsOf d with
      | none => simp only [e] at h; exact h.elim
      | some ds =>
        simp only [e] at h
        obtain ⟨b, a, vs, rfl, st⟩ := stay_fz r1 h1 e
        exact h b a vs fp1 H1 x1 (fun _ e => nomatch e) r1 st
    | ow κ d =>
      simp only at h
      cases e : itemsOf d with
      | none => simp only [e] at h; exact h.elim
      | some ds =>
        simp only [e] at h
        obtain ⟨b, a, vs, rfl, st⟩ := stay_fz r1 h1 e
        exact h b a vs fp1 H1 x1 (fun _ e => nomatch e) r1 st
    | sl i =>
      simp only at h
      have ev : σ[i]? = some (some v) := h1
      cases e : env1[i]? with
      | none => simp only [e] at h; exact h.elim
      | some sv =>
        cases sv with
        | no => simp only [e] at h; exact h.elim
        | fz d => simp only [e] at h; exact h.elim
        | ow κ d =>
          cases κ with
          | l =>
            simp only [e] at h
            obtain ⟨v', ev', o⟩ := slot_own r1 e
            rw [ev] at ev'; cases ev'
            obtain ⟨a, vs, ds, rfl, rfl, ha, rs, hf⟩ := o
            simp only [itemsOf] at h
            obtain ⟨r2, x2⟩ := r1.lock e
            have hi := (List.getElem?_eq_some_iff.mp e).1
            cases e0 : env[i]? with
            | none => simp only [e0] at h; exact h.elim
            | some sv0 =>
            cases sv0 with
            | no => simp only [e0] at h; exact h.elim
            | fz _ => simp only [e0] at h; exact h.elim
            | lk _ _ => simp only [e0] at h; exact h.elim
            | ow κ0 d0 =>
            simp only [e0] at h
            have nl : ¬ Lk env i := unlk e0 (fun _ _ z => nomatch z)
            refine h true a vs fp1 H1 (x1.trans x2) (fun j ej => by cases ej; exact nl) r2 ⟨fun envt fpt Ht x => .inl (x.chg a _ (nt_of rfl) ha fun j z => ?_), rs, r1.hb _ _ (.inl (.inl ha))⟩
            have hj : j = i := r1.dis j i a z (by rw [hf])
            subst hj
            exact ⟨.l, .lst ds, List.getElem?_set_self hi⟩
          | l2 => simp only [e] at h; exact h.elim
          | m => simp only [e] at h; exact h.elim
          | dk => simp only [e] at h; exact h.elim
          | dt => simp only [e] at h; exact h.elim
        | lk κ d =>
          cases κ with
          | l =>
            simp only [e] at h
            have hl : i < σ.length := by rw [← r1.len]; exact (List.getElem?_eq_some_iff.mp e).1
            obtain ⟨v', ev', o⟩ := r1.slot i _ _ e (List.getElem?_eq_getElem hl)
            rw [List.getElem?_eq_getElem hl] at ev
            rw [Option.some.inj ev] at ev'
            cases ev'
            obtain ⟨a, vs, ds, rfl, rfl, ha, rs, hf⟩ := o
            simp only [itemsOf] at h
            refine h true a vs fp1 H1 x1 (fun _ e => nomatch e) r1 ⟨fun envt fpt Ht x => .inl (x.chg a _ (nt_of rfl) ha fun j z => ?_), rs, r1.hb _ _ (.inl (.inl ha))⟩
            have hj : j = i := r1.dis j i a z (by rw [hf])
            subst hj
            exact ⟨.l, .lst ds, e⟩
          | l2 => simp only [e] at h; exact h.elim
          | m => simp only [e] at h; exact h.elim
          | dk => simp only [e] at h; exact h.elim
          | dt => simp only [e] at h; exact h.elim
end

/-! ### enumerate -/
def iEnumA (K : PySem.W.Frag) (ta : TA) : TI := fun σ H R => ta σ H fun vs H1 => ∃ b a xs, vs = [.ref a] ∧ Sq b H1 a xs ∧ R (IteA b a) H1
theorem pi_enumA {X : Cx} {e : Expr} {ta : TA} {p pos tpos : Pos} {elts : List Expr} {kk : Nat} (hg : Gl X "enumerate") (hm : X.mg "enumerate" = none) (ha : PA X [e] ta) (hs : starEach [e] X.env = [(false, eval e X.env)] := by rfl) :
    PI X (.Tuple elts kk tpos) (.Call (.Name "enumerate" p) [e] [] pos) (iEnumA X.K ta) := by
  refine ⟨fun pins s σ H R I h => ?_⟩
  refine Call_ (ld_blt I hg hm boot_enumerate (PyProof.Rows.callWith_type1 (thn (ha.run pos pins s σ H _ I h) fun us s1 ⟨vs, H1, I1, r1, q1⟩ => ?_) hs rfl))
  obtain ⟨b, a, xs, ex, hq, q⟩ := q1
  subst ex
  cases r1 with
  | cons r rr =>
    cases rr
    cases r
    obtain ⟨its, rv, p', hz⟩ := hq.obj I1
    refine enum_begins1 (sq_begins a its.toArray) p' fun h' he hit hsz hk => wpAny_pyIter_enum he ?_
    have I2 : Inv X pins σ H1 { s1 with heap := h' } := I1.kept (t' := s1.toks) hk
    refine ⟨s1.heap.objs.size + 1, [s1.heap.objs.size + 1, s1.heap.objs.size], _, _, H1, rfl, I2, turn_enumA b a (s1.heap.objs.size + 1) s1.heap.objs.size, ⟨⟨.none, he⟩, sqIt_iter hit, Nat.succ_ne_self _⟩, fun b hb => ?_, q⟩
    have e' : b = s1.heap.objs.size + 1 ∨ b = s1.heap.objs.size := by simpa using hb
    have hle : s1.heap.objs.size ≤ b := by
      rcases e' with z | z
      · rw [z]; exact Nat.le_add_right _ _
      · rw [z]; exact Nat.le_refl _
    exact I1.fpOk hle (I1.hok.fresh hle)
def enumD (ds : List D) : List D := ds.mapIdx fun i d => .tup [.int (i : Nat), d]
/-- enumerate(..) -/
def cEnum (f : M TV) : M (List D × Option Nat) := fun env => (cSeq f env).bind fun p env1 => .ok (enumD p.1, p.2) env1
theorem hb_upd2 {H : Hp} {T : Addr} {xs : List V} (hb : HB H) (hT : H T = none) (hl : xs.length ≤ sizeLine) : HB (upd H T (.tup xs)) := fun a zs e => by
  by_cases hh : a = T
  · subst hh
    rcases e with (e | ⟨o, e⟩) | (e | ⟨o, e⟩) <;> rw [upd_same] at e <;> cases e
    exact hl
  · refine hb a zs ?_
    rcases e with (e | ⟨o, e⟩) | (e | ⟨o, e⟩) <;> rw [upd_ne hh] at e
    · exact .inl (.inl e)
    · exact .inl (.inr ⟨o, e⟩)
    · exact .inr (.inl e)
    · exact .inr (.inr ⟨o, e⟩)
section
variable {B : Bas} {E T : Addr → Prop} {io : Option V} {env env1 : Env} {fp fp1 : Nat → Addr → Prop} {σ : L2.St} {H H1 : Hp} {W : WX}
theorem itok_enum {b : Bool} {a : Addr} {vs : List V} {ds : List D} (st : Stay B T env1 fp1 H1 b a vs ds) : ItOk B T env1 fp1 H1 (IteA b a) (enumD ds) where
  go := fun envt fpt Ht i x hb hi => by
    have hi' : i < vs.length := by rw [st.2.1.length]; simpa [enumD] using hi
    exact ⟨vs, vs[i], st.1 _ _ _ x, List.getElem?_eq_getElem hi'⟩
  yld := fun envt fpt Ht i d y H' T2 x hb hT ha hd ⟨Tt, z, ey, hTt, eH, hz⟩ => by
    subst ey eH
    have h1 := hz vs (st.1 _ _ _ x)
    obtain ⟨d', e1, p⟩ := (x.reps2 hT st.2.1).get h1
    have hd : d = .tup [.int (i : Nat), d'] := by
      unfold enumD at hd
      rw [List.getElem?_mapIdx, e1] at hd
      exact (Option.some.inj hd).symm
    subst hd
    have g := grow_upd (o := .tup [.int (i : Nat), z]) hTt
    refine ⟨g, hb_upd2 hb hTt (by show 2 ≤ sizeLine; decide), .tup upd_same (fun w => ?_) (.cons (.int _) (.cons (p.grow g) .nil))⟩
    obtain ⟨o, e, _⟩ := ha _ w
    rw [hTt] at e; cases e
  stop := fun envt fpt Ht i x hb hi => ⟨vs, st.1 _ _ _ x, by rw [st.2.1.length, ← hi]; simp [enumD]⟩
theorem Stay.len {b : Bool} {a : Addr} {vs : List V} {ds : List D} (st : Stay B T env1 fp1 H1 b a vs ds) : ds.length ≤ sizeLine := by rw [← st.2.1.length]; exact st.2.2
end
section
variable {X : Cx} {W : WX} {e : Expr} {f : M TV} {p pos tpos : Pos} {elts : List Expr} {kk : Nat}
theorem di_enum (hg : Gl X "enumerate") (hm : X.mg "enumerate" = none) (he : DE X W e f) (hs : starEach [e] X.env = [(false, eval e X.env)] := by rfl) :
    DI X W (.Tuple elts kk tpos) (.Call (.Name "enumerate" p) [e] [] pos) (cEnum f) := by
  obtain ⟨t, pe, s⟩ := he.out
  refine ⟨fun pins sh σ H Rw I ⟨E, T, io, env, fp, R0, h⟩ => (pi_enumA hg hm (pa_cons pe pa_nil hs) hs).run pins sh σ H Rw I ?_⟩
  show t σ H fun x H1 => tNil σ H1 fun vs H2 => ∃ b a xs, x :: vs = [V.ref a] ∧ Sq b H2 a xs ∧ Rw (IteA b a) H2
  refine seq_any (s E T io env fp σ H _ R0) ?_
  unfold cEnum at h
  cases ec : cSeq f env with
  | stuck => rw [ec] at h; exact h
  | ex x env' => rw [ec] at h; exact h
  | ok q env1 =>
    rw [ec] at h
    obtain ⟨ds, lk⟩ := q
    intro b a vs fp' H' x1 nl r1 st
    exact ⟨b, a, vs, rfl, st.1 _ _ _ Ext.refl, h _ fp' H' x1 nl r1 (itok_enum st) (by simpa [enumD] using st.len)⟩

/-! ### range -/
def rangeD (lo : Int) (n : Nat) : List D := (List.range n).map fun i => .int (lo + (i : Nat))
theorem itok_range {B : Bas} {T : Addr → Prop} {env1 : Env} {fp1 : Nat → Addr → Prop} {H1 : Hp} (lo : Int) (n : Nat) : ItOk B T env1 fp1 H1 (Itr lo n) (rangeD lo n) where
  go := fun envt fpt Ht i x hb hi => by
    show i < n
    simpa [rangeD] using hi
  yld := fun envt fpt Ht i d y H' T2 x hb hT ha hd ⟨e1, e2⟩ => by
    subst e1 e2
    refine ⟨fun _ _ e => e, hb, ?_⟩
    unfold rangeD at hd
    rw [List.getElem?_map] at hd
    cases q : (List.range n)[i]? with
    | none => rw [q] at hd; cases hd
    | some j =>
      rw [q] at hd
      obtain ⟨hi, e⟩ := List.getElem?_eq_some_iff.mp q
      rw [List.getElem_range] at e
      subst e
      cases hd
      exact .int _
  stop := fun envt fpt Ht i x hb hi => by
    show n ≤ i
    simp [rangeD] at hi; omega
def rgOk (i j : Int) : Bool := decide (-(2 ^ 62) ≤ i ∧ i < 2 ^ 62 ∧ -(2 ^ 62) ≤ j ∧ j < 2 ^ 62 ∧ (j - i).toNat ≤ sizeLine)
def cRng1 (f : M TV) : M (List D × Option Nat) := fun env => (f env).bind fun t env1 => match getV env1 t with
  | some (.int j) => if rgOk 0 j then .ok (rangeD 0 j.toNat, none) env1 else .stuck
  | _ => .stuck
def cRng2 (f g : M TV) : M (List D × Option Nat) := fun env => (f env).bind fun t env1 => (g env1).bind fun u env2 => match getV env2 t, getV env2 u with
  | some (.int i), some (.int j) => if rgOk i j then .ok (rangeD i (j - i).toNat, none) env2 else .stuck
  | _, _ => .stuck
/-- an expression, then a walk -/
theorem okei_bind {B : Bas} {E T : Addr → Prop} {io : Option V} {env : Env} {fp : Nat → Addr → Prop} {σ : L2.St} {H : Hp} {W : WX} {Rw : It → Hp → Prop} {G : Prop} {f : M TV} {k : TV → M (List D × Option Nat)} {Q' : VK} (hs : OKE B E T io env fp H σ Q' W (f env) → G)
    (h : OKI B E T io env fp H σ Rw W ((f env).bind k)) (hk : ∀ tv env' v fp' H', Ext env fp H env' fp' H' → R B E T io fp' env' σ H' → Hold B T fp' H' σ v tv → (∀ r, (∀ items lk e2, r = .ok (items, lk) e2 → lk = none) → k tv env' = r → OKI B E T io env' fp' H' σ Rw W r) → Q' v H') : G := by
  refine hs ?_
  cases e : f env with
  | stuck => rw [e] at h; exact h
  | ex x env' => rw [e] at h; exact h
  | ok tv env' =>
    rw [e] at h
    refine oke_hold fun v fp' H' x r hh => hk tv env' v fp' H' x r hh fun r' hl er => ?_
    have h : OKI B E T io env fp H σ Rw W (k tv env') := h
    rw [er] at h
    cases r' with
    | stuck => exact h
    | ex e env2 => exact fun cls dx fp2 H2 y => h cls dx fp2 H2 (x.trans y)
    | ok b env2 =>
      obtain ⟨items, lk⟩ := b
      have := hl items lk env2 rfl
      subst this
      exact fun J fp2 H2 y l => h J fp2 H2 (x.trans y) fun _ e => nomatch e
theorem di_range1 {p pos : Pos} {tg : Expr} (hg : Gl X "range") (hm : X.mg "range" = none) (he : DE X W e f) (hs : starEach [e] X.env = [(false, eval e X.env)] := by rfl) :
    DI X W tg (.Call (.Name "range" p) [e] [] pos) (cRng1 f) := by
  obtain ⟨t, pe, s⟩ := he.out
  refine ⟨fun pins sh σ H Rw I ⟨E, T, io, env, fp, R0, h⟩ => (pi_range1 (tg := tg) hg hm (pa_cons pe pa_nil hs) hs).run pins sh σ H Rw I ?_⟩
  show t σ H fun x H1 => tNil σ H1 fun vs H2 => ∃ j : Int, x :: vs = [V.int j] ∧ -(2 ^ 62) ≤ j ∧ j < 2 ^ 62 ∧ Rw (Itr 0 j.toNat) H2
  refine okei_bind (f := f) (s E T io env fp σ H _ R0) h fun t1 env1 v1 fp1 H1 x1 r1 h1 k1 => ?_
  cases g1 : getV env1 t1 with
  | none => exact (k1 .stuck (fun _ _ _ z => nomatch z) (by simp only [g1])).elim
  | some d1 =>
    have p := h1.get r1 g1
    cases d1 with
    | int j =>
      by_cases hk : rgOk 0 j = true
      · have k := k1 (.ok (rangeD 0 j.toNat, none) env1) (fun _ _ _ z => by cases z; rfl) (by simp only [g1, hk, if_true])
        have hk' := of_decide_eq_true hk
        rw [rep1_int p]
        exact ⟨j, rfl, hk'.2.2.1, hk'.2.2.2.1, k _ fp1 H1 Ext.refl (fun _ e => nomatch e) r1 (itok_range 0 j.toNat) (by simp only [rangeD, List.length_map, List.length_range]; have := hk'.2.2.2.2; rw [Int.sub_zero] at this; exact this)⟩
      · exact (k1 .stuck (fun _ _ _ z => nomatch z) (by simp only [g1, hk, if_false]; rfl)).elim
    | _ => exact (k1 .stuck (fun _ _ _ z => nomatch z) (by simp only [g1])).elim
theorem di_range2 {p pos : Pos} {tg e2 : Expr} {f2 : M TV} (hg : Gl X "range") (hm : X.mg "range" = none) (he : DE X W e f) (he2 : DE X W e2 f2) (hs : starEach [e, e2] X.env = [(false, eval e X.env), (false, eval e2 X.env)] := by rfl) (hs2 : starEach [e2] X.env = [(false, eval e2 X.env)] := by rfl) :
    DI X W tg (.Call (.Name "range" p) [e, e2] [] pos) (cRng2 f f2) := by
  obtain ⟨t, pe, s⟩ := he.out
  obtain ⟨t2, pe2, s2⟩ := he2.out
  refine ⟨fun pins sh σ H Rw I ⟨E, T, io, env, fp, R0, h⟩ => (pi_range2 (tg := tg) hg hm (pa_cons pe (pa_cons pe2 pa_nil hs2) (hs.trans (by rw [hs2]))) hs hs2).run pins sh σ H Rw I ?_⟩
  show t σ H fun x H1 => t2 σ H1 fun y H2 => ∃ i j : Int, [x, y] = [V.int i, V.int j] ∧ (-(2 ^ 62) ≤ i ∧ i < 2 ^ 62 ∧ -(2 ^ 62) ≤ j ∧ j < 2 ^ 62) ∧ Rw (Itr i (j - i).toNat) H2
  refine s E T io env fp σ H _ R0 ?_
  unfold cRng2 at h
  cases e1 : f env with
  | stuck => rw [e1] at h; exact h.elim
  | ex x env' => rw [e1] at h; exact h
  | ok t1 env1 =>
    rw [e1] at h
    simp only [Res.bind] at h
    refine oke_hold fun v1 fp1 H1 x1 r1 h1 => ?_
    refine s2 E T io env1 fp1 σ H1 _ r1 ?_
    cases e2 : f2 env1 with
    | stuck => rw [e2] at h; exact h.elim
    | ex x env' => rw [e2] at h; exact fun cls dx fp' H' y => h cls dx fp' H' (x1.trans y)
    | ok t2 env2 =>
      rw [e2] at h
      simp only at h
      refine oke_hold fun v2 fp2 H2 x2 r2 h2 => ?_
      have h1' := h1.ext x2
      cases g1 : getV env2 t1 with
      | none => simp only [g1] at h; exact h.elim
      | some d1 =>
        cases g2 : getV env2 t2 with
        | none => simp only [g1, g2] at h; cases d1 <;> exact h.elim
        | some d2 =>
          have p1 := h1'.get r2 g1
          have p2 := h2.get r2 g2
          cases d1 with
          | int i =>
            cases d2 with
            | int j =>
              simp only [g1, g2] at h
              by_cases hk : rgOk i j = true
              · simp only [hk, if_true] at h
                have hk' := of_decide_eq_true hk
                rw [rep1_int p1, rep1_int p2]
                exact ⟨i, j, rfl, ⟨hk'.1, hk'.2.1, hk'.2.2.1, hk'.2.2.2.1⟩, h _ fp2 H2 (x1.trans x2) (fun _ e => nomatch e) r2 (itok_range i (j - i).toNat) (by simp only [rangeD, List.length_map, List.length_range]; exact hk'.2.2.2.2)⟩
              · simp only [hk, if_false] at h; exact h.elim
            | _ => simp only [g1, g2] at h; exact h.elim
          | _ => simp only [g1, g2] at h; exact h.elim

/-! ### list(range(..)), tuple(range(..)) -/
def rgOk2 (i j : Int) : Bool := decide (-(2 ^ 62) ≤ i ∧ i < 2 ^ 62 ∧ -(2 ^ 62) ≤ j ∧ j < 2 ^ 62 ∧ (j - i).toNat ≤ 2 ^ 24)
def oLRg (lst : Bool) : D → D → ORes
  | .int i, .int j => if rgOk2 i j then (if lst then .new .l (.lst (rangeD i (j - i).toNat)) else .val (.tup (rangeD i (j - i).toNat))) else .stuck
  | _, _ => .stuck
theorem rgV_reps {B : Bas} {H : Hp} {av : Addr → Prop} (i j : Int) : Reps B H av (rgV i j) (rangeD i (j - i).toNat) := by
  unfold rgV rangeD
  have : ∀ l : List Nat, Reps B H av (l.map fun k => V.int (i + (k : Nat))) (l.map fun k => D.int (i + (k : Nat))) := by
    intro l
    induction l with
    | nil => exact .nil
    | cons k l ih => exact .cons (.int _) ih
  exact this _
theorem lrg_ok {H : Hp} {av : Addr → Prop} {Q : VK} {lst : Bool} (ha : AvOk H av) {i j : Int} (h : OpQ (bas X) H av Q (oLRg lst (.int i) (.int j))) : RgOk i j ∧ ∀ q, H q = none → (lst = true → Q (.ref q) (upd H q (.lst (rgV i j)))) ∧ (lst = false → Q (.ref q) (upd H q (.tup (rgV i j)))) := by
  unfold oLRg at h
  simp only at h
  split at h
  · rename_i hk
    have hk' := of_decide_eq_true hk
    refine ⟨hk', fun q hq => ⟨fun hl => ?_, fun hl => ?_⟩⟩
    · subst hl
      exact opq_lst hq (rgV_reps i j) h
    · subst hl
      exact opq_tup ha hq (rgV_reps i j) h
  · exact h.elim
def cLRg1 (lst : Bool) (f : M TV) : M TV := cUn (oLRg lst (.int 0)) f
theorem de_listRg1 {p p2 pos pos2 : Pos} (hc : X.calm = true) (hg : Gl X "list") (hm : X.mg "list" = none) (hg2 : Gl X "range") (hm2 : X.mg "range" = none) (he : DE X W e f) (na2 : starEach [e] X.env = (false, eval e X.env) :: starEach [] X.env := by rfl)
    (na : starEach [.Call (.Name "range" p2) [e] [] pos2] X.env = (false, eval (.Call (.Name "range" p2) [e] [] pos2) X.env) :: starEach [] X.env := by rfl) : DE X W (.Call (.Name "list" p) [.Call (.Name "range" p2) [e] [] pos2] [] pos) (cLRg1 true f) := by
  obtain ⟨t, pe, s⟩ := he.out
  refine .mk ⟨_, peHB (pe_listRg hc hg hm (prg_1 hg2 hm2 pe na2) na), fun E T io env fp σ H Q R0 h => ?_⟩
  refine oke_bind (f := f) (s E T io env fp σ H _ R0) h fun t1 env1 v1 fp1 H1 x1 r1 h1 k1 => ?_
  cases g1 : getV env1 t1 with
  | none => simp only [g1] at k1; exact k1.elim
  | some d1 =>
    simp only [g1] at k1
    have p := h1.get r1 g1
    have o1 := oke_fin r1 k1
    cases d1 with
    | int j =>
      rw [rep1_int p]
      obtain ⟨a1, a2⟩ := lrg_ok (AvOk.of r1) o1
      exact ⟨j, rfl, a1, fun q hq => (a2 q hq).1 rfl⟩
    | _ => exact o1.elim
theorem de_listRg2 {p p2 pos pos2 : Pos} {e2 : Expr} {f2 : M TV} (hc : X.calm = true) (hg : Gl X "list") (hm : X.mg "list" = none) (hg2 : Gl X "range") (hm2 : X.mg "range" = none) (he : DE X W e f) (he2 : DE X W e2 f2) (na2 : starEach [e, e2] X.env = (false, eval e X.env) :: starEach [e2] X.env := by rfl)
    (nb : starEach [e2] X.env = (false, eval e2 X.env) :: starEach [] X.env := by rfl) (hp : (backTo pos2 (starEach [e2] X.env)).any (·.1) = false := by rfl)
    (na : starEach [.Call (.Name "range" p2) [e, e2] [] pos2] X.env = (false, eval (.Call (.Name "range" p2) [e, e2] [] pos2) X.env) :: starEach [] X.env := by rfl) : DE X W (.Call (.Name "list" p) [.Call (.Name "range" p2) [e, e2] [] pos2] [] pos) (cBin (oLRg true) f f2) := by
  obtain ⟨t, pe, s⟩ := he.out
  obtain ⟨t2, pe2, s2⟩ := he2.out
  refine .mk ⟨_, peHB (pe_listRg hc hg hm (prg_2 hg2 hm2 pe pe2 na2 nb hp) na), fun E T io env fp σ H Q R0 h => ?_⟩
  refine oke_bind (f := f) (s E T io env fp σ H _ R0) h fun t1 env1 v1 fp1 H1 x1 r1 h1 k1 => ?_
  refine oke_bind (f := f2) (s2 E T io env1 fp1 σ H1 _ r1) k1 fun t2 env2 v2 fp2 H2 x2 r2 h2 k2 => ?_
  have h1' := h1.ext x2
  cases g1 : getV env2 t1 with
  | none => simp only [g1] at k2; exact k2.elim
  | some d1 =>
    cases g2 : getV env2 t2 with
    | none => simp only [g1, g2] at k2; exact k2.elim
    | some d2 =>
      simp only [g1, g2] at k2
      have p1 := h1'.get r2 g1
      have p2 := h2.get r2 g2
      have o1 := oke_fin r2 k2
      cases d1 with
      | int i =>
        cases d2 with
        | int j =>
          rw [rep1_int p1, rep1_int p2]
          obtain ⟨a1, a2⟩ := lrg_ok (AvOk.of r2) o1
          exact ⟨i, j, rfl, rfl, a1, fun q hq => (a2 q hq).1 rfl⟩
        | _ => exact o1.elim
      | _ => exact o1.elim
theorem de_tupleRg1 {p p2 pos pos2 : Pos} (hc : X.calm = true) (hg : Gl X "tuple") (hm : X.mg "tuple" = none) (hg2 : Gl X "range") (hm2 : X.mg "range" = none) (he : DE X W e f) (na2 : starEach [e] X.env = (false, eval e X.env) :: starEach [] X.env := by rfl)
    (na : starEach [.Call (.Name "range" p2) [e] [] pos2] X.env = (false, eval (.Call (.Name "range" p2) [e] [] pos2) X.env) :: starEach [] X.env := by rfl) : DE X W (.Call (.Name "tuple" p) [.Call (.Name "range" p2) [e] [] pos2] [] pos) (cLRg1 false f) := by
  obtain ⟨t, pe, s⟩ := he.out
  refine .mk ⟨_, peHB (pe_tupRg hc hg hm (prg_1 hg2 hm2 pe na2) na), fun E T io env fp σ H Q R0 h => ?_⟩
  refine oke_bind (f := f) (s E T io env fp σ H _ R0) h fun t1 env1 v1 fp1 H1 x1 r1 h1 k1 => ?_
  cases g1 : getV env1 t1 with
  | none => simp only [g1] at k1; exact k1.elim
  | some d1 =>
    simp only [g1] at k1
    have p := h1.get r1 g1
    have o1 := oke_fin r1 k1
    cases d1 with
    | int j =>
      rw [rep1_int p]
      obtain ⟨a1, a2⟩ := lrg_ok (AvOk.of r1) o1
      exact ⟨j, rfl, a1, fun q hq => (a2 q hq).2 rfl⟩
    | _ => exact o1.elim
theorem de_tupleRg2 {p p2 pos pos2 : Pos} {e2 : Expr} {f2 : M TV} (hc : X.calm = true) (hg : Gl X "tuple") (hm : X.mg "tuple" = none) (hg2 : Gl X "range") (hm2 : X.mg "range" = none) (he : DE X W e f) (he2 : DE X W e2 f2) (na2 : starEach [e, e2] X.env = (false, eval e X.env) :: starEach [e2] X.env := by rfl)
    (nb : starEach [e2] X.env = (false, eval e2 X.env) :: starEach [] X.env := by rfl) (hp : (backTo pos2 (starEach [e2] X.env)).any (·.1) = false := by rfl)
    (na : starEach [.Call (.Name "range" p2) [e, e2] [] pos2] X.env = (false, eval (.Call (.Name "range" p2) [e, e2] [] pos2) X.env) :: starEach [] X.env := by rfl) : DE X W (.Call (.Name "tuple" p) [.Call (.Name "range" p2) [e, e2] [] pos2] [] pos) (cBin (oLRg false) f f2) := by
  obtain ⟨t, pe, s⟩ := he.out
  obtain ⟨t2, pe2, s2⟩ := he2.out
  refine .mk ⟨_, peHB (pe_tupRg hc hg hm (prg_2 hg2 hm2 pe pe2 na2 nb hp) na), fun E T io env fp σ H Q R0 h => ?_⟩
  refine oke_bind (f := f) (s E T io env fp σ H _ R0) h fun t1 env1 v1 fp1 H1 x1 r1 h1 k1 => ?_
  refine oke_bind (f := f2) (s2 E T io env1 fp1 σ H1 _ r1) k1 fun t2 env2 v2 fp2 H2 x2 r2 h2 k2 => ?_
  have h1' := h1.ext x2
  cases g1 : getV env2 t1 with
  | none => simp only [g1] at k2; exact k2.elim
  | some d1 =>
    cases g2 : getV env2 t2 with
    | none => simp only [g1, g2] at k2; exact k2.elim
    | some d2 =>
      simp only [g1, g2] at k2
      have p1 := h1'.get r2 g1
      have p2 := h2.get r2 g2
      have o1 := oke_fin r2 k2
      cases d1 with
      | int i =>
        cases d2 with
        | int j =>
          rw [rep1_int p1, rep1_int p2]
          obtain ⟨a1, a2⟩ := lrg_ok (AvOk.of r2) o1
          exact ⟨i, j, rfl, rfl, a1, fun q hq => (a2 q hq).2 rfl⟩
        | _ => exact o1.elim
      | _ => exact o1.elim
end
end VL
namespace VL
open PySem PySem.Spec PyProof.Rows L2
variable [tt : TabList]
def TyX2 (K : PySem.W.Frag) (H : Hp) (x : V) (t : Value) : Prop := TyX K H x t ∨ ∃ a o kvs, x = .ref a ∧ t = .type "dict" ∧ H a = some (.frz o (.dT kvs))
def rIsi2 (K : PySem.W.Frag) : List V → Hp → VK → Prop := fun xs H Q => ∃ (x c : V) (t u : Value) (b : Bool), xs = [x, c] ∧ ClsV c u ∧ TyX2 K H x t ∧ PySem.W.kitOne K t u = some b ∧ Q (.bl b) H
section
variable {X : Cx}
theorem c_isi : CallR X (.builtin "isinstance") (rIsi2 X.K) := by
  intro pins s σ H xs us Q I r h
  obtain ⟨x, c, t, u, b, rfl, k, ty, e, q⟩ := h
  rcases ty with ty | ⟨a, o, kvs, rfl, rfl, ea⟩
  · exact call_isi pins s σ H _ us Q I r ⟨x, c, t, u, b, rfl, k, ty, e, q⟩
  · obtain ⟨u1, u2, rfl, r1, r2⟩ := vals2 r
    have e2 := k.eq r2
    subst e2
    cases (show u1 = Value.ref a from r1)
    obtain ⟨_, _, z, hd, rr, o', es, ep, h1, h2, _⟩ := (show ObjOk X.prog X.w H s.heap a (.frz o (.dT kvs)) from I.hok a _ ea)
    exact PySem.W.kia_one PySem.W.kitx_dict I.kIn ⟨o', h1, h2.1⟩ e (fun z => nomatch z) fun tk => ⟨.bl b, H, I.tok tk, rfl, q⟩
theorem tyN_ok {H : Hp} {av : Addr → Prop} {x : V} {d : D} {t : String} (r : Rep1 (bas X) H av x d) (e : tyN d = some t) : TyX2 X.K H x (.type t) := by
  cases r with
  | non => cases e; exact .inl (.base .non)
  | bl _ => cases e; exact .inl (.base (.bl _))
  | int _ => cases e; exact .inl (.base (.int _))
  | str _ => cases e; exact .inl (.base (.str _))
  | tup h1 _ => cases e; exact .inl (.base (.tup h1))
  | lst h1 _ =>
    cases e
    rcases h1 with h1 | ⟨o, h1⟩
    · exact .inl (.base (.lst h1))
    · exact .inl (.base (.frz h1))
  | dK h1 _ _ =>
    cases e
    rcases h1 with h1 | ⟨o, h1⟩
    · exact .inl (.base (.dK h1))
    · exact .inl (.fDict h1)
  | dT h1 _ _ =>
    cases e
    rcases h1 with h1 | ⟨o, h1⟩
    · exact .inl (.base (.dT h1))
    · exact .inr ⟨_, _, _, rfl, rfl, h1⟩
  | _ => cases e
theorem s_isi : OpNS X (rIsi2 X.K) oIsi := by
  intro H av xs ds Q ha r h
  unfold oIsi at h
  split at h
  · split at h
    · rename_i e
      split at h
      · rename_i e2
        obtain ⟨x, y, rfl, r1, r2⟩ := rep1s_2 r
        rw [rep1_ty r2]
        exact ⟨x, _, _, _, _, rfl, .ty _, tyN_ok r1 e, kitOne_ty X.K e2, opq0 h (.bl _)⟩
      · exact h.elim
    · exact h.elim
  · exact h.elim

/-! ### list methods -/
def mApp : D → List D → Option (D × D)
  | .lst ds, [d] => if ds.length < sizeLine then some (.lst (ds ++ [d]), .non) else none
  | _, _ => none
def mPop0 : D → List D → Option (D × D)
  | .lst ds, [] => match ds[ds.length - 1]? with
    | some d => some (.lst ds.dropLast, d)
    | none => none
  | _, _ => none
def mPopI : D → List D → Option (D × D)
  | .lst ds, [.int i] => if -(2 ^ 63) ≤ i ∧ i < 2 ^ 63 then match ixN ds.length i with
      | some k => match ds[k]? with
        | some d => some (.lst (ds.eraseIdx k), d)
        | none => none
      | none => none
    else none
  | _, _ => none
def mExt : D → List D → Option (D × D)
  | .lst ds, [.lst es] => if ds.length + es.length ≤ sizeLine then some (.lst (ds ++ es), .non) else none
  | _, _ => none
theorem own_l {B : Bas} {H : Hp} {av : Addr → Prop} {v : V} {d : D} {q : Addr → Prop} (o : Own B H av .l v d q) : ∃ a vs ds, v = .ref a ∧ d = .lst ds ∧ H a = some (.lst vs) ∧ Reps B H av vs ds ∧ q = (fun b => b = a) := o
/-- the owned list is written -/
theorem own_upd {B : Bas} {H : Hp} {av : Addr → Prop} {a : Addr} {vs ws : List V} {es : List D} (hq : av a) (e : H a = some (.lst vs)) (r : Reps B H av ws es) : Own B (upd H a (.lst ws)) av .l (.ref a) (.lst es) (fun b => b = a) :=
  ⟨a, ws, es, rfl, rfl, upd_same, r.mono (fun b o _ e n => by rw [upd_ne fun z => n (by rw [z]; exact hq)]; exact e) (fun _ z => .inl z), rfl⟩
theorem rep_upd {B : Bas} {H : Hp} {av : Addr → Prop} {a : Addr} {o : HO} {v : V} {d : D} (hq : av a) (r : Rep B H av v d) : Rep B (upd H a o) av v d :=
  r.mono (fun b o _ e n => by rw [upd_ne fun z => n (by rw [z]; exact hq)]; exact e) (fun _ z => .inl z)
theorem reps_1 {B : Bas} {H : Hp} {av : Addr → Prop} {xs : List V} {d : D} (h : Reps B H av xs [d]) : ∃ x, xs = [x] ∧ Rep B H av x d := by
  cases h with
  | cons h1 h2 => cases h2; exact ⟨_, rfl, h1⟩
theorem reps_0 {B : Bas} {H : Hp} {av : Addr → Prop} {xs : List V} (h : Reps B H av xs []) : xs = [] := by cases h; rfl
theorem mApp_out {d d' res : D} {ds : List D} (h : mApp d ds = some (d', res)) : ∃ es x, d = .lst es ∧ ds = [x] ∧ es.length < sizeLine ∧ d' = .lst (es ++ [x]) ∧ res = .non := by
  unfold mApp at h
  split at h
  · split at h
    · cases h; exact ⟨_, _, rfl, rfl, by assumption, rfl, rfl⟩
    · cases h
  · cases h
theorem mPop0_out {d d' res : D} {ds : List D} (h : mPop0 d ds = some (d', res)) : ∃ es, d = .lst es ∧ ds = [] ∧ es[es.length - 1]? = some res ∧ d' = .lst es.dropLast := by
  unfold mPop0 at h
  split at h
  · split at h
    · cases h; exact ⟨_, rfl, rfl, by assumption, rfl⟩
    · cases h
  · cases h
theorem mPopI_out {d d' res : D} {ds : List D} (h : mPopI d ds = some (d', res)) : ∃ es i k, d = .lst es ∧ ds = [.int i] ∧ (-(2 ^ 63) ≤ i ∧ i < 2 ^ 63) ∧ ixN es.length i = some k ∧ es[k]? = some res ∧ d' = .lst (es.eraseIdx k) := by
  unfold mPopI at h
  split at h
  · split at h
    · split at h
      · split at h
        · cases h; exact ⟨_, _, _, rfl, rfl, by assumption, by assumption, by assumption, rfl⟩
        · cases h
      · cases h
    · cases h
  · cases h
theorem mExt_out {d d' res : D} {ds : List D} (h : mExt d ds = some (d', res)) : ∃ es fs, d = .lst es ∧ ds = [.lst fs] ∧ es.length + fs.length ≤ sizeLine ∧ d' = .lst (es ++ fs) ∧ res = .non := by
  unfold mExt at h
  split at h
  · split at h
    · cases h; exact ⟨_, _, rfl, rfl, by assumption, rfl, rfl⟩
    · cases h
  · cases h
theorem m_app : MutS X .l rAppend mApp := by
  intro H av v d q xs ds Q hb ha o hq r h
  obtain ⟨a, vs, es, rfl, rfl, e, rs, rfl⟩ := own_l o
  cases hm : mApp (.lst es) ds with
  | none => rw [hm] at h; exact h.elim
  | some p =>
    obtain ⟨d', res⟩ := p
    rw [hm] at h
    obtain ⟨es', x, e1, rfl, hl, rfl, rfl⟩ := mApp_out hm
    cases e1
    obtain ⟨x, rfl, rx⟩ := reps_1 r
    exact ⟨a, vs, x, rfl, rfl, e, by rw [rs.length]; exact hl, h _ _ (Mutd.upd e trivial) (own_upd (hq a rfl) e (rs.append (.cons rx .nil))) .non⟩
theorem m_pop0 : MutS X .l rPop mPop0 := by
  intro H av v d q xs ds Q hb ha o hq r h
  obtain ⟨a, vs, es, rfl, rfl, e, rs, rfl⟩ := own_l o
  cases hm : mPop0 (.lst es) ds with
  | none => rw [hm] at h; exact h.elim
  | some p =>
    obtain ⟨d', res⟩ := p
    rw [hm] at h
    obtain ⟨es', e1, rfl, hd, rfl⟩ := mPop0_out hm
    cases e1
    have := reps_0 r
    subst this
    obtain ⟨y, hy, ry⟩ := rs.getD hd
    exact ⟨a, vs, y, rfl, rfl, e, by rw [rs.length]; exact hy, h _ _ (Mutd.upd e trivial) (own_upd (hq a rfl) e rs.dropLast) (rep_upd (hq a rfl) ry)⟩
theorem m_popI : MutS X .l rPopAt mPopI := by
  intro H av v d q xs ds Q hb ha o hq r h
  obtain ⟨a, vs, es, rfl, rfl, e, rs, rfl⟩ := own_l o
  cases hm : mPopI (.lst es) ds with
  | none => rw [hm] at h; exact h.elim
  | some p =>
    obtain ⟨d', res⟩ := p
    rw [hm] at h
    obtain ⟨es', i, k, e1, rfl, hi, hk, hd, rfl⟩ := mPopI_out hm
    cases e1
    obtain ⟨x, rfl, rx⟩ := reps_1 r
    cases rx
    obtain ⟨y, hy, ry⟩ := rs.getD hd
    exact ⟨a, vs, i, k, y, rfl, rfl, e, hi.1, hi.2, by rw [rs.length]; exact (ixN_seq hk).1, hy, h _ _ (Mutd.upd e trivial) (own_upd (hq a rfl) e (rs.eraseIdx k)) (rep_upd (hq a rfl) ry)⟩
/-- xs.extend(ys), ys a list -/
def rExtL : V → List V → Hp → VK → Prop := fun x vs H Q => ∃ l b xs zs, x = .ref l ∧ vs = [.ref b] ∧ H l = some (.lst xs) ∧ Rd H b (.lst zs) ∧ xs.length + zs.length ≤ sizeLine ∧ Q .non (upd H l (.lst (xs ++ zs)))
theorem mt_extL : MtR X "list.extend" rExtL := by
  intro pins s σ H x vs v us Q I rx rv h
  obtain ⟨l, b, xs, zs, rfl, rfl, hH, hB, hz, q⟩ := h
  cases rx
  obtain ⟨u, rfl, ru⟩ := rv.one
  cases ru
  obtain ⟨z, its, n, r, hl, e⟩ := I.lstM hH
  obtain ⟨z2, its2, n2, r2, hl2, e2⟩ := Inv.lstRd I hB
  have hsz : its.toArray.size + its2.toArray.size ≤ sizeLine := by rw [List.size_toArray, List.size_toArray]; omega
  have hlong : ¬ (!its.toArray.isEmpty && Builtin.List.listTooLong (its.toArray.size + its2.toArray.size)) = true := by
    rw [notLongL hsz, Bool.and_false]
    exact Bool.false_ne_true
  refine call_meets F.slot_list_extend ⟨_, e, rfl⟩ F.entry_list_extend (F.args_list_extend_2 _ _)
    (AutoSeq1.list_extend_list_list_0 l its.toArray n b its2.toArray n2 hlong (by rw [List.size_toArray]; omega) (by omega)) ⟨e, e2, ?_⟩
  refine ⟨.non, _, I.lset (its' := its ++ its2) hH e (by simp) (r.append r2) ?_, rfl, q⟩
  rw [List.length_append]
  omega
theorem m_ext : MutSG X .l rExtL mExt := by
  intro H av v d q xs ds Q hb ha o hq r h
  obtain ⟨a, vs, es, rfl, rfl, e, rs, rfl⟩ := own_l o
  cases hm : mExt (.lst es) ds with
  | none => rw [hm] at h; exact h.elim
  | some p =>
    obtain ⟨d', res⟩ := p
    rw [hm] at h
    obtain ⟨es', fs, e1, rfl, hl, rfl, rfl⟩ := mExt_out hm
    cases e1
    obtain ⟨x, rfl, rx⟩ := rep1s_1 r
    obtain ⟨b, ws, rfl, hb', ss⟩ := rep1_lst rx
    exact ⟨a, b, vs, ws, rfl, rfl, e, hb', by rw [rs.length, ss.length]; exact hl, h _ _ (Mutd.upd e trivial) (own_upd (hq a rfl) e (rs.append ss)) .non⟩
/-! ### list.index -/
def idxD (d : D) : List D → Option Nat
  | [] => none
  | z :: ds => if deq z d then some 0 else (idxD d ds).map (· + 1)
def oIndex : D → List D → ORes
  | .lst ds, [d] => if pl 60 d && pls 59 ds then match idxD d ds with
      | some j => .val (.int (j : Nat))
      | none => .stuck
    else .stuck
  | _, _ => .stuck
theorem idxD_ok {d : D} : ∀ {ds : List D} {j : Nat}, idxD d ds = some j → (∃ z, ds[j]? = some z ∧ deq z d = true) ∧ ∀ (m : Nat) (z : D), m < j → ds[m]? = some z → deq z d = false
  | [], _, e => by cases e
  | z :: ds, j, e => by
    unfold idxD at e
    by_cases h : deq z d = true
    · simp only [h, if_true] at e
      cases e
      exact ⟨⟨z, rfl, h⟩, fun m _ hm => absurd hm (Nat.not_lt_zero m)⟩
    · simp only [h, if_false] at e
      cases e2 : idxD d ds with
      | none => rw [e2] at e; cases e
      | some k =>
        rw [e2] at e; cases e
        obtain ⟨⟨y, h1, h2⟩, h3⟩ := idxD_ok e2
        refine ⟨⟨y, h1, h2⟩, fun m z' hm hz => ?_⟩
        cases m with
        | zero => cases hz; simpa using h
        | succ m => exact h3 m z' (Nat.lt_of_succ_lt_succ hm) hz
theorem s_index : OpMS X (rIndexD X.K) oIndex := by
  intro H av x xs d ds Q ha r rs h
  unfold oIndex at h
  split at h
  · rename_i es d1
    split at h
    · rename_i hc
      split at h
      · rename_i j hj
        rw [Bool.and_eq_true] at hc
        obtain ⟨y, rfl, ry⟩ := rep1s_1 rs
        obtain ⟨a1, a2, a3⟩ := toP1_ok hc.1 ry
        obtain ⟨b1, b2, b3⟩ := toP1_ok (d := .lst es) (n := 60) hc.2 r
        obtain ⟨a, vs, rfl, _, _⟩ := rep1_lst r
        obtain ⟨⟨z, h1, h2⟩, h3⟩ := idxD_ok hj
        have eq1 : ∀ z ∈ es, PyData.eqv (toP z) (toP d1) = deq z d1 := fun z hz => eqv_deq z d1 59 60 (pls_mem hc.2 z hz) hc.1
        refine ⟨a, y, toP d1, toPs es, j, toP z, rfl, rfl, b1, a1, shaped_of b2 b3, shaped_of a2 a3, by rw [toPs_map, List.getElem?_map, h1]; rfl, by rw [eq1 z (List.mem_of_getElem? h1)]; exact h2, fun m z' hm hz => ?_, opq0 h (.int _)⟩
        rw [toPs_map, List.getElem?_map] at hz
        cases hq : es[m]? with
        | none => rw [hq] at hz; cases hz
        | some w =>
          rw [hq] at hz; cases hz
          rw [eq1 w (List.mem_of_getElem? hq)]
          exact h3 m w hm hq
      · exact h.elim
    · exact h.elim
  · exact h.elim
end
end VL
namespace VL
open PySem PySem.Spec PyProof.Rows L2
variable [tt : TabList]

/-! ### argument lists whose new objects stay owned -/
abbrev Qs := List (Addr → Prop)
def TL (T : Addr → Prop) (qs : Qs) : Addr → Prop := fun a => T a ∨ ∃ q ∈ qs, q a
theorem TL_nil {T : Addr → Prop} : TL T [] = T := by
  funext a; exact propext ⟨fun z => z.elim id fun ⟨_, h, _⟩ => (nomatch h), .inl⟩
theorem TL_cons {T q : Addr → Prop} {qs : Qs} : TL (fun a => T a ∨ q a) qs = TL T (q :: qs) := by
  funext a
  refine propext ⟨fun z => ?_, fun z => ?_⟩
  · rcases z with (z | z) | ⟨r, h, z⟩
    · exact .inl z
    · exact .inr ⟨q, List.mem_cons_self, z⟩
    · exact .inr ⟨r, List.mem_cons_of_mem _ h, z⟩
  · rcases z with z | ⟨r, h, z⟩
    · exact .inl (.inl z)
    · rcases List.mem_cons.mp h with rfl | h
      · exact .inl (.inr z)
      · exact .inr ⟨r, h, z⟩
/-- what is known of each: T is the whole that is protected -/
def HoldO (B : Bas) (T : Addr → Prop) (fp : Nat → Addr → Prop) (H : Hp) (σ : L2.St) (v : V) (q : Addr → Prop) : TV → Prop
  | .sl i => σ[i]? = some (some v) ∧ ∀ a, ¬ q a
  | .fz d => Rep B H (avOf T fp) v d ∧ ∀ a, ¬ q a
  | .ow κ d => Own B H (avOf T fp) κ v d q
inductive HoldsO (B : Bas) (T : Addr → Prop) (fp : Nat → Addr → Prop) (H : Hp) (σ : L2.St) : List V → List TV → Qs → Prop
  | nil : HoldsO B T fp H σ [] [] []
  | cons {v vs t ts q qs} : HoldO B T fp H σ v q t → HoldsO B T fp H σ vs ts qs → HoldsO B T fp H σ (v :: vs) (t :: ts) (q :: qs)
def Fresh (T E : Addr → Prop) (env : Env) (fp : Nat → Addr → Prop) (H : Hp) (q : Addr → Prop) : Prop := ∀ a, q a → ¬ T a ∧ ¬ E a ∧ (H a = none ∨ ∃ j, fp j a ∧ ¬ Lk env j)
def OKAo (B : Bas) (E T : Addr → Prop) (io : Option V) (env : Env) (fp : Nat → Addr → Prop) (H : Hp) (σ : L2.St) (Q : List V → Hp → Prop) (W : WX) : Res (List TV) → Prop
  | .ok ts env' => ∀ vs fp' H' qs, Ext env fp H env' fp' H' → R B E (TL T qs) io fp' env' σ H' → HoldsO B (TL T qs) fp' H' σ vs ts qs → (∀ q ∈ qs, Fresh T E env fp H q) → qs.Pairwise (fun p q => ∀ a, p a → ¬ q a) → Q vs H'
  | .ex e env' => ∀ cls dx fp' H', Ext env fp H env' fp' H' → R B E T io fp' env' σ H' → ExR B H' (avOf T fp') e cls dx → W cls dx σ H'
  | .stuck => False
section
variable {B : Bas} {E T : Addr → Prop} {io : Option V} {env env1 : Env} {fp fp1 : Nat → Addr → Prop} {σ : L2.St} {H H1 : Hp} {W : WX} {Q : List V → Hp → Prop}
/-- more is protected: new cells, or cells given up -/
theorem HoldO.ext {T' q : Addr → Prop} {v : V} {t : TV} (x : Ext env fp H env1 fp1 H1) (hq : ∀ a, q a → T a) (off : ∀ i a, fp i a → ¬ T a) (hT : ∀ a, T' a → T a ∨ H a = none ∨ ∃ i, fp i a) (h : HoldO B T fp H σ v q t) : HoldO B T' fp1 H1 σ v q t := by
  have k : ∀ a o, NT o → H a = some o → ¬ avOf T fp a → H1 a = some o := fun a o nt e n => x.chg a o nt e fun i z => absurd (.inr ⟨i, z⟩) n
  have hav : ∀ a, avOf T' fp1 a → avOf T fp a ∨ H a = none := fun a z => by
    rcases z with z | ⟨i, z⟩
    · rcases hT a z with z | z | z
      · exact .inl (.inl z)
      · exact .inr z
      · exact .inl (.inr z)
    · cases q : H a with
      | none => exact .inr rfl
      | some o =>
        obtain ⟨j, z', _⟩ := x.sub i a z (by rw [q]; exact fun z => nomatch z)
        exact .inl (.inr ⟨j, z'⟩)
  cases t with
  | sl i => exact h
  | fz d => exact ⟨h.1.mono k hav, h.2⟩
  | ow κ d => exact Own.mono k hav (fun a o z e => x.chg a o (own_nt (by obtain ⟨o2, e2, w⟩ := Own.cells h a z; rw [e] at e2; cases e2; exact w)) e fun i z' => absurd (hq a z) (off i a z')) h
end
section
variable {X : Cx} {W : WX} {e : Expr} {es : List Expr} {f : M TV} {fs : List (M TV)} {pos : Pos}
def DAo (X : Cx) (W : WX) (es : List Expr) (fs : List (M TV)) : Prop := ∃ t, PA X es t ∧ ∀ E T io env fp σ H Q, R (bas X) E T io fp env σ H → OKAo (bas X) E T io env fp H σ Q W (cArgs fs env) → t σ H Q
theorem dao_nil : DAo X W [] [] := ⟨_, pa_nil, fun E T io env fp σ H Q r h => h [] fp H [] Ext.refl (by rw [TL_nil]; exact r) .nil (fun _ h => nomatch h) .nil⟩
theorem dao_cons (he : DE X W e f) (hr : DAo X W es fs) (hs : starEach (e :: es) X.env = (false, eval e X.env) :: starEach es X.env := by rfl) : DAo X W (e :: es) (f :: fs) := by
  obtain ⟨t, p, s⟩ := he.out
  obtain ⟨t', p', s'⟩ := hr
  refine ⟨_, pa_cons p p' hs, fun E T io env fp σ H Q r h => ?_⟩
  refine s E T io env fp σ H _ r ?_
  unfold cArgs at h
  cases e1 : f env with
  | stuck => rw [e1] at h; exact h
  | ex x env' => rw [e1] at h; exact h
  | ok tv env1 =>
    rw [e1] at h
    simp only [Res.bind] at h
    intro v fp1 H1 x1
    -- the rest, wherever it starts
    have rest : ∀ (T1 q : Addr → Prop), (∀ a, T1 a ↔ T a ∨ q a) → R (bas X) E T1 io fp1 env1 σ H1 → HoldO (bas X) T1 fp1 H1 σ v q tv → Fresh T E env fp H q → t' σ H1 fun vs H2 => Q (v :: vs) H2 := by
      intro T1 q hT1 r1 h1 hf
      have eT : T1 = fun a => T a ∨ q a := by funext a; exact propext (hT1 a)
      subst eT
      refine s' E _ io env1 fp1 σ H1 _ r1 ?_
      cases e2 : cArgs fs env1 with
      | stuck => rw [e2] at h; exact h
      | ex x env' =>
        rw [e2] at h
        exact fun cls dx fp' H' y r2 ex => h cls dx fp' H' (x1.trans y) (r2.sub fun a z => .inl z) (by
          obtain ⟨C, d, w, c1, c2, c3, c4, c5⟩ := ex
          exact ⟨C, d, w, c1, c2, c3, c4, c5.weak fun a z => z.imp .inl id⟩)
      | ok ts env2 =>
        rw [e2] at h
        intro vs fp2 H2 qs x2 r2 h2 f2 d2
        rw [TL_cons] at r2 h2
        refine h (v :: vs) fp2 H2 (q :: qs) (x1.trans x2) r2 (.cons (h1.ext x2 (fun a z => .inr z) r1.offT fun a z => ?_) h2) (fun q' hq' => ?_) (List.pairwise_cons.mpr ⟨fun q' hq' a z z' => (f2 q' hq' a z').1 (.inr z), d2⟩)
        · rcases z with z | ⟨q', hm, z⟩
          · exact .inl (.inl z)
          · rcases List.mem_cons.mp hm with rfl | hm
            · exact .inl (.inr z)
            · exact .inr ((f2 q' hm a z).2.2.imp id fun ⟨j, z, _⟩ => ⟨j, z⟩)
        · rcases List.mem_cons.mp hq' with rfl | hq'
          · exact hf
          · intro a z
            obtain ⟨h1, h2, h3⟩ := f2 q' hq' a z
            refine ⟨fun z => h1 (.inl z), h2, ?_⟩
            cases e : H a with
            | none => exact .inl rfl
            | some o =>
              have hH : H a ≠ none := by rw [e]; exact fun z => nomatch z
              rcases h3 with h3 | ⟨j, h3, h4⟩
              · exact absurd h3 (x1.dom a hH)
              · obtain ⟨k, z1, z2⟩ := x1.sub j a h3 hH
                exact .inr ⟨k, z1, fun l => h4 (z2 l).2⟩
    cases tv with
    | sl i => exact fun r1 h1 => rest T (fun _ => False) (fun a => ⟨.inl, fun z => z.elim id False.elim⟩) r1 ⟨h1, fun _ z => z⟩ (fun _ z => z.elim)
    | fz d => exact fun r1 h1 => rest T (fun _ => False) (fun a => ⟨.inl, fun z => z.elim id False.elim⟩) r1 ⟨h1, fun _ z => z⟩ (fun _ z => z.elim)
    | ow κ d => exact fun q r1 h1 hq => rest _ q (fun a => Iff.rfl) r1 h1 hq
end

/-! ### a, b, .. = x, y, .. -/
def svOf : TV → Option SV
  | .fz d => some (.fz d)
  | .ow κ d => some (.ow κ d)
  | .sl _ => none
def svAll : List TV → Option (List SV)
  | [] => some []
  | t :: ts => match svOf t, svAll ts with
    | some s, some ss => some (s :: ss)
    | _, _ => none
def setAll (nio : Bool) : List Nat → List SV → Env → Option Env
  | [], [], env => some env
  | i :: is, sv :: svs, env => if i < env.length ∧ (i ≠ 0 ∨ nio = true) ∧ i ∉ is then setAll nio is svs (env.set i sv) else none
  | _, _, _ => none
def sPar (nio : Bool) (is : List Nat) (fs : List (M TV)) : SM := fun env => match cArgs fs env with
  | .ok ts env1 => match svAll ts with
    | some svs => match setAll nio is svs env1 with
      | some env2 => .nx env2
      | none => .stuck
    | none => .stuck
  | .ex e env1 => .ex e env1
  | .stuck => .stuck
def stAll : List Nat → List V → L2.St → L2.St
  | i :: is, v :: vs, σ => stAll is vs (σ.set i (some v))
  | _, _, σ => σ
def HoldV (B : Bas) (av : Addr → Prop) (H : Hp) (v : V) (q : Addr → Prop) : SV → Prop
  | .fz d => Rep B H av v d ∧ ∀ a, ¬ q a
  | .ow κ d => Own B H av κ v d q
  | _ => False
inductive HoldsV (B : Bas) (av : Addr → Prop) (H : Hp) : List V → List SV → Qs → Prop
  | nil : HoldsV B av H [] [] []
  | cons {v vs t ts q qs} : HoldV B av H v q t → HoldsV B av H vs ts qs → HoldsV B av H (v :: vs) (t :: ts) (q :: qs)
theorem TL_cons' {T q : Addr → Prop} {qs : Qs} : TL T (q :: qs) = fun a => TL T qs a ∨ q a := by
  funext a
  refine propext ⟨fun z => ?_, fun z => ?_⟩
  · rcases z with z | ⟨r, h, z⟩
    · exact .inl (.inl z)
    · rcases List.mem_cons.mp h with rfl | h
      · exact .inr z
      · exact .inl (.inr ⟨r, h, z⟩)
  · rcases z with (z | ⟨r, h, z⟩) | z
    · exact .inl z
    · exact .inr ⟨r, List.mem_cons_of_mem _ h, z⟩
    · exact .inr ⟨q, List.mem_cons_self, z⟩
section
variable {B : Bas} {E T : Addr → Prop} {io : Option V} {H0 : Hp} {env0 : Env} {fp0 : Nat → Addr → Prop} {nio : Bool} {H : Hp}
theorem HoldsV.weak {av av' : Addr → Prop} (hav : ∀ a, av' a → av a) : ∀ {vs : List V} {ts : List SV} {qs : Qs}, HoldsV B av H vs ts qs → HoldsV B av' H vs ts qs
  | _, _, _, .nil => .nil
  | _, _, _, .cons (t := t) h1 h2 => .cons (by
      cases t with
      | fz d => exact ⟨h1.1.weak hav, h1.2⟩
      | ow κ d => exact Own.mono (fun _ _ _ e _ => e) (fun a z => .inl (hav a z)) (fun _ _ _ e => e) h1
      | no => exact h1
      | lk κ d => exact h1) (h2.weak hav)
theorem HoldsV.grow {H' : Hp} {av : Addr → Prop} (g : Grow H H') : ∀ {vs : List V} {ts : List SV} {qs : Qs}, HoldsV B av H vs ts qs → HoldsV B av H' vs ts qs
  | _, _, _, .nil => .nil
  | _, _, _, .cons (t := t) h1 h2 => .cons (by
      cases t with
      | fz d => exact ⟨h1.1.grow g, h1.2⟩
      | ow κ d => exact Own.mono (fun a o _ e _ => g a o e) (fun a z => .inl z) (fun a o _ e => g a o e) h1
      | no => exact h1
      | lk κ d => exact h1) (h2.grow g)
theorem svAll_ok {T fp : _} {σ : L2.St} : ∀ {vs : List V} {ts : List TV} {qs : Qs} {svs : List SV}, HoldsO B T fp H σ vs ts qs → svAll ts = some svs → HoldsV B (avOf T fp) H vs svs qs
  | _, _, _, _, .nil, e => by cases e; exact .nil
  | _, _, _, _, .cons (t := t) (ts := ts) h1 h2, e => by
    unfold svAll at e
    cases e1 : svOf t with
    | none => rw [e1] at e; cases e
    | some sv =>
      cases e2 : svAll ts with
      | none => rw [e1, e2] at e; cases e
      | some ss =>
        rw [e1, e2] at e; cases e
        refine .cons ?_ (svAll_ok h2 e2)
        cases t with
        | sl i => cases e1
        | fz d => cases e1; exact h1
        | ow κ d => cases e1; exact h1
theorem setAll_ok (hn : NioOk nio io) : ∀ {is : List Nat} {vs : List V} {ts : List SV} {qs : Qs} {env env2 : Env} {fp : Nat → Addr → Prop} {σ : L2.St}, R B E (TL T qs) io fp env σ H → HoldsV B (avOf (TL T qs) fp) H vs ts qs → (∀ q ∈ qs, Fresh T E env0 fp0 H0 q) → qs.Pairwise (fun p q => ∀ a, p a → ¬ q a) →
    Ext env0 fp0 H0 env fp H → setAll nio is ts env = some env2 → ∃ fp2, R B E T io fp2 env2 (stAll is vs σ) H ∧ Ext env0 fp0 H0 env2 fp2 H := by
  intro is
  induction is with
  | nil =>
    intro vs ts qs env env2 fp σ r h _ _ x e
    cases h with
    | nil => cases e; rw [TL_nil] at r; exact ⟨fp, r, x⟩
    | cons _ _ => cases e
  | cons i is ih =>
    intro vs ts qs env env2 fp σ r h hf hd x e
    cases h with
    | nil => cases e
    | @cons v vs t ts q qs h1 h2 =>
      unfold setAll at e
      split at e
      · rename_i hc
        have hf1 := hf q List.mem_cons_self
        have hd' := List.pairwise_cons.mp hd
        rw [TL_cons'] at r h1 h2
        have av : ∀ (q' : Addr → Prop) a, (∀ a, q' a → q a) → avOf (TL T qs) (setF fp i q') a → avOf (fun a => TL T qs a ∨ q a) fp a := fun q' a hq z => by
          rcases z with z | ⟨j, z⟩
          · exact .inl (.inl z)
          · by_cases hj : j = i
            · subst hj; rw [setF_same] at z; exact .inl (.inr (hq a z))
            · rw [setF_ne hj] at z; exact .inr ⟨j, z⟩
        cases t with
        | no => exact h1.elim
        | lk κ d => exact h1.elim
        | fz d =>
          have eq : (fun a => TL T qs a ∨ q a) = TL T qs := by
            funext a; exact propext ⟨fun z => z.elim id fun z => (h1.2 a z).elim, .inl⟩
          rw [eq] at r h1
          obtain ⟨r', x'⟩ := r.setFz hn hc.1 hc.2.1 h1.1
          exact ih r' (h2.weak fun a z => av _ a (fun _ z => z.elim) z) (fun q' hq' => hf q' (List.mem_cons_of_mem _ hq')) hd'.2 (x.trans x') e
        | ow κ d =>
          have r' := r.setOw hn hc.1 hc.2.1 h1 fun a z => ⟨fun z' => by
            rcases z' with z' | ⟨q', hm, z'⟩
            · exact (hf1 a z).1 z'
            · exact hd'.1 q' hm a z z', (hf1 a z).2.1⟩
          exact ih r' (h2.weak fun a z => av _ a (fun _ z => z) z) (fun q' hq' => hf q' (List.mem_cons_of_mem _ hq')) hd'.2 (x.setOw fun a z => (hf1 a z).2.2) e
      · cases e
end
section
variable {X : Cx} {W : WX} {nio : Bool} {fs : List (M TV)} {es : List Expr} {pos : Pos}
/-- what a parallel assignment leads to -/
theorem sound_par {is : List Nat} {t : TA} {E T : Addr → Prop} {io : Option V} {env : Env} {fp : Nat → Addr → Prop} {σ : L2.St} {H : Hp} {D : Ends} (s : ∀ Q, OKAo (bas X) E T io env fp H σ Q W (cArgs fs env) → t σ H Q) (hn : NioOk nio io) (r : R (bas X) E T io fp env σ H) (h : OKS (bas X) E T io env fp H D W (sPar nio is fs env))
    {Q : List V → Hp → Prop} (hQ : ∀ vs ts svs env1 fp1 H1 qs, vs.length = ts.length → svAll ts = some svs → R (bas X) E (TL T qs) io fp1 env1 σ H1 → HoldsV (bas X) (avOf (TL T qs) fp1) H1 vs svs qs → (∀ a, avOf (TL T qs) fp1 a → H1 a ≠ none) → cArgs fs env = .ok ts env1 →
      (∀ H2, Grow H1 H2 → HB H2 → D.nx (stAll is vs σ) H2) → Q vs H1) : t σ H Q := by
  refine s _ ?_
  unfold sPar at h
  cases e : cArgs fs env with
  | stuck => rw [e] at h; exact h
  | ex x env1 => rw [e] at h; exact fun cls dx fp' H' y r2 ex => h cls dx σ fp' H' y r2 ex
  | ok ts env1 =>
    rw [e] at h
    simp only at h
    cases e2 : svAll ts with
    | none => simp only [e2] at h; exact h.elim
    | some svs =>
      simp only [e2] at h
      cases e3 : setAll nio is svs env1 with
      | none => simp only [e3] at h; exact h.elim
      | some env2 =>
        simp only [e3] at h
        intro vs fp1 H1 qs x1 r1 h1 hf hd
        have hv := svAll_ok h1 e2
        have hl : ∀ {vs : List V} {ts : List TV} {qs : Qs} {T fp H σ}, HoldsO (bas X) T fp H σ vs ts qs → vs.length = ts.length := by
          intro vs ts qs T fp H σ h
          induction h with
          | nil => rfl
          | cons _ _ ih => simp only [List.length_cons, ih]
        refine hQ vs ts svs env1 fp1 H1 qs (hl h1) e2 r1 hv (fun a z => r1.avH z) e fun H2 g hb => ?_
        have r1' := r1.grow g hb
        have hv' := hv.grow g
        obtain ⟨fp2, r2, x2⟩ := setAll_ok hn r1' hv' hf hd (x1.trans (Ext.grow g)) e3
        exact h _ fp2 H2 x2 r2
theorem ds_par2 {i j : Nat} {x y : Str} {a b : Expr} {px py pt : Pos} {kt k2 pt2} {fa fb : M TV} (hc : X.calm = true) (hN : X.N.Nodup) (hi : X.N[i]? = some x) (hj : X.N[j]? = some y) (hij : i ≠ j)
    (hx : X.env.scope.names.lookup x = some .local) (hy : X.env.scope.names.lookup y = some .local) (ha : DAo X W [a, b] [fa, fb])
    (hw : swappedStores [.Tuple [.Name x px, .Name y py] kt pt] (.Tuple [a, b] k2 pt2) X.env = pure (some [x, y]))
    (hs : swapsWithSole [.Tuple [.Name x px, .Name y py] kt pt] (.Tuple [a, b] k2 pt2) pos.line X.env = pure false := by rfl) :
    DS X W nio (.Assign [.Tuple [.Name x px, .Name y py] kt pt] (.Tuple [a, b] k2 pt2) pos) (sPar nio [i, j] [fa, fb]) := by
  obtain ⟨t, pa, s⟩ := ha
  refine .mk ⟨_, ps_par hc hN hi hj hij hx hy pa hw hs, fun E T io env fp σ H D n r h => ?_⟩
  refine sound_par (fun Q h => s E T io env fp σ H Q r h) n r h fun vs ts svs env1 fp1 H1 qs hl e2 r1 hv _ ec k => ?_
  have hlen := cArgs_len ec
  rw [← hl] at hlen
  obtain ⟨v, w, rfl⟩ : ∃ v w, vs = [v, w] := by
    match vs, hlen with
    | [v, w], _ => exact ⟨v, w, rfl⟩
  exact ⟨v, w, rfl, k H1 (fun _ _ e => e) r1.hb⟩
theorem ds_par3 {i j l : Nat} {x y z : Str} {a b c : Expr} {px py pz pt : Pos} {kt k2 pt2} {fa fb fc : M TV} (hc : X.calm = true) (hN : X.N.Nodup) (hi : X.N[i]? = some x) (hj : X.N[j]? = some y) (hl : X.N[l]? = some z) (hij : i ≠ j) (hil : i ≠ l) (hjl : j ≠ l)
    (hx : X.env.scope.names.lookup x = some .local) (hy : X.env.scope.names.lookup y = some .local) (hz : X.env.scope.names.lookup z = some .local) (ha : DAo X W [a, b, c] [fa, fb, fc])
    (hw : swappedStores [.Tuple [.Name x px, .Name y py, .Name z pz] kt pt] (.Tuple [a, b, c] k2 pt2) X.env = pure (some [x, y, z]))
    (hs : swapsWithSole [.Tuple [.Name x px, .Name y py, .Name z pz] kt pt] (.Tuple [a, b, c] k2 pt2) pos.line X.env = pure false := by rfl) :
    DS X W nio (.Assign [.Tuple [.Name x px, .Name y py, .Name z pz] kt pt] (.Tuple [a, b, c] k2 pt2) pos) (sPar nio [i, j, l] [fa, fb, fc]) := by
  obtain ⟨t, pa, s⟩ := ha
  refine .mk ⟨_, ps_par3 hc hN hi hj hl hij hil hjl hx hy hz pa hw hs, fun E T io env fp σ H D n r h => ?_⟩
  refine sound_par (fun Q h => s E T io env fp σ H Q r h) n r h fun vs ts svs env1 fp1 H1 qs hl e2 r1 hv _ ec k => ?_
  have hlen := cArgs_len ec
  rw [← hl] at hlen
  obtain ⟨u, v, w, rfl⟩ : ∃ u v w, vs = [u, v, w] := by
    match vs, hlen with
    | [u, v, w], _ => exact ⟨u, v, w, rfl⟩
  exact ⟨u, v, w, rfl, k H1 (fun _ _ e => e) r1.hb⟩
/-- plain names as targets -/
def gNames (is : List Nat) : TGs := fun vs σ H Q => vs.length = is.length ∧ Q (stAll is vs σ) H
theorem pgs_n0 : PGs X [] (gNames []) := ⟨fun pins s σ H vs us Q I rv h => by
  obtain ⟨hl, h⟩ := h
  cases vs with
  | nil => exact pgs_nil.run pins s σ H [] us Q I rv ⟨rfl, h⟩
  | cons _ _ => cases hl⟩
theorem pgs_n {e : Expr} {es : List Expr} {i : Nat} {is : List Nat} (h1 : PG X e (gName i)) (h2 : PGs X es (gNames is)) (hs : (assignEach (e :: es) X.env).map (·.2) = assign e X.env :: (assignEach es X.env).map (·.2) := by rfl) : PGs X (e :: es) (gNames (i :: is)) := ⟨fun pins s σ H vs us Q I rv h => by
  obtain ⟨hl, h⟩ := h
  cases vs with
  | nil => cases hl
  | cons v vs => exact (pgs_cons h1 h2 hs).run pins s σ H (v :: vs) us Q I rv ⟨v, vs, rfl, by simpa using hl, h⟩⟩
theorem ds_parN {ts : List Expr} {pt : Pos} {kt k2 pt2} {is : List Nat} (hc : X.calm = true) (hg : PGs X ts (gNames is)) (ha : DAo X W es fs) (hlen : fs.length = is.length) (hsz : fs.length ≤ 1000 := by decide)
    (hn : (assignEach ts X.env).length = is.length := by rfl) (hst : (assignEach ts X.env).findIdx? (·.1) = none := by rfl)
    (hs : swapsWithSole [.Tuple ts kt pt] (.Tuple es k2 pt2) pos.line X.env = pure false := by rfl) (hw : swappedStores [.Tuple ts kt pt] (.Tuple es k2 pt2) X.env = pure none := by rfl)
    (h1 : (assignEach [.Tuple ts kt pt] X.env).map (·.2) = [assign (.Tuple ts kt pt) X.env] := by rfl) :
    DS X W nio (.Assign [.Tuple ts kt pt] (.Tuple es k2 pt2) pos) (sPar nio is fs) := by
  obtain ⟨t, pa, s⟩ := ha
  refine .mk ⟨_, ps_asg (peHB (pe_tup pa)) (pg_tup hc hg hn hst) hs hw h1, fun E T io env fp σ H D n r h => ?_⟩
  refine sound_par (fun Q h => s E T io env fp σ H Q r h) n r h fun vs ts svs env1 fp1 H1 qs hl e2 r1 hv _ ec k => ?_
  have hlv := cArgs_len ec
  rw [← hl] at hlv
  refine ⟨by rw [hlv]; exact line1000 hsz, fun q hq hb => ⟨q, vs, rfl, .inl (.inl upd_same), by rw [hlv, hlen], by rw [hlv, hlen], k _ (grow_upd hq) hb⟩⟩
end
end VL
namespace VL
open PySem PySem.Spec PyProof.Rows L2
variable [tt : TabList]

/-! ### targets that may change the heap -/
def cGx (B : Bas) (nio : Bool) (g : D → Env → Option Env) : TG := fun v σ H Q => ∃ E T io env fp d env', NioOk nio io ∧ R B E T io fp env σ H ∧ Rep B H (avOf T fp) v d ∧ g d env = some env' ∧
  ∀ σ' fp' H', R B E T io fp' env' σ' H' → Ext env fp H env' fp' H' → Q σ' H'
def DGx (X : Cx) (nio : Bool) (tg : Expr) (g : D → Env → Option Env) : Prop := PG X tg (cGx (bas X) nio g)
def cGxs (B : Bas) (nio : Bool) (g : List D → Env → Option Env) : TGs := fun vs σ H Q => ∃ E T io env fp ds env', NioOk nio io ∧ R B E T io fp env σ H ∧ Reps B H (avOf T fp) vs ds ∧ g ds env = some env' ∧
  ∀ σ' fp' H', R B E T io fp' env' σ' H' → Ext env fp H env' fp' H' → Q σ' H'
def DGxs (X : Cx) (nio : Bool) (tg : List Expr) (g : List D → Env → Option Env) : Prop := PGs X tg (cGxs (bas X) nio g)
section
variable {X : Cx} {W : WX} {nio : Bool} {pos : Pos}
theorem dgx_of {tv : List Nat} {tg : Expr} {g : D → Env → Option Env} (h : DG X nio tv tg g) : DGx X nio tg g := ⟨fun pins s σ H v u Q I rv ⟨E, T, io, env, fp, d, env', hn, r, p, e, k⟩ =>
  h.run pins s σ H v u Q I rv ⟨E, T, io, env, fp, d, env', hn, r, p, e, fun σ' fp' _ r' x' => k σ' fp' H r' x'⟩⟩
theorem dgxs_nil : DGxs X nio [] gNil' := by
  refine ⟨fun pins s σ H vs us Q I rv h' => ?_⟩
  obtain ⟨E, T, io, env, fp, ds, env', hn, r, p, e, k⟩ := h'
  cases p with
  | nil =>
    have e' : env = env' := Option.some.inj e
    subst e'
    exact pgs_nil.run pins s σ H [] us Q I rv ⟨rfl, k σ fp H r Ext.refl⟩
  | cons _ _ => cases e
theorem dgxs_cons {e : Expr} {es : List Expr} {g : D → Env → Option Env} {gs : List D → Env → Option Env} (h1 : DGx X nio e g) (h2 : DGxs X nio es gs)
    (hs : (assignEach (e :: es) X.env).map (·.2) = assign e X.env :: (assignEach es X.env).map (·.2) := by rfl) : DGxs X nio (e :: es) (gCons' g gs) := by
  refine ⟨fun pins s σ H vs us Q I rv h' => ?_⟩
  obtain ⟨E, T, io, env, fp, ds, env', hn, r, p, e, k⟩ := h'
  cases p with
  | nil => cases e
  | @cons v vs d ds p1 p2 =>
    cases e1 : g d env with
    | none => rw [show gCons' g gs (d :: ds) env = (g d env).bind (gs ds) from rfl, e1] at e; cases e
    | some env1 =>
      rw [show gCons' g gs (d :: ds) env = (g d env).bind (gs ds) from rfl, e1] at e
      refine (pgs_cons h1 h2 hs).run pins s σ H (v :: vs) us Q I rv ⟨v, vs, rfl, ?_⟩
      refine ⟨E, T, io, env, fp, d, env1, hn, r, p1, e1, fun σ1 fp1 H1 r1 x1 => ?_⟩
      exact ⟨E, T, io, env1, fp1, ds, env', hn, r1, x1.reps p2, e, fun σ2 fp2 H2 r2 x2 => k σ2 fp2 H2 r2 (x1.trans x2)⟩
theorem dgx_tup {es : List Expr} {k : Nat} {gs : List D → Env → Option Env} {n : Nat} (hc : X.calm = true) (h : DGxs X nio es gs) (hgl : ∀ ds env env', gs ds env = some env' → ds.length = n)
    (hn : (assignEach es X.env).length = n := by rfl) (hst : (assignEach es X.env).findIdx? (·.1) = none := by rfl) : DGx X nio (.Tuple es k pos) (gTup' gs) := by
  refine ⟨fun pins s σ H v u Q I rv h' => ?_⟩
  obtain ⟨E, T, io, env, fp, d, env', hno, r, p, e, kk⟩ := h'
  cases d with
  | tup ds =>
    have e : gs ds env = some env' := e
    cases p with
    | tup q1 _ q2 => exact (pg_tup hc h hn hst).run pins s σ H _ u Q I rv ⟨_, _, rfl, .inl (.inl q1), by rw [q2.length]; exact hgl _ _ _ e, E, T, io, env, fp, ds, env', hno, r, q2, e, kk⟩
  | _ => cases e
theorem ds_asgx {tg e : Expr} {fe : M TV} {gd : D → Env → Option Env} (he : DE X W e fe) (hg : DGx X nio tg gd) (hs : swapsWithSole [tg] e pos.line X.env = pure false := by rfl) (hw : swappedStores [tg] e X.env = pure none := by rfl)
    (h1 : (assignEach [tg] X.env).map (·.2) = [assign tg X.env] := by rfl) : DS X W nio (.Assign [tg] e pos) (sAsg gd fe) := by
  obtain ⟨t, p, s⟩ := he.out
  refine .mk ⟨_, ps_asg p hg hs hw h1, fun E T io env fp σ H D n r h => ?_⟩
  refine okes_bind (f := fe) (s E T io env fp σ H _ r) h fun tv env1 v fp1 H1 x1 r1 h1 k => ?_
  cases e1 : frzV tv with
  | none => simp only [e1] at k; exact k.elim
  | some d =>
    simp only [e1] at k
    cases e2 : gd d env1 with
    | none => simp only [e2] at k; exact k.elim
    | some env2 =>
      simp only [e2] at k
      exact ⟨E, T, io, env1, fp1, d, env2, n, r1, frzV_rep h1 e1, e2, fun σ' fp' H' r' x' => k σ' fp' H' x' r'⟩

/-! ### o[i] = v, o an owned list or dict -/
/-- what is stored where -/
def putIx : Kd → D → D → D → Option D
  | .l, .lst ds, .int k, d => match ixN ds.length k with
    | some j => some (.lst (ds.set j d))
    | none => none
  | .dk, .dct ks vs, k, d => match kOf k with
    | some q => if ks.length < sizeLine then some (.dct (if dHas ks (.inl q) then ks else ks ++ [.inl q]) (if dHas ks (.inl q) then (ks.zip vs).map (fun p => if p.1 = .inl q then d else p.2) else vs ++ [d])) else none
    | none => none
  | .dt, .dct ks vs, .tup qs, d => match ksOf qs with
    | some q => if ks.length < sizeLine then some (.dct (if dHas ks (.inr q) then ks else ks ++ [.inr q]) (if dHas ks (.inr q) then (ks.zip vs).map (fun p => if p.1 = .inr q then d else p.2) else vs ++ [d])) else none
    | none => none
  | _, _, _, _ => none
def isOw : Option SV → Bool
  | some (.ow _ _) => true
  | _ => false
def gIx (s : Nat) (fi : M TV) : D → Env → Option Env := fun d env => if isOw env[s]? then match fi env with
  | .ok t env1 => match env1[s]?, getV env1 t with
    | some (.ow κ o), some i => match putIx κ o i d with
      | some o' => some (env1.set s (.ow κ o'))
      | none => none
    | _, _ => none
  | _ => none
  else none
def rSetA : TSet := fun o i v H Q => rSetL o i v H Q ∨ rSetD o i v H Q
theorem set_A {k : Nat} (hr : Room k X.A) : PSet X rSetA := by
  intro pins s σ H o i v ov iv u Q I ro ri rv h
  rcases h with h | h
  · exact set_list pins s σ H o i v ov iv u Q I ro ri rv h
  · exact set_dict (by have := hr.un; omega) pins s σ H o i v ov iv u Q I ro ri rv h
end
section
variable {B : Bas} {H : Hp} {av : Addr → Prop}
theorem put_gen {κ : Type} [DecidableEq κ] (f : κ → DK) (hf : ∀ a b, f a = f b → a = b) {kvs : List (κ × V)} {ds : List D} (k : κ) {v : V} {d : D} (r : Reps B H av (kvs.map (·.2)) ds) (p : Rep B H av v d) :
    (putK kvs k v).map (fun p => f p.1) = (if dHas (kvs.map fun p => f p.1) (f k) then kvs.map (fun p => f p.1) else (kvs.map fun p => f p.1) ++ [f k]) ∧
    Reps B H av ((putK kvs k v).map (·.2)) (if dHas (kvs.map fun p => f p.1) (f k) then ((kvs.map fun p => f p.1).zip ds).map (fun p => if p.1 = f k then d else p.2) else ds ++ [d]) := by
  have hh : dHas (kvs.map fun p => f p.1) (f k) = kvs.any (fun kv => decide (kv.1 = k)) := by
    unfold dHas
    rw [List.any_map]
    congr 1
    funext p
    exact decide_eq_decide.mpr ⟨hf _ _, fun e => by show f p.1 = f k; rw [e]⟩
  unfold putK
  rw [hh]
  by_cases h : (kvs.any fun kv => decide (kv.1 = k)) = true
  · simp only [h, if_true]
    refine ⟨?_, ?_⟩
    · rw [List.map_map]
      apply List.map_congr_left
      intro q _
      show f (if q.1 = k then (q.1, v) else q).1 = f q.1
      split <;> rfl
    · clear h hh
      induction kvs generalizing ds with
      | nil => cases r; exact .nil
      | cons q kvs ih =>
        cases r with
        | @cons _ _ d1 ds h1 h2 =>
          simp only [List.map_cons, List.zip_cons_cons]
          refine .cons ?_ (ih h2)
          by_cases e : q.1 = k
          · have e' : f q.1 = f k := by rw [e]
            simp only [e, e', if_true]; exact p
          · have e' : ¬ f q.1 = f k := fun z => e (hf _ _ z)
            simp only [e, e', if_false]; exact h1
  · simp only [h, Bool.false_eq_true, if_false]
    refine ⟨by rw [List.map_append]; rfl, ?_⟩
    rw [List.map_append]
    exact r.append (.cons p .nil)
theorem len_keys {κ : Type} {f : κ → DK} {kvs : List (κ × V)} : (kvs.map fun p => f p.1).length = kvs.length := List.length_map _
theorem hb_set {a : Addr} {vs ws : List V} (hb : HB H) (e : H a = some (.lst vs)) (hl : ws.length ≤ sizeLine) : HB (upd H a (.lst ws)) := fun b zs e => by
  by_cases hh : b = a
  · subst hh
    rcases e with (e | ⟨o, e⟩) | (e | ⟨o, e⟩) <;> rw [upd_same] at e <;> cases e
    exact hl
  · refine hb b zs ?_
    rcases e with (e | ⟨o, e⟩) | (e | ⟨o, e⟩) <;> rw [upd_ne hh] at e
    · exact .inl (.inl e)
    · exact .inl (.inr ⟨o, e⟩)
    · exact .inr (.inl e)
    · exact .inr (.inr ⟨o, e⟩)
theorem hb_dct {a : Addr} {ob : HO} (hb : HB H) (h1 : ∀ xs, ob ≠ .lst xs ∧ ob ≠ .tup xs) (h2 : ∀ o u, ob ≠ .frz o u) : HB (upd H a ob) := fun b zs e => by
  by_cases hh : b = a
  · subst hh
    exfalso
    rcases e with (e | ⟨o, e⟩) | (e | ⟨o, e⟩) <;> rw [upd_same] at e <;> have e := Option.some.inj e
    · exact (h1 _).1 e
    · exact h2 _ _ e
    · exact (h1 _).2 e
    · exact h2 _ _ e
  · refine hb b zs ?_
    rcases e with (e | ⟨o, e⟩) | (e | ⟨o, e⟩) <;> rw [upd_ne hh] at e
    · exact .inl (.inl e)
    · exact .inl (.inr ⟨o, e⟩)
    · exact .inr (.inl e)
    · exact .inr (.inr ⟨o, e⟩)
/-- the store, by values -/
theorem putIx_ok {κ : Kd} {o i d o' : D} {ov iv v : V} {q : Addr → Prop} (hq : ∀ a, q a → av a) (own : Own B H av κ ov o q) (ri : Rep1 B H av iv i) (p : Rep B H av v d) (e : putIx κ o i d = some o') {Q : Hp → Prop} (hb : HB H)
    (h : ∀ H', Mutd B q H H' → HB H' → Own B H' av κ ov o' q → Q H') : rSetA ov iv v H Q := by
  cases κ with
  | l =>
    obtain ⟨a, vs, ds, rfl, rfl, ea, rs, rfl⟩ := own
    cases i with
    | int k =>
      simp only [putIx] at e
      cases e1 : ixN ds.length k with
      | none => rw [e1] at e; cases e
      | some j =>
        rw [e1] at e; cases e
        rw [rep1_int ri]
        exact .inl ⟨a, vs, k, j, rfl, rfl, ea, by rw [rs.length]; exact e1, h _ (Mutd.upd ea trivial) (hb_set hb ea (by rw [List.length_set]; exact hb a vs (.inl (.inl ea)))) (own_upd (hq a rfl) ea (Reps.set p j rs))⟩
    | _ => cases e
  | dk =>
    obtain ⟨a, kvs, ds, rfl, rfl, ea, rs, rfl⟩ := own
    have e : (match kOf i with
      | some q => if (kvs.map fun p => (Sum.inl p.1 : DK)).length < sizeLine then some (D.dct (if dHas (kvs.map fun p => (Sum.inl p.1 : DK)) (.inl q) then kvs.map (fun p => (Sum.inl p.1 : DK)) else (kvs.map fun p => (Sum.inl p.1 : DK)) ++ [.inl q]) (if dHas (kvs.map fun p => (Sum.inl p.1 : DK)) (.inl q) then ((kvs.map fun p => (Sum.inl p.1 : DK)).zip ds).map (fun p => if p.1 = .inl q then d else p.2) else ds ++ [d])) else none
      | none => none) = some o' := e
    cases e1 : kOf i with
    | none => rw [e1] at e; cases e
    | some k =>
      rw [e1] at e
      simp only at e
      split at e
      · rename_i hl
        cases e
        have ev : iv = kV k := by
          cases ri with
          | int z => cases e1; rfl
          | str z => cases e1; rfl
          | _ => cases e1
        subst ev
        rw [List.length_map] at hl
        obtain ⟨g1, g2⟩ := put_gen (fun p : Key => (Sum.inl p : DK)) inl_inj k rs p
        refine .inr ⟨a, _, rfl, .inl ⟨kvs, k, ea, rfl, hl, rfl⟩, h _ (Mutd.upd ea trivial) (hb_dct hb (fun xs => ⟨fun z => (nomatch z), fun z => (nomatch z)⟩) (fun o u z => (nomatch z))) ⟨a, putK kvs k v, _, rfl, ?_, upd_same, g2.mono (fun b o _ e n => by rw [upd_ne fun z => n (by rw [z]; exact hq a rfl)]; exact e) (fun _ z => .inl z), rfl⟩⟩
        rw [g1]
      · cases e
  | dt =>
    obtain ⟨a, kvs, ds, rfl, rfl, ea, rs, rfl⟩ := own
    cases i with
    | tup es =>
      have e : (match ksOf es with
        | some q => if (kvs.map fun p => (Sum.inr p.1 : DK)).length < sizeLine then some (D.dct (if dHas (kvs.map fun p => (Sum.inr p.1 : DK)) (.inr q) then kvs.map (fun p => (Sum.inr p.1 : DK)) else (kvs.map fun p => (Sum.inr p.1 : DK)) ++ [.inr q]) (if dHas (kvs.map fun p => (Sum.inr p.1 : DK)) (.inr q) then ((kvs.map fun p => (Sum.inr p.1 : DK)).zip ds).map (fun p => if p.1 = .inr q then d else p.2) else ds ++ [d])) else none
        | none => none) = some o' := e
      cases e1 : ksOf es with
      | none => rw [e1] at e; cases e
      | some k =>
        rw [e1] at e
        simp only at e
        split at e
        · rename_i hl
          cases e
          obtain ⟨b, ws, rfl, hbt, ss⟩ := rep1_tup ri
          rw [ksOf_reps ss e1] at hbt
          rw [List.length_map] at hl
          obtain ⟨g1, g2⟩ := put_gen (fun p : List Key => (Sum.inr p : DK)) inr_inj k rs p
          refine .inr ⟨a, _, rfl, .inr ⟨kvs, k, b, ea, rfl, hbt, hl, rfl⟩, h _ (Mutd.upd ea trivial) (hb_dct hb (fun xs => ⟨fun z => (nomatch z), fun z => (nomatch z)⟩) (fun o u z => (nomatch z))) ⟨a, putK kvs k v, _, rfl, ?_, upd_same, g2.mono (fun b o _ e n => by rw [upd_ne fun z => n (by rw [z]; exact hq a rfl)]; exact e) (fun _ z => .inl z), rfl⟩⟩
          rw [g1]
        · cases e
    | _ => cases e
  | l2 => cases o <;> cases i <;> cases e
  | m => cases o <;> cases i <;> cases e
end
section
variable {X : Cx} {nio : Bool} {pos : Pos}
theorem dgx_sub {k s : Nat} {o ie : Expr} {fi : M TV} (hr : Room k X.A) (ho : PE X o (tVar s)) (hi : DE X W0 ie fi) (ha : ∀ v, assign (.Subscript o ie pos) X.env v = (do
      let ov ← holding [v] (eval o X.env)
      let iv ← holding [v, ov] (eval ie X.env)
      standAt pos
      holding [v, ov, iv] (setItem ov iv v)
      release [v, ov, iv] []) := by intro _; rfl) : DGx X nio (.Subscript o ie pos) (gIx s fi) := by
  obtain ⟨ti, pi, si⟩ := hi.out
  refine ⟨fun pins sh σ H v u Q I rv ⟨E, T, io, env, fp, d, env', hn, r, p, e, kk⟩ => (pg_sub ho pi (set_A hr) ha).run pins sh σ H v u Q I rv ?_⟩
  show tVar s σ H fun ov H1 => ti σ H1 fun iv H2 => rSetA ov iv v H2 fun H3 => Q σ H3
  unfold gIx at e
  split at e
  · rename_i hw
    obtain ⟨v0, ev0⟩ : ∃ v0, σ[s]? = some (some v0) := by
      cases q : env[s]? with
      | none => rw [q] at hw; cases hw
      | some sv =>
        cases sv with
        | ow κ o' => obtain ⟨v0, h, _⟩ := slot_own r q; exact ⟨v0, h⟩
        | no => rw [q] at hw; cases hw
        | fz _ => rw [q] at hw; cases hw
        | lk _ _ => rw [q] at hw; cases hw
    refine ⟨v0, ev0, si E T io env fp σ H _ r ?_⟩
    cases e1 : fi env with
    | stuck => rw [e1] at e; cases e
    | ex _ _ => rw [e1] at e; cases e
    | ok t env1 =>
      rw [e1] at e
      refine oke_hold fun iv fp1 H1 x1 r1 h1 => ?_
      simp only at e
      cases e2 : env1[s]? with
      | none => simp only [e2] at e; cases e
      | some sv =>
        cases sv with
        | no => simp only [e2] at e; cases e
        | fz _ => simp only [e2] at e; cases e
        | lk _ _ => simp only [e2] at e; cases e
        | ow κ o' =>
          cases e3 : getV env1 t with
          | none => simp only [e2, e3] at e; cases e
          | some i =>
            simp only [e2, e3] at e
            cases e4 : putIx κ o' i d with
            | none => simp only [e4] at e; cases e
            | some o2 =>
              simp only [e4] at e
              cases e
              obtain ⟨v', ev', own⟩ := slot_own r1 e2
              rw [ev0] at ev'; cases ev'
              exact putIx_ok (fun a z => .inr ⟨s, z⟩) own (h1.get r1 e3) (x1.rep p) e4 r1.hb fun H' m hb' own' => by
                obtain ⟨r2, x2⟩ := r1.mut e2 ev0 m hb' own'
                exact kk σ fp1 H' r2 (x1.trans x2)
  · cases e
end
end VL
namespace VL
open PySem PySem.Spec PyProof.Rows L2
variable [tt : TabList]

/-! ### lists of owned lists -/
def cIx2 (s : Nat) (fi fj : M TV) : M TV := fun env => if isOw env[s]? then (fi env).bindN fun t env1 => match env1[s]?, getV env1 t with
    | some (.ow .l2 (.lst rows)), some (.int i) => match atI rows i with
      | some (.lst row) => (fj (env1.set s (.lk .l2 (.lst rows)))).bindN fun u env2 => match getV env2 u with
        | some (.int j) => match atI row j with
          | some d => .ok (.fz d) (lockE (some s) env2)
          | none => .stuck
        | _ => .stuck
      | _ => .stuck
    | _, _ => .stuck
  else .stuck
/-- rows[i][j] = d, the rows -/
def put2 (rows : List D) (i j : Int) (d : D) : Option (List D) := match ixN rows.length i with
  | some k => match rows[k]? with
    | some (.lst row) => match ixN row.length j with
      | some l => some (rows.set k (.lst (row.set l d)))
      | none => none
    | _ => none
  | none => none
def gIx2 (s : Nat) (fi fj : M TV) : D → Env → Option Env := fun d env => if isOw env[s]? then match fi env with
  | .ok t env1 => match env1[s]?, getV env1 t with
    | some (.ow .l2 (.lst rows)), some (.int i) => match fj (env1.set s (.lk .l2 (.lst rows))) with
      | .ok u env2 => match env2[s]?, getV env2 u with
        | some (.lk .l2 (.lst rows')), some (.int j) => if rows'.length = rows.length then match put2 rows' i j d with
            | some rows2 => some (env2.set s (.ow .l2 (.lst rows2)))
            | none => none
          else none
        | _, _ => none
      | _ => none
    | _, _ => none
  | _ => none
  else none
section
variable {B : Bas} {E T : Addr → Prop} {io : Option V} {env env1 : Env} {fp fp1 : Nat → Addr → Prop} {σ : L2.St} {H H1 : Hp} {av : Addr → Prop}
theorem isOw_val {s : Nat} (r : R B E T io fp env σ H) (h : isOw env[s]? = true) : (∃ v, σ[s]? = some (some v)) ∧ ¬ Lk env s := by
  cases q : env[s]? with
  | none => rw [q] at h; cases h
  | some sv =>
    cases sv with
    | ow κ o => exact ⟨let ⟨v, e, _⟩ := slot_own r q; ⟨v, e⟩, unlk q (fun _ _ z => nomatch z)⟩
    | no => rw [q] at h; cases h
    | fz _ => rw [q] at h; cases h
    | lk _ _ => rw [q] at h; cases h
theorem own_l2 {v : V} {rows : List D} {q : Addr → Prop} (h : Own B H av .l2 v (.lst rows) q) : ∃ (a : Addr) (rs : List Addr), v = .ref a ∧ H a = some (.lst (rs.map V.ref)) ∧ rs.length = rows.length ∧ (a :: rs).Nodup ∧
    (∀ (i : Nat) (r : Addr) (d : D), rs[i]? = some r → rows[i]? = some d → ∃ es ws, d = .lst es ∧ H r = some (.lst ws) ∧ Reps B H av ws es) ∧ q = (fun b => b = a ∨ b ∈ rs) ∧ ∃ ds : List (List D), rows = ds.map D.lst := by
  obtain ⟨a, rs, ds, rfl, e, ha, hl, hn, hr, rfl⟩ := h
  cases e
  refine ⟨a, rs, rfl, ha, by rw [hl, List.length_map], hn, fun i r d h1 h2 => ?_, rfl, ds, rfl⟩
  rw [List.getElem?_map] at h2
  cases q : ds[i]? with
  | none => rw [q] at h2; cases h2
  | some es =>
    rw [q] at h2; cases h2
    obtain ⟨ws, a1, a2⟩ := hr i r es h1 q
    exact ⟨es, ws, rfl, a1, a2⟩
theorem atI_ix {α : Type} {xs : List α} {i : Int} {x : α} (h : atI xs i = some x) : ∃ k, ixN xs.length i = some k ∧ xs[k]? = some x := by
  unfold atI at h
  cases e : ixN xs.length i with
  | none => rw [e] at h; cases h
  | some k => rw [e] at h; exact ⟨k, rfl, h⟩
theorem ix_atI {α : Type} {xs : List α} {i : Int} {k n : Nat} {x : α} (h : ixN n i = some k) (hl : xs.length = n) (h2 : xs[k]? = some x) : atI xs i = some x := by
  unfold atI; rw [hl, h]; exact h2
end
section
variable {X : Cx} {W : WX} {o ie je : Expr} {fi fj : M TV} {pos pos2 : Pos} {s : Nat}
theorem de_ix2 {k : Nat} (hr : Room k X.A) (ho : PE X o (tVar s)) (hi : DE X W0 ie fi) (hj : DE X W0 je fj) (hp1 : PlainIx ie) (hp2 : PlainIx je) : DE X W (.Subscript (.Subscript o ie pos2) je pos) (cIx2 s fi fj) := by
  obtain ⟨ti, pi, si⟩ := hi.out
  obtain ⟨tj, pj, sj⟩ := hj.out
  refine .mk ⟨_, pe_ix (ix_A hr) (pe_ix (ix_A hr) ho pi hp1) pj hp2, fun E T io env fp σ H Q R0 h => ?_⟩
  unfold cIx2 at h
  split at h
  · rename_i hw
    obtain ⟨⟨v0, ev0⟩, nl⟩ := isOw_val R0 hw
    refine ⟨v0, ev0, si E T io env fp σ H _ R0 ?_⟩
    cases e1 : fi env with
    | stuck => rw [e1] at h; exact h.elim
    | ex _ _ => rw [e1] at h; exact h.elim
    | ok t env1 =>
      rw [e1] at h
      simp only [Res.bindN] at h
      refine oke_hold fun iv fp1 H1 x1 r1 h1 => ?_
      split at h
      · rename_i rows i e2 e3
        obtain ⟨v', ev', own⟩ := slot_own r1 e2
        rw [ev0] at ev'; cases ev'
        obtain ⟨a, rs, rfl, ha, hl, hn, hrow, hf, _⟩ := own_l2 own
        rw [rep1_int (h1.get r1 e3)]
        split at h
        · rename_i row e4
          obtain ⟨kk, k1, k2⟩ := atI_ix e4
          have hk : kk < rs.length := by rw [hl]; exact (List.getElem?_eq_some_iff.mp k2).1
          obtain ⟨es, ws, e5, hrs, rws⟩ := hrow kk rs[kk] _ (List.getElem?_eq_getElem hk) k2
          cases e5
          refine .inl (.inl ⟨a, _, i, .ref rs[kk], rfl, rfl, .inl (.inl ha), ix_atI k1 (by rw [List.length_map, hl]) (by rw [List.getElem?_map, List.getElem?_eq_getElem hk]; rfl), ?_⟩)
          obtain ⟨r2, x2⟩ := r1.lock e2
          have hi := (List.getElem?_eq_some_iff.mp e2).1
          refine sj E T io _ fp1 σ H1 _ r2 ?_
          cases e6 : fj (env1.set s (.lk .l2 (.lst rows))) with
          | stuck => rw [e6] at h; exact h.elim
          | ex _ _ => rw [e6] at h; exact h.elim
          | ok u env2 =>
            rw [e6] at h
            simp only at h
            refine oke_hold fun jv fp2 H2 x3 r3 h3 => ?_
            split at h
            · rename_i j e7
              rw [rep1_int (h3.get r3 e7)]
              split at h
              · rename_i d e8
                have hrow2 : H2 rs[kk] = some (.lst ws) := x3.chg _ _ (nt_of rfl) hrs fun i' z => by
                  have : i' = s := r1.dis i' s _ z (by rw [hf]; exact .inr (List.getElem_mem hk))
                  subst this
                  exact ⟨.l2, .lst rows, List.getElem?_set_self hi⟩
                obtain ⟨v, ev, p⟩ := atI_reps (x3.reps rws) e8
                refine .inl (.inl ⟨_, _, j, v, rfl, rfl, .inl (.inl hrow2), ev, ?_⟩)
                exact h v fp2 H2 (((x1.trans x2).trans x3).unlock fun i e => by cases e; exact nl) (r3.unlock (lk := some s)) p
              · exact h.elim
            · exact h.elim
        · exact h.elim
      · exact h.elim
  · exact h.elim
/-- a row is written -/
theorem put2_ok {B : Bas} {H : Hp} {av : Addr → Prop} {a : Addr} {rows rows2 : List D} {i j : Int} {d : D} {v : V} {q : Addr → Prop} (hq : ∀ a, q a → av a) (own : Own B H av .l2 (.ref a) (.lst rows) q) (p : Rep B H av v d) (e : put2 rows i j d = some rows2) {r : Addr} {ks : List V} (ha : H a = some (.lst ks)) (hr : atI ks i = some (.ref r)) {Q : Hp → Prop} (hb : HB H)
    (h : ∀ H', Mutd B q H H' → HB H' → Own B H' av .l2 (.ref a) (.lst rows2) q → Q H') : rSetA (.ref r) (.int j) v H Q := by
  obtain ⟨a', rs, e0, ha', hl, hn, hrow, rfl, ds, rfl⟩ := own_l2 own
  cases e0
  rw [ha] at ha'
  cases ha'
  unfold put2 at e
  cases e1 : ixN (ds.map D.lst).length i with
  | none => rw [e1] at e; cases e
  | some k =>
    rw [e1] at e
    simp only at e
    cases e2 : (ds.map D.lst)[k]? with
    | none => rw [e2] at e; cases e
    | some row =>
      have hk : k < rs.length := by rw [hl]; exact (List.getElem?_eq_some_iff.mp e2).1
      obtain ⟨es, ws, rfl, hrs, rws⟩ := hrow k rs[k] _ (List.getElem?_eq_getElem hk) e2
      rw [e2] at e
      simp only at e
      have er : r = rs[k] := by
        have := ix_atI (xs := rs.map V.ref) (x := .ref rs[k]) e1 (by rw [List.length_map, hl]) (by rw [List.getElem?_map, List.getElem?_eq_getElem hk]; rfl)
        rw [this] at hr
        cases hr; rfl
      subst er
      cases e3 : ixN es.length j with
      | none => rw [e3] at e; cases e
      | some l =>
        rw [e3] at e; cases e
        have hmem : rs[k] ∈ rs := List.getElem_mem hk
        have hne : a ≠ rs[k] := fun z => (List.nodup_cons.mp hn).1 (by rw [z]; exact hmem)
        have e2' : ds[k]? = some es := by
          rw [List.getElem?_map] at e2
          cases q : ds[k]? with
          | none => rw [q] at e2; cases e2
          | some z => rw [q] at e2; cases e2; rfl
        have kp : ∀ b o, H b = some o → ¬ av b → upd H rs[k] (.lst (ws.set l v)) b = some o := fun b o eb nb => by rw [upd_ne fun z => nb (by rw [z]; exact hq _ (.inr hmem))]; exact eb
        refine .inl ⟨rs[k], ws, j, l, rfl, rfl, hrs, by rw [rws.length]; exact e3, h _ ⟨fun b o eb nb => by rw [upd_ne fun z => nb (by rw [z]; exact .inr hmem)]; exact eb, (Mutd.upd (B := B) (o' := .lst (ws.set l v)) hrs trivial).typ, (Mutd.upd (B := B) (o' := .lst (ws.set l v)) hrs trivial).dom⟩ (hb_set hb hrs (by rw [List.length_set]; exact hb _ ws (.inl (.inl hrs)))) ⟨a, rs, ds.set k (es.set l d), rfl, by rw [List.map_set], by rw [upd_ne hne]; exact ha, by rw [List.length_set, ← List.length_map (f := D.lst)]; exact hl, hn, fun m r' es' h1 h2 => ?_, rfl⟩⟩
        by_cases hm : m = k
        · subst hm
          rw [List.getElem?_eq_getElem hk] at h1; cases h1
          have hkd : m < ds.length := (List.getElem?_eq_some_iff.mp e2').1
          rw [List.getElem?_set_self hkd] at h2; cases h2
          exact ⟨_, upd_same, (Reps.set p l rws).mono (fun b o _ e n => kp b o e n) fun _ z => .inl z⟩
        · rw [List.getElem?_set_ne (Ne.symm hm)] at h2
          obtain ⟨es2, ws2, c1, c2, c3⟩ := hrow m r' (.lst es') h1 (by rw [List.getElem?_map, h2]; rfl)
          cases c1
          have hne2 : r' ≠ rs[k] := fun z => by
            obtain ⟨hm1, hm2⟩ := List.getElem?_eq_some_iff.mp h1
            have hn' := (List.nodup_cons.mp hn).2
            exact hm ((List.getElem_inj hn').mp (hm2.trans z))
          exact ⟨ws2, by rw [upd_ne hne2]; exact c2, c3.mono (fun b o _ e n => kp b o e n) fun _ z => .inl z⟩
theorem dgx_ix2 {nio : Bool} {k : Nat} (hr : Room k X.A) (ho : PE X o (tVar s)) (hi : DE X W0 ie fi) (hj : DE X W0 je fj) (hp1 : PlainIx ie) (ha : ∀ v, assign (.Subscript (.Subscript o ie pos2) je pos) X.env v = (do
      let ov ← holding [v] (eval (.Subscript o ie pos2) X.env)
      let iv ← holding [v, ov] (eval je X.env)
      standAt pos
      holding [v, ov, iv] (setItem ov iv v)
      release [v, ov, iv] []) := by intro _; rfl) : DGx X nio (.Subscript (.Subscript o ie pos2) je pos) (gIx2 s fi fj) := by
  obtain ⟨ti, pi, si⟩ := hi.out
  obtain ⟨tj, pj, sj⟩ := hj.out
  refine ⟨fun pins sh σ H v u Q I rv ⟨E, T, io, env, fp, d, env', hn, r, p, e, kk⟩ => (pg_sub (pe_ix (ix_A hr) ho pi hp1) pj (set_A hr) ha).run pins sh σ H v u Q I rv ?_⟩
  show tVar s σ H fun ov H1 => ti σ H1 fun iv H2 => rIxA X.K ov iv H2 fun rv H3 => tj σ H3 fun jv H4 => rSetA rv jv v H4 fun H5 => Q σ H5
  unfold gIx2 at e
  split at e
  · rename_i hw
    obtain ⟨⟨v0, ev0⟩, nl⟩ := isOw_val r hw
    refine ⟨v0, ev0, si E T io env fp σ H _ r ?_⟩
    cases e1 : fi env with
    | stuck => rw [e1] at e; cases e
    | ex _ _ => rw [e1] at e; cases e
    | ok t env1 =>
      rw [e1] at e
      refine oke_hold fun iv fp1 H1 x1 r1 h1 => ?_
      simp only at e
      split at e
      · rename_i rows i e2 e3
        obtain ⟨v', ev', own⟩ := slot_own r1 e2
        rw [ev0] at ev'; cases ev'
        obtain ⟨a, rs, rfl, ha1, hl, hnd, hrow, hf, _⟩ := own_l2 own
        rw [rep1_int (h1.get r1 e3)]
        obtain ⟨r2, x2⟩ := r1.lock e2
        have hi := (List.getElem?_eq_some_iff.mp e2).1
        cases e6 : fj (env1.set s (.lk .l2 (.lst rows))) with
        | stuck => rw [e6] at e; cases e
        | ex _ _ => rw [e6] at e; cases e
        | ok u env2 =>
          rw [e6] at e
          simp only at e
          split at e
          · rename_i rows' j e7 e8
            split at e
            · rename_i hlen
              cases e9 : put2 rows' i j d with
              | none => simp only [e9] at e; cases e
              | some rows2 =>
              simp only [e9] at e
              cases e
              -- the row that is meant
              obtain ⟨k, hk⟩ : ∃ k, ixN rows'.length i = some k := by
                unfold put2 at e9
                cases q : ixN rows'.length i with
                | none => rw [q] at e9; cases e9
                | some k => exact ⟨k, rfl⟩
              -- seen from the end: the cell of the rows has stayed
              have fin : ∀ fp2 H2 (x3 : Ext (env1.set s (.lk .l2 (.lst rows))) fp1 H1 env2 fp2 H2) (r3 : R (bas X) E T io fp2 env2 σ H2), H2 a = some (.lst (rs.map V.ref)) ∧ Own (bas X) H2 (avOf T fp2) .l2 (.ref a) (.lst rows') (fp2 s) ∧ rs.length = rows'.length := fun fp2 H2 x3 r3 => by
                have ha2 : H2 a = some (.lst (rs.map V.ref)) := x3.chg _ _ (nt_of rfl) ha1 fun i' z => by
                  have : i' = s := r1.dis i' s _ z (by rw [hf]; exact .inl rfl)
                  subst this
                  exact ⟨.l2, .lst rows, List.getElem?_set_self hi⟩
                obtain ⟨v', ev', own'⟩ := r3.slot s _ _ e7 (List.getElem?_eq_getElem (by rw [← r3.len]; exact (List.getElem?_eq_some_iff.mp e7).1))
                have ev2 : σ[s]? = some (some v') := by rw [List.getElem?_eq_getElem (by rw [← r3.len]; exact (List.getElem?_eq_some_iff.mp e7).1)]; exact congrArg some ev'
                rw [ev0] at ev2; cases ev2
                obtain ⟨a', rs', e0, h1, h2, _⟩ := own_l2 own'
                cases e0
                rw [ha2] at h1
                have := congrArg (fun o : Option HO => match o with | some (.lst xs) => xs.length | _ => 0) h1
                simp only [List.length_map] at this
                exact ⟨ha2, own', by rw [this]; exact h2⟩
              have hlr : rs.length = rows'.length := by rw [hlen]; exact hl
              have hkr : k < rs.length := by rw [hlr]; exact (ixN_seq hk).2.1
              · have hat : atI (rs.map V.ref) i = some (.ref rs[k]) := ix_atI hk (by rw [List.length_map]; exact hlr) (by rw [List.getElem?_map, List.getElem?_eq_getElem hkr]; rfl)
                refine .inl (.inl ⟨a, _, i, .ref rs[k], rfl, rfl, .inl (.inl ha1), hat, ?_⟩)
                refine sj E T io _ fp1 σ H1 _ r2 ?_
                rw [e6]
                refine oke_hold fun jv fp2 H2 x3 r3 h3 => ?_
                obtain ⟨ha2, own2, _⟩ := fin fp2 H2 x3 r3
                rw [rep1_int (h3.get r3 e8)]
                have r4 := r3.unlock (lk := some s)
                have x4 := ((x1.trans x2).trans x3).unlock (lk := some s) fun i e => by cases e; exact nl
                have elk : lockE (some s) env2 = env2.set s (.ow .l2 (.lst rows')) := by
                  unfold lockE
                  simp only [e7]
                rw [elk] at r4 x4
                have e10 : (env2.set s (.ow .l2 (.lst rows')))[s]? = some (.ow .l2 (.lst rows')) := List.getElem?_set_self (List.getElem?_eq_some_iff.mp e7).1
                refine put2_ok (fun a z => .inr ⟨s, z⟩) own2 ((x1.trans (x2.trans x3)).rep p) e9 ha2 hat r3.hb fun H' m hb' own' => ?_
                obtain ⟨r5, x5⟩ := r4.mut e10 ev0 m hb' own'
                rw [List.set_set] at r5 x5
                exact kk σ fp2 H' r5 (x4.trans x5)
            · cases e
          · cases e
      · cases e
  · cases e
end
end VL
namespace VL
open PySem PySem.Spec PyProof.Rows L2
variable [tt : TabList]

/-! ### comprehensions whose items are new lists -/
def compL2 (gd : D → Env → Option Env) (ft : M Bool) (fe : M TV) (own : List Nat) : List D → Env → Res (List (List D))
  | [], env => .ok [] env
  | d :: ds, env => if ownOk own env then match gd d (wipeE own env) with
      | none => .stuck
      | some e1 => (ft e1).bindN fun b e2 => if b then (fe e2).bindN fun t e3 => match t with
            | .ow .l (.lst y) => (compL2 gd ft fe own ds (restE own env e3)).bindN fun ys e4 => .ok (y :: ys) e4
            | _ => .stuck
          else compL2 gd ft fe own ds (restE own env e2)
    else .stuck
def cComp2 (own : List Nat) (fi : M (List D × Option Nat)) (gd : D → Env → Option Env) (ft : M Bool) (fe : M TV) : M TV := fun env => (fi env).bind fun (items, lk) env1 =>
  (compL2 gd ft fe own items env1).bindN fun ys env2 => .ok (.ow .l2 (.lst (ys.map D.lst))) (lockE lk env2)
def CompRest2 (gd : D → Env → Option Env) (ft : M Bool) (fe : M TV) (own : List Nat) (ds : List D) (envt : Env) (done all : List (List D)) (envF : Env) : Prop := ∃ ys, compL2 gd ft fe own ds envt = .ok ys envF ∧ all = done ++ ys
/-- the rows made so far -/
def RowsAt (B : Bas) (H : Hp) (av : Addr → Prop) (rs : List Addr) (ds : List (List D)) : Prop := rs.length = ds.length ∧ ∀ (i : Nat) (r : Addr) (es : List D), rs[i]? = some r → ds[i]? = some es → ∃ ws, H r = some (.lst ws) ∧ Reps B H av ws es
theorem Fresh.back {T T1 E q : Addr → Prop} {env env1 : Env} {fp fp1 : Nat → Addr → Prop} {H H1 : Hp} (x : Ext env fp H env1 fp1 H1) (hT : ∀ a, T a → T1 a) (h : Fresh T1 E env1 fp1 H1 q) : Fresh T E env fp H q := fun a z => by
  obtain ⟨h1, h2, h3⟩ := h a z
  refine ⟨fun z => h1 (hT a z), h2, ?_⟩
  cases e : H a with
  | none => exact .inl rfl
  | some o =>
    have hH : H a ≠ none := by rw [e]; exact fun z => nomatch z
    rcases h3 with h3 | ⟨j, h3, h4⟩
    · exact absurd h3 (x.dom a hH)
    · obtain ⟨k, z1, z2⟩ := x.sub j a h3 hH
      exact .inr ⟨k, z1, fun l => h4 (z2 l).2⟩
section
variable {B : Bas} {H H' : Hp} {av av' : Addr → Prop} {rs : List Addr} {ds : List (List D)}
theorem RowsAt.mono (k : ∀ a o, NT o → H a = some o → ¬ av a → H' a = some o) (hav : ∀ a, av' a → av a ∨ H a = none) (hr : ∀ a o, NT o → a ∈ rs → H a = some o → H' a = some o) (h : RowsAt B H av rs ds) : RowsAt B H' av' rs ds :=
  ⟨h.1, fun i r es h1 h2 => by
    obtain ⟨ws, a1, a2⟩ := h.2 i r es h1 h2
    exact ⟨ws, hr _ _ (nt_of rfl) (List.mem_of_getElem? h1) a1, a2.mono k hav⟩⟩
theorem RowsAt.ext {E T : Addr → Prop} {io : Option V} {env env' : Env} {fp fp' : Nat → Addr → Prop} {σ : L2.St} (r : R B E T io fp env σ H) (x : Ext env fp H env' fp' H') (hr : ∀ a, a ∈ rs → T a) (h : RowsAt B H (avOf T fp) rs ds) : RowsAt B H' (avOf T fp') rs ds :=
  h.mono (fun a o nt e n => x.chg a o nt e fun i z => absurd (.inr ⟨i, z⟩) n) (fun a z => by
    rcases z with z | ⟨i, z⟩
    · exact .inl (.inl z)
    · cases q : H a with
      | none => exact .inr rfl
      | some o =>
        obtain ⟨j, z', _⟩ := x.sub i a z (by rw [q]; exact fun z => nomatch z)
        exact .inl (.inr ⟨j, z'⟩)) fun a o nt m e => x.chg a o nt e fun i z => absurd (hr a m) (r.offT i a z)
theorem RowsAt.grow (g : Grow H H') (h : RowsAt B H av rs ds) : RowsAt B H' av rs ds := h.mono (fun a o _ e _ => g a o e) (fun _ z => .inl z) fun a o _ _ e => g a o e
theorem RowsAt.snoc {r : Addr} {ws : List V} {es : List D} (h : RowsAt B H av rs ds) (e : H r = some (.lst ws)) (p : Reps B H av ws es) : RowsAt B H av (rs ++ [r]) (ds ++ [es]) := by
  refine ⟨by rw [List.length_append, List.length_append, h.1]; rfl, fun i r' es' h1 h2 => ?_⟩
  by_cases hi : i < rs.length
  · rw [List.getElem?_append_left hi] at h1
    rw [List.getElem?_append_left (by rw [← h.1]; exact hi)] at h2
    exact h.2 i r' es' h1 h2
  · rw [List.getElem?_append_right (by omega)] at h1
    rw [List.getElem?_append_right (by rw [← h.1]; omega), ← h.1] at h2
    have : i - rs.length = 0 := by
      have := (List.getElem?_eq_some_iff.mp h1).1
      simp at this; omega
    rw [this] at h1 h2
    cases h1; cases h2
    exact ⟨ws, e, p⟩
end
section
variable {B : Bas} {E T : Addr → Prop} {io : Option V} {env env0 env1 : Env} {fp fp1 : Nat → Addr → Prop} {σ σ2 : L2.St} {H H1 : Hp} {own : List Nat}
theorem R.rest2 {T0 : Addr → Prop} {env2 : Env} {fp2 : Nat → Addr → Prop} {H2 : Hp} (h : ownOk own env0 = true) (hT : ∀ a, T a → avOf T0 fp a ∨ H a = none) (r0 : R B E T0 io fp env0 σ H) (x : Ext env0 fp H env2 fp2 H2) (r : R B E T io fp2 env2 σ2 H2) (hw : L2.wipe σ2 own = L2.wipe σ own) :
    R B E T io (dropF own fp2) (restE own env0 env2) σ H2 := by
  have hlen : σ2.length = σ.length := by have := congrArg List.length hw; rw [wipe_length, wipe_length] at this; exact this
  have hl : env2.length = env0.length := by rw [r.len, hlen, r0.len]
  have hσ : ∀ i, i ∉ own → σ2[i]? = σ[i]? := fun i hi => by
    have q := congrArg (fun l : L2.St => l[i]?) hw
    simp only [wipe_get, hi, if_false] at q
    exact q
  have sub : ∀ a, avOf T (dropF own fp2) a → avOf T fp2 a := fun a z => z.imp id fun ⟨i, z⟩ => ⟨i, z.2⟩
  refine ⟨by unfold restE; rw [List.length_mapIdx, hl]; exact r0.len, fun i sv x' h1 h2 => ?_, fun i a z => by unfold restE; rw [List.length_mapIdx]; exact r.out i a z.2, fun i j a z1 z2 => r.dis i j a z1.2 z2.2, fun i a z => r.offT i a z.2, fun a z => r.all a (sub a z), fun i a z zE => r.new i a z.2 zE, r0.io0, r.old, r.hb, r.tabs⟩
  rw [restE_get i hl] at h1
  by_cases ho : i ∈ own
  · simp only [ho, if_true] at h1
    have s := r0.slot i sv x' h1 h2
    rcases (ownOk_get h ho).2 with q | ⟨d, q⟩
    · rw [q] at h1; cases h1
      exact fun a z => z.1 ho
    · rw [q] at h1; cases h1
      obtain ⟨⟨v, ev, p⟩, _⟩ := s
      exact ⟨⟨v, ev, (x.rep2 hT p).weak sub⟩, fun a z => z.1 ho⟩
  · simp only [ho, if_false] at h1
    rw [← hσ i ho] at h2
    have s := r.slot i sv x' h1 h2
    have ef : dropF own fp2 i = fp2 i := by funext a; exact propext ⟨fun z => z.2, fun z => ⟨ho, z⟩⟩
    rw [ef]
    exact s.mono (fun _ _ _ e _ => e) (fun a z => .inl (sub a z)) fun _ _ _ e => e
end
section
variable {X : Cx} {W : WX} {elt tg iter : Expr} {ifs : List Expr} {scope : Scope} {own : List (Str × Nat)} {pos : Pos} {fi : M (List D × Option Nat)} {gd : D → Env → Option Env} {ft : M Bool} {fe : M TV}
theorem sound_comp2 {E T : Addr → Prop} {io : Option V} {env : Env} {fp : Nat → Addr → Prop} {σ : L2.St} {H : Hp} {Q : VK} {vs tv : List Nat} (htv : ∀ j ∈ tv, j ∈ vs) (R0 : R (bas X) E T io fp env σ H) (h : OKE (bas X) E T io env fp H σ Q W (cComp2 vs fi gd ft fe env)) :
    tLc (cI (bas X) W fi) (cG (bas X) false tv gd) (cT (bas X) W0 ft) (cE (bas X) W0 fe) vs σ H Q := by
  refine ⟨E, T, io, env, fp, R0, ?_⟩
  unfold cComp2 at h
  cases e1 : fi env with
  | stuck => rw [e1] at h; exact h
  | ex x env' => rw [e1] at h; exact h
  | ok il env1 =>
    rw [e1] at h
    obtain ⟨items, lk⟩ := il
    simp only [Res.bind] at h
    intro J fp1 H1 x1 hlk r1 it hlen Dc hD
    cases e2 : compL2 gd ft fe vs items env1 with
    | stuck => rw [e2] at h; exact h.elim
    | ex x env' => rw [e2] at h; exact h.elim
    | ok all envF =>
      rw [e2] at h
      simp only [Res.bindN] at h
      -- the invariant
      have hb1 : HB (upd H1 Dc (.lst [])) := fun a zs e => by
        by_cases hh : a = Dc
        · subst hh
          rcases e with (e | ⟨o, e⟩) | (e | ⟨o, e⟩) <;> rw [upd_same] at e <;> cases e
          exact Nat.zero_le _
        · refine r1.hb a zs ?_
          rcases e with (e | ⟨o, e⟩) | (e | ⟨o, e⟩) <;> rw [upd_ne hh] at e
          · exact .inl (.inl e)
          · exact .inl (.inr ⟨o, e⟩)
          · exact .inr (.inl e)
          · exact .inr (.inr ⟨o, e⟩)
      have r1' : R (bas X) E (fun a => T a ∨ a = Dc) io fp1 env1 σ (upd H1 Dc (.lst [])) := r1.more (grow_upd hD) (fun a e => by rw [e]; exact hD) (fun a e => by rw [e]; exact ⟨_, upd_same, trivial⟩) hb1
      refine ⟨fun i m Ht => m = items.length - i ∧ i ≤ items.length ∧ ∃ envt fpt rs accD, R (bas X) E (fun a => T a ∨ a = Dc ∨ a ∈ rs) io fpt envt σ Ht ∧ Ext env1 fp1 H1 envt fpt Ht ∧ Ht Dc = some (.lst (rs.map V.ref)) ∧ RowsAt (bas X) Ht (avOf (fun a => T a ∨ a = Dc ∨ a ∈ rs) fpt) rs accD ∧ rs.length ≤ i ∧ (Dc :: rs).Nodup ∧ Fresh T E env1 fp1 H1 (fun a => a ∈ rs) ∧ CompRest2 gd ft fe vs (items.drop i) envt accD all envF,
        ⟨items.length, by simp, Nat.zero_le _, env1, fp1, [], [], r1'.sub (fun a z => z.imp id fun z => z.elim id fun z => (nomatch z)), Ext.grow (grow_upd hD), upd_same, ⟨rfl, fun i r es h => nomatch h⟩, Nat.le_refl _, by simp, (fun a z => nomatch z), all, e2, rfl⟩, ?_⟩
      rintro i m Ht ⟨rfl, hi, envt, fpt, rs, accD, rt, xt, hDt, accR, hacc, hnd, hfr, rest⟩
      by_cases hlt : i < items.length
      · -- a turn
        obtain ⟨ys, eys, eall⟩ := rest
        have edrop : items.drop i = items[i] :: items.drop (i + 1) := List.drop_eq_getElem_cons hlt
        rw [edrop] at eys
        unfold compL2 at eys
        by_cases hok : ownOk vs envt = true
        · simp only [hok, if_true] at eys
          cases eg : gd items[i] (wipeE vs envt) with
          | none => simp only [eg] at eys; cases eys
          | some envg =>
            simp only [eg] at eys
            refine .inr ⟨it.go _ _ _ i xt rt.hb hlt, fun H' => items.length - (i + 1) = items.length - (i + 1) ∧ i + 1 ≤ items.length ∧ ∃ envt fpt rs accD, R (bas X) E (fun a => T a ∨ a = Dc ∨ a ∈ rs) io fpt envt σ H' ∧ Ext env1 fp1 H1 envt fpt H' ∧ H' Dc = some (.lst (rs.map V.ref)) ∧ RowsAt (bas X) H' (avOf (fun a => T a ∨ a = Dc ∨ a ∈ rs) fpt) rs accD ∧ rs.length ≤ i + 1 ∧ (Dc :: rs).Nodup ∧ Fresh T E env1 fp1 H1 (fun a => a ∈ rs) ∧ CompRest2 gd ft fe vs (items.drop (i + 1)) envt accD all envF,
              fun H' hN => ⟨_, by omega, hN⟩, fun x H' hy => ?_⟩
            have hT2 : ∀ a, (fun a => T a ∨ a = Dc ∨ a ∈ rs) a → avOf T fp1 a ∨ H1 a = none := fun a z => by
              rcases z with z | z | z
              · exact .inl (.inl z)
              · rw [z]; exact .inr hD
              · rcases (hfr a z).2.2 with z | ⟨j, z, _⟩
                · exact .inr z
                · exact .inl (.inr ⟨j, z⟩)
            obtain ⟨gr, hb', px⟩ := it.yld _ _ _ i items[i] x H' _ xt rt.hb hT2 rt.all (List.getElem?_eq_getElem hlt) hy
            have rt' := rt.grow gr hb'
            have nD : ∀ i, ¬ fpt i Dc := fun i z => rt.offT i Dc z (.inr (.inl rfl))
            have nR : ∀ i a, a ∈ rs → ¬ fpt i a := fun i a h z => rt.offT i a z (.inr (.inr h))
            refine ⟨E, _, io, wipeE vs envt, fpt, items[i], envg, (fun e => Bool.noConfusion e), rt'.wipe hok, px, eg, fun σ2 fp2 b2 r2 x2 => ?_⟩
            have hw : L2.wipe σ2 vs = L2.wipe σ vs := by
              have hl2 : σ2.length = σ.length := by rw [b2.1, wipe_length]
              refine List.ext_getElem? fun j => ?_
              rw [wipe_get, wipe_get, hl2]
              by_cases hj : j ∈ vs
              · simp only [hj, if_true]
              · simp only [hj, if_false]
                rw [b2.2 j (fun z => hj (htv j z)), wipe_get]
                simp only [hj, if_false]
            refine ⟨hw, E, _, io, envg, fp2, r2, ?_⟩
            cases ef : ft envg with
            | stuck => rw [ef] at eys; cases eys
            | ex x e => rw [ef] at eys; cases eys
            | ok b envb =>
              rw [ef] at eys
              simp only [Res.bindN] at eys
              intro fp3 H3 x3 r3
              cases b with
              | false =>
                simp only [Bool.false_eq_true, if_false] at eys ⊢
                have xo := (Ext.wipe (fp := fpt) (H := H') hok).trans (x2.trans x3)
                have hl3 : envb.length = envt.length := by rw [r3.len, b2.1, wipe_length, ← rt.len]
                have xr := Ext.rest hok hl3 xo
                refine ⟨trivial, hlt, restE vs envt envb, dropF vs fp3, rs, accD, R.rest hok rt' xo r3 hw, xt.trans ((Ext.grow gr).trans xr), xo.chg Dc _ (nt_of rfl) (gr _ _ hDt) fun j z => absurd z (nD j), ?_, by omega, hnd, hfr, ys, eys, eall⟩
                exact RowsAt.ext rt' xr (fun a h => .inr (.inr h)) (accR.grow gr)
              | true =>
                simp only [if_true] at eys ⊢
                refine ⟨E, _, io, envb, fp3, r3, ?_⟩
                cases eg2 : fe envb with
                | stuck => rw [eg2] at eys; cases eys
                | ex x e => rw [eg2] at eys; cases eys
                | ok t enve =>
                  rw [eg2] at eys
                  simp only [Res.bindN] at eys
                  cases t with
                  | sl _ => cases eys
                  | fz _ => cases eys
                  | ow κ dd =>
                  cases κ with
                  | dk => cases eys
                  | dt => cases eys
                  | l2 => cases eys
                  | m => cases eys
                  | l =>
                  cases dd with
                  | lst yd =>
                    simp only at eys
                    intro y fp4 H4 x4 q r4 hh hq
                    cases e5 : compL2 gd ft fe vs (items.drop (i + 1)) (restE vs envt enve) with
                    | stuck => rw [e5] at eys; cases eys
                    | ex x e => rw [e5] at eys; cases eys
                    | ok ys' envl =>
                      rw [e5] at eys
                      cases eys
                      obtain ⟨r, ws, es, rfl, e0, hr4, rws, rfl⟩ := own_l hh
                      cases e0
                      have xo := (Ext.wipe (fp := fpt) (H := H') hok).trans (x2.trans (x3.trans x4))
                      have hl4 : enve.length = envt.length := by rw [r4.len, b2.1, wipe_length, ← rt.len]
                      have xo3 := (Ext.wipe (fp := fpt) (H := H') hok).trans (x2.trans x3)
                      have xr := Ext.rest hok hl4 xo
                      have hD4 : H4 Dc = some (.lst (rs.map V.ref)) := xo.chg Dc _ (nt_of rfl) (gr _ _ hDt) fun j z => absurd z (nD j)
                      have eT : (fun a => (T a ∨ a = Dc ∨ a ∈ rs) ∨ a = r) = fun a => T a ∨ a = Dc ∨ a ∈ rs ++ [r] := by
                        funext a
                        refine propext ⟨fun z => ?_, fun z => ?_⟩
                        · rcases z with (z | z | z) | z
                          · exact .inl z
                          · exact .inr (.inl z)
                          · exact .inr (.inr (List.mem_append_left _ z))
                          · exact .inr (.inr (by rw [z]; simp))
                        · rcases z with z | z | z
                          · exact .inl (.inl z)
                          · exact .inl (.inr (.inl z))
                          · rcases List.mem_append.mp z with z | z
                            · exact .inl (.inr (.inr z))
                            · exact .inr (List.mem_singleton.mp z)
                      have fr := hq r rfl
                      have hTr : ∀ a, ((T a ∨ a = Dc ∨ a ∈ rs) ∨ a = r) → avOf (fun a => T a ∨ a = Dc ∨ a ∈ rs) fpt a ∨ H' a = none := fun a z => by
                        rcases z with z | z
                        · exact .inl (.inl z)
                        · subst z
                          have := (Fresh.back (T := fun a => T a ∨ a = Dc ∨ a ∈ rs) (q := fun b => b = a) xo3 (fun _ z => z) hq a rfl).2.2
                          rcases this with z | ⟨j, z, _⟩
                          · exact .inr z
                          · exact .inl (.inr ⟨j, z⟩)
                      have rr := R.rest2 hok hTr rt' xo r4 hw
                      have hrn : r ∉ rs := fun z => fr.1 (.inr (.inr z))
                      have hrD : r ≠ Dc := fun z => fr.1 (.inr (.inl z))
                      have hz : (rs.map V.ref ++ [V.ref r]).length ≤ sizeLine := by rw [List.length_append, List.length_map, List.length_singleton]; omega
                      have sub4 : ∀ a, avOf (fun a => (T a ∨ a = Dc ∨ a ∈ rs) ∨ a = r) (dropF vs fp4) a → avOf (fun a => (T a ∨ a = Dc ∨ a ∈ rs) ∨ a = r) fp4 a := fun a z => z.imp id fun ⟨i, z⟩ => ⟨i, z.2⟩
                      have rows4 : RowsAt (bas X) H4 (avOf (fun a => (T a ∨ a = Dc ∨ a ∈ rs) ∨ a = r) (dropF vs fp4)) rs accD := by
                        refine (accR.grow gr).mono (fun a o nt e n => xo.chg a o nt e fun i z => absurd (.inr ⟨i, z⟩) n) (fun a z => ?_) fun a o nt m e => xo.chg a o nt e fun i z => absurd z (nR i a m)
                        rcases z with z | ⟨i, z⟩
                        · exact hTr a z
                        · cases q : H' a with
                          | none => exact .inr rfl
                          | some o =>
                            obtain ⟨j, z', _⟩ := xr.sub i a z (by rw [q]; exact fun z => nomatch z)
                            exact .inl (.inr ⟨j, z'⟩)
                      have rowsN := rows4.snoc hr4 (rws.weak sub4)
                      have rt5 := rr.tcell (ys := rs.map V.ref ++ [.ref r]) (.inl (.inr (.inl rfl))) hD4 hz
                      have x5 := ((xt.trans ((Ext.grow gr).trans xr)).tcell (ys := rs.map V.ref ++ [.ref r]) hD hD4)
                      rw [eT] at rt5 rowsN
                      refine ⟨rs.map V.ref, hD4, by rw [List.length_append, List.length_map, List.length_singleton] at hz; rw [List.length_map]; omega, trivial, hlt, restE vs envt enve, dropF vs fp4, rs ++ [r], accD ++ [yd], rt5, x5, by rw [List.map_append]; exact upd_same, ?_, by rw [List.length_append, List.length_singleton]; omega, ?_, ?_, ys', e5, by rw [eall, List.append_assoc]; rfl⟩
                      · refine rowsN.mono (fun a o nt e n => ?_) (fun a z => .inl z) fun a o nt m e => ?_
                        · rw [upd_ne (fun z => n (by rw [z]; exact .inl (.inr (.inl rfl))))]; exact e
                        · rw [upd_ne (fun z => ?_)]
                          · exact e
                          · subst z
                            rcases List.mem_append.mp m with m | m
                            · exact (List.nodup_cons.mp hnd).1 m
                            · exact hrD (List.mem_singleton.mp m).symm
                      · have := List.nodup_cons.mp hnd
                        refine List.nodup_cons.mpr ⟨fun z => ?_, ?_⟩
                        · rcases List.mem_append.mp z with m | m
                          · exact this.1 m
                          · exact hrD (List.mem_singleton.mp m).symm
                        · rw [List.nodup_append]
                          exact ⟨this.2, by simp, fun a ha b hb z => hrn (by rw [List.mem_singleton.mp hb] at z; rw [← z]; exact ha)⟩
                      · intro a m
                        rcases List.mem_append.mp m with m | m
                        · exact hfr a m
                        · rw [List.mem_singleton.mp m]
                          exact Fresh.back (T := T) (T1 := fun a => T a ∨ a = Dc ∨ a ∈ rs) (q := fun b => b = r) (xt.trans ((Ext.grow gr).trans xo3)) (fun _ z => .inl z) hq r rfl
                  | _ => cases eys
        · simp only [hok, if_false] at eys; cases eys
      · have hie : i = items.length := by omega
        subst hie
        obtain ⟨ys, eys, eall⟩ := rest
        rw [List.drop_length] at eys
        unfold compL2 at eys
        cases eys
        rw [List.append_nil] at eall
        subst eall
        refine .inl ⟨it.stop _ _ _ _ xt rt.hb (rfl), ?_⟩
        have x2 := (x1.trans xt).unlock hlk
        have eT : (fun a => T a ∨ (a = Dc ∨ a ∈ rs)) = fun a => T a ∨ a = Dc ∨ a ∈ rs := rfl
        refine h (.ref Dc) fpt Ht x2 (fun a => a = Dc ∨ a ∈ rs) rt.unlock ⟨Dc, rs, all, rfl, rfl, hDt, accR.1, hnd, accR.2, rfl⟩ fun a e => ?_
        have hfresh : Fresh T E env1 fp1 H1 (fun a => a = Dc ∨ a ∈ rs) := fun a z => by
          rcases z with z | z
          · subst z
            exact ⟨fun z => r1.avH (.inl z) hD, fun z => r1.old a z hD, .inl hD⟩
          · exact hfr a z
        exact Fresh.back x1 (fun _ z => z) hfresh a e
/-- as a value -/
theorem de_comp2 {tv : List Nat} (hc : X.calm = true) (hN : X.N.Nodup) (hi : DI X W tg iter fi) (ok : BlkOk X.N X.env.scope scope own)
    (hg : ∀ (s : Shared) (H : Hp) (C : Addr) (cl : List (Str × Addr)) (fp : List Addr), DG (X.blk s H scope (compEnvC scope cl C X.env) fp) false tv tg gd) (ht : ∀ (s : Shared) (H : Hp) (C : Addr) (cl : List (Str × Addr)) (fp : List Addr), PTs (X.blk s H scope (compEnvC scope cl C X.env) fp) ifs (cT (bas X) W0 ft))
    (he : ∀ (s : Shared) (H : Hp) (C : Addr) (cl : List (Str × Addr)) (fp : List Addr), DE (X.blk s H scope (compEnvC scope cl C X.env) fp) W0 elt fe) (htv : ∀ j ∈ tv, j ∈ own.map (·.2) := by decide) (hs : ∀ x, foldedSetIterable iter X.env x = pure x := by intro _; rfl) :
    DE X W (.ListComp elt [⟨tg, iter, ifs, 0⟩] scope pos) (cComp2 (own.map (·.2)) fi gd ft fe) :=
  .mk ⟨_, pe_lc (wi := cI (bas X) W fi) (g := cG (bas X) false tv gd) (tt := cT (bas X) W0 ft) (te := cE (bas X) W0 fe) hc hN hi ok hg ht he hs, fun E T io env fp σ H Q R0 h => sound_comp2 htv R0 h⟩
end
end VL
namespace VL
open PySem PySem.Spec PyProof.Rows L2
variable [tt : TabList]

/-! ### the draws: {"cells": .., "at": .., "left": ..} -/
def mD (cd : List D) (at_ : Int) (ld : List D) : D := .dct [.inl (mK "cells"), .inl (mK "at"), .inl (mK "left")] [.lst cd, .int at_, .lst ld]
def cBegun (f1 f2 f3 : M TV) : M TV := fun env => (f1 env).bindN fun t1 env1 => match t1 with
  | .ow .l (.lst cd) => (f2 env1).bindN fun t2 env2 => match t2 with
    | .fz (.int i) => (f3 env2).bindN fun t3 env3 => match t3 with
      | .ow .l (.lst ld) => .ok (.ow .m (mD cd i ld)) env3
      | _ => .stuck
    | _ => .stuck
  | _ => .stuck
section
variable {B : Bas} {E T : Addr → Prop} {io : Option V} {env env1 : Env} {fp fp1 : Nat → Addr → Prop} {σ : L2.St} {H H1 : Hp}
/-- a protected cell that no one reads is written -/
theorem R.tput {Dc : Addr} {o' : HO} (r : R B E T io fp env σ H) (hT : T Dc) (ho : ownO o') (hb : HB (upd H Dc o')) : R B E T io fp env σ (upd H Dc o') := by
  have k : ∀ a o, H a = some o → a ≠ Dc → upd H Dc o' a = some o := fun a o e n => by rw [upd_ne n]; exact e
  refine ⟨r.len, fun i sv x h1 h2 => (r.slot i sv x h1 h2).mono (fun a o _ e n => k a o e fun z => n (by rw [z]; exact .inl hT)) (fun a z => .inl z) (fun a o z e => k a o e fun z' => r.offT i a z (by rw [z']; exact hT)), r.out, r.dis, r.offT, fun a z => ?_, r.new, r.io0, fun a z => ?_, hb, fun p hp => tab_keep (fun a o no e => k a o e fun z => no (by subst z; obtain ⟨o2, e2, w⟩ := r.all a (.inl hT); rw [e] at e2; cases e2; exact w)) _ hp (r.tabs p hp)⟩
  · by_cases h : a = Dc
    · subst h; exact ⟨_, upd_same, ho⟩
    · obtain ⟨o, e, w⟩ := r.all a z; exact ⟨o, k a o e h, w⟩
  · by_cases h : a = Dc
    · subst h; rw [upd_same]; exact fun z => nomatch z
    · rw [upd_ne h]; exact r.old a z
theorem Ext.tput {env2 : Env} {fp2 : Nat → Addr → Prop} {H2 : Hp} {Dc : Addr} {o' : HO} (x : Ext env fp H env2 fp2 H2) (hD : H Dc = none) (hD2 : ∃ o2, H2 Dc = some o2 ∧ ownO o2) (ho : ownO o') : Ext env fp H env2 fp2 (upd H2 Dc o') := by
  have n : ∀ a o, H a = some o → a ≠ Dc := fun a o e z => by rw [z, hD] at e; cases e
  refine ⟨fun a o nt e l => by rw [upd_ne (n a o e)]; exact x.chg a o nt e l, x.sub, fun a z => ?_, fun a o e w => ?_, fun P q z => ?_⟩
  · by_cases h : a = Dc
    · subst h; rw [upd_same]; exact fun z => nomatch z
    · rw [upd_ne h]; exact x.dom a z
  · obtain ⟨o', e', w'⟩ := x.typ a o e w
    exact ⟨o', by rw [upd_ne (n a o e)]; exact e', w'⟩
  · obtain ⟨o2, d1, d2⟩ := hD2
    exact tab_keep (fun a o no e => by rw [upd_ne (fun z => no (by subst z; rw [d1] at e; cases e; exact d2))]; exact e) _ q (x.tab P q z)
end
section
variable {X : Cx} {W : WX} {e1 e2 e3 : Expr} {f1 f2 f3 : M TV} {pos k1 k2 k3 : Pos} {n1 n2 n3 : Nat}
theorem de_begun (h1 : DE X W0 e1 f1) (h2 : DE X W0 e2 f2) (h3 : DE X W0 e3 f3) :
    DE X W (.Dict [some (.Constant (.str "cells") n1 k1), some (.Constant (.str "at") n2 k2), some (.Constant (.str "left") n3 k3)] [e1, e2, e3] pos) (cBegun f1 f2 f3) := by
  obtain ⟨t1, p1, s1⟩ := h1.out
  obtain ⟨t2, p2, s2⟩ := h2.out
  obtain ⟨t3, p3, s3⟩ := h3.out
  refine .mk ⟨_, peHB (pe_disp (pps_cons pe_str p1 (pps_cons pe_str p2 (pps_cons pe_str p3 pps_nil))) rfl rfl (by simp) (by show 3 ≤ 15; decide)), fun E T io env fp σ H Q R0 h => ?_⟩
  intro p hp
  have hb0 : HB (upd H p (.dK [])) := hb_dct R0.hb (fun xs => ⟨fun z => (nomatch z), fun z => (nomatch z)⟩) (fun o u z => (nomatch z))
  have x0 : Ext env fp H env fp (upd H p (.dK [])) := Ext.grow (grow_upd hp)
  have r0 := R0.more (q := fun b => b = p) (grow_upd (o := .dK []) hp) (fun a z => by rw [z]; exact hp) (fun a z => by rw [z]; exact ⟨_, upd_same, trivial⟩) hb0
  have off : ∀ {env' fp' H'}, R (bas X) E (fun a => T a ∨ a = p) io fp' env' σ H' → ∀ i, ¬ fp' i p := fun r i z => r.offT i p z (.inr rfl)
  unfold cBegun at h
  refine s1 E _ io env fp σ _ _ r0 ?_
  cases c1 : f1 env with
  | stuck => rw [c1] at h; exact h.elim
  | ex _ _ => rw [c1] at h; exact h.elim
  | ok t1 env1 =>
  rw [c1] at h
  simp only [Res.bindN] at h
  cases t1 with
  | sl _ => exact h.elim
  | fz _ => exact h.elim
  | ow κ d1 =>
  cases κ with
  | dk => exact h.elim
  | dt => exact h.elim
  | l2 => exact h.elim
  | m => exact h.elim
  | l =>
  cases d1 with
  | lst cd =>
    simp only at h
    intro y1 fp1 H1 x1 q1 r1 o1 hq1
    refine s2 E _ io env1 fp1 σ H1 _ r1 ?_
    cases c2 : f2 env1 with
    | stuck => rw [c2] at h; exact h.elim
    | ex _ _ => rw [c2] at h; exact h.elim
    | ok t2 env2 =>
    rw [c2] at h
    simp only at h
    cases t2 with
    | sl _ => exact h.elim
    | ow _ _ => exact h.elim
    | fz d2 =>
    cases d2 with
    | int i =>
      simp only at h
      intro y2 fp2 H2 x2 r2 p2
      refine s3 E _ io env2 fp2 σ H2 _ r2 ?_
      cases c3 : f3 env2 with
      | stuck => rw [c3] at h; exact h.elim
      | ex _ _ => rw [c3] at h; exact h.elim
      | ok t3 env3 =>
      rw [c3] at h
      simp only at h
      cases t3 with
      | sl _ => exact h.elim
      | fz _ => exact h.elim
      | ow κ d3 =>
      cases κ with
      | dk => exact h.elim
      | dt => exact h.elim
      | l2 => exact h.elim
      | m => exact h.elim
      | l =>
      cases d3 with
      | lst ld =>
        simp only at h
        intro y3 fp3 H3 x3 q3 r3 o3 hq3
        obtain ⟨c, cs, cd', rfl, e1, hc1, rc1, rfl⟩ := own_l o1
        cases e1
        obtain ⟨l, ls, ld', rfl, e3, hl3, rl3, rfl⟩ := own_l o3
        cases e3
        have ey2 : y2 = .int i := by cases p2; rfl
        subst ey2
        -- the cells stay
        have off1 : ∀ j, ¬ fp1 j c := fun j z => r1.offT j c z (.inr rfl)
        have x23 := x2.trans x3
        have hc3 : H3 c = some (.lst cs) := x23.chg c _ (nt_of rfl) hc1 fun j z => absurd z (off1 j)
        have offp : ∀ j, ¬ fp j p := fun j z => r0.offT j p z (.inr rfl)
        have hp3 : H3 p = some (.dK []) := (x1.trans x23).chg p _ (nt_of rfl) upd_same fun j z => absurd z (offp j)
        have hcp : c ≠ p := fun z => (hq1 c rfl).1 (.inr z)
        have hlp : l ≠ p := fun z => (hq3 l rfl).1 (.inl (.inr z))
        have hlc : l ≠ c := fun z => (hq3 l rfl).1 (.inr z)
        refine ⟨hp3, [(mK "cells", .ref c), (mK "at", .int i), (mK "left", .ref l)], rfl, by show 3 ≤ 15; decide, fun hb => ?_⟩
        have em : mergeK [] [(mK "cells", V.ref c), (mK "at", .int i), (mK "left", .ref l)] = [(mK "cells", V.ref c), (mK "at", .int i), (mK "left", .ref l)] := by
          have h1 : (mK "cells" : Key) ≠ mK "at" := by decide
          have h2 : (mK "cells" : Key) ≠ mK "left" := by decide
          have h3 : (mK "at" : Key) ≠ mK "left" := by decide
          simp [mergeK, putK, h1, h2, h3]
        rw [em] at hb ⊢
        have r4 := r3.tput (Dc := p) (o' := .dK [(mK "cells", V.ref c), (mK "at", .int i), (mK "left", .ref l)]) (.inl (.inl (.inr rfl))) trivial hb
        have x4 := ((x0.trans (x1.trans x23)).tput (o' := .dK [(mK "cells", V.ref c), (mK "at", .int i), (mK "left", .ref l)]) hp ⟨_, hp3, trivial⟩ trivial)
        have eT : (fun a => ((T a ∨ a = p) ∨ a = c) ∨ a = l) = fun a => T a ∨ (a = p ∨ a = c ∨ a = l) := by
          funext a; exact propext ⟨fun z => by rcases z with ((z | z) | z) | z <;> simp [z], fun z => by rcases z with z | z | z | z <;> simp [z]⟩
        rw [eT] at r4
        have ka : ∀ {vs : List V} {ds : List D} {av : Addr → Prop}, av p → Reps (bas X) H3 av vs ds → Reps (bas X) (upd H3 p (.dK [(mK "cells", V.ref c), (mK "at", .int i), (mK "left", .ref l)])) av vs ds := fun hav r => r.mono (fun a o nt e n => by rw [upd_ne fun z => n (by rw [z]; exact hav)]; exact e) (fun _ z => .inl z)
        have rc3 : Reps (bas X) H3 (avOf (fun a => T a ∨ (a = p ∨ a = c ∨ a = l)) fp3) cs cd := by
          refine Reps.mono (fun a o nt e n => x23.chg a o nt e fun j z => absurd (.inr ⟨j, z⟩) n) (fun a z => ?_) _ _ rc1
          rcases z with (z | z | z | z) | ⟨j, z⟩
          · exact .inl (.inl (.inl (.inl z)))
          · exact .inl (.inl (.inl (.inr z)))
          · exact .inl (.inl (.inr z))
          · subst z
            have := (Fresh.back (T := fun a => (T a ∨ a = p) ∨ a = c) (q := fun b => b = a) x2 (fun _ z => z) hq3 a rfl).2.2
            rcases this with z | ⟨j, z, _⟩
            · exact .inr z
            · exact .inl (.inr ⟨j, z⟩)
          · cases q : H1 a with
            | none => exact .inr rfl
            | some o =>
              obtain ⟨k, z', _⟩ := x23.sub j a z (by rw [q]; exact fun z => nomatch z)
              exact .inl (.inr ⟨k, z'⟩)
        refine h (.ref p) fp3 _ x4 (fun a => a = p ∨ a = c ∨ a = l) r4 ⟨p, c, l, i, cs, ls, cd, ld, rfl, rfl, upd_same, by rw [upd_ne hcp]; exact hc3, ka (.inl (.inr (.inl rfl))) rc3, by rw [upd_ne hlp]; exact hl3, ka (.inl (.inr (.inl rfl))) (rl3.weak fun a z => z.imp (fun z => ?_) id), hlc.symm, rfl⟩ fun a z => ?_
        · rcases z with z | z | z
          · subst z
            exact ⟨fun z => R0.avH (.inl z) hp, fun z => R0.old a z hp, .inl hp⟩
          · exact Fresh.back (T := T) (T1 := fun a => T a ∨ a = p) (q := fun b => b = c) x0 (fun _ z => .inl z) hq1 a z
          · exact Fresh.back (T := T) (T1 := fun a => (T a ∨ a = p) ∨ a = c) (q := fun b => b = l) (x0.trans (x1.trans x2)) (fun _ z => .inl (.inl z)) hq3 a z
        · rcases z with z | z | z | z
          · exact .inl (.inl (.inl z))
          · exact .inl (.inl (.inr z))
          · exact .inl (.inr z)
          · exact .inr z
      | _ => exact h.elim
    | _ => exact h.elim
  | _ => exact h.elim
end
end VL
namespace VL
open PySem PySem.Spec PyProof.Rows L2
variable [tt : TabList]

/-- the two lists of the draws -/
def mFld (b : Bool) : Str := if b then "left" else "cells"
def mPart (b : Bool) : D → Option (List D)
  | .dct _ [.lst c, .int _, .lst l] => some (if b then l else c)
  | _ => none
def mAt : D → Option Int
  | .dct _ [.lst _, .int i, .lst _] => some i
  | _ => none
section
variable {B : Bas} {H : Hp} {av : Addr → Prop} {v : V} {d : D} {q : Addr → Prop}
theorem mget_cells {c l : Addr} {i : Int} : valV [(mK "cells", V.ref c), (mK "at", .int i), (mK "left", .ref l)] (mK "cells") = some (.ref c) := valV_pos rfl
theorem mget_at {c l : Addr} {i : Int} : valV [(mK "cells", V.ref c), (mK "at", .int i), (mK "left", .ref l)] (mK "at") = some (.int i) := by
  rw [valV_neg (by show ¬ (mK "cells" : Key) = mK "at"; decide)]; exact valV_pos rfl
theorem mget_left {c l : Addr} {i : Int} : valV [(mK "cells", V.ref c), (mK "at", .int i), (mK "left", .ref l)] (mK "left") = some (.ref l) := by
  rw [valV_neg (by show ¬ (mK "cells" : Key) = mK "left"; decide), valV_neg (by show ¬ (mK "at" : Key) = mK "left"; decide)]; exact valV_pos rfl
/-- m["cells"], m["left"] -/
theorem own_part (o : Own B H av .m v d q) (b : Bool) {ds : List D} (e : mPart b d = some ds) : ∃ a c vs, v = .ref a ∧ DGet H a (.str (mFld b)) (some (.ref c)) ∧ H c = some (.lst vs) ∧ Reps B H av vs ds ∧ q c := by
  obtain ⟨a, c, l, at_, cs, ls, cd, ld, rfl, rfl, ea, ec, rc, el, rl, hne, rfl⟩ := o
  cases b with
  | true => cases e; exact ⟨a, l, ls, rfl, .inl ⟨_, mK "left", .inl ea, rfl, mget_left.symm⟩, el, rl, .inr (.inr rfl)⟩
  | false => cases e; exact ⟨a, c, cs, rfl, .inl ⟨_, mK "cells", .inl ea, rfl, mget_cells.symm⟩, ec, rc, .inr (.inl rfl)⟩
theorem own_at (o : Own B H av .m v d q) {i : Int} (e : mAt d = some i) : ∃ a, v = .ref a ∧ DGet H a (.str "at") (some (.int i)) := by
  obtain ⟨a, c, l, at_, cs, ls, cd, ld, rfl, rfl, ea, ec, rc, el, rl, hne, rfl⟩ := o
  cases e
  exact ⟨a, rfl, .inl ⟨_, mK "at", .inl ea, rfl, mget_at.symm⟩⟩
end
/-- a reading of the draws: the slot's content -/
def mSlot (s : Nat) (env : Env) : Option D := match env[s]? with
  | some (.ow .m d) => some d
  | some (.lk .m d) => some d
  | _ => none
def cMat (s : Nat) : M TV := fun env => match (mSlot s env).bind mAt with
  | some i => .ok (.fz (.int i)) env
  | none => .stuck
def cMlen (s : Nat) (b : Bool) : M TV := fun env => match (mSlot s env).bind (mPart b) with
  | some ds => .ok (.fz (.int ds.length)) env
  | none => .stuck
def tMne (s : Nat) (b : Bool) : M Bool := fun env => match (mSlot s env).bind (mPart b) with
  | some ds => if pls 59 ds then .ok (!deq (.lst ds) (.lst [])) env else .stuck
  | none => .stuck
def cMsl (s : Nat) (b : Bool) (lo : Int) : M TV := fun env => match (mSlot s env).bind (mPart b) with
  | some ds => .ok (.ow .l (.lst (cutL ds (some lo) none))) env
  | none => .stuck
/-- m["cells"][i]: the index is made while the draws are locked -/
def cMix (s : Nat) (b : Bool) (fi : M TV) : M TV := fun env => match env[s]? with
  | some (.ow .m d) => match mPart b d with
    | some ds => (fi (env.set s (.lk .m d))).bindN fun t env1 => match getV env1 t with
      | some (.int i) => match atI ds i with
        | some x => .ok (.fz x) (lockE (some s) env1)
        | none => .stuck
      | _ => .stuck
    | none => .stuck
  | _ => .stuck
section
variable {B : Bas} {E T : Addr → Prop} {io : Option V} {env : Env} {fp : Nat → Addr → Prop} {σ : L2.St} {H : Hp}
theorem mSlot_own {s : Nat} {d : D} (r : R B E T io fp env σ H) (e : mSlot s env = some d) : ∃ v, σ[s]? = some (some v) ∧ Own B H (avOf T fp) .m v d (fp s) := by
  unfold mSlot at e
  split at e
  · rename_i d' e1
    cases e
    exact slot_own r e1
  · rename_i d' e1
    cases e
    have hl : s < σ.length := by rw [← r.len]; exact (List.getElem?_eq_some_iff.mp e1).1
    obtain ⟨v, ev, p⟩ := r.slot s _ _ e1 (List.getElem?_eq_getElem hl)
    exact ⟨v, by rw [List.getElem?_eq_getElem hl]; exact congrArg some ev, p⟩
  · cases e
end
theorem hb_new {H : Hp} {a : Addr} {ws : List V} (hb : HB H) (e : H a = none) (hl : ws.length ≤ sizeLine) : HB (upd H a (.lst ws)) := fun b zs e => by
  by_cases hh : b = a
  · subst hh
    rcases e with (e | ⟨o, e⟩) | (e | ⟨o, e⟩) <;> rw [upd_same] at e <;> cases e
    exact hl
  · refine hb b zs ?_
    rcases e with (e | ⟨o, e⟩) | (e | ⟨o, e⟩) <;> rw [upd_ne hh] at e
    · exact .inl (.inl e)
    · exact .inl (.inr ⟨o, e⟩)
    · exact .inr (.inl e)
    · exact .inr (.inr ⟨o, e⟩)
section
variable {X : Cx} {W : WX} {o : Expr} {pos p2 p3 p4 p5 : Pos} {s n : Nat}
theorem pe_mfld {k : Nat} (hr : Room k X.A) (ho : PE X o (tVar s)) (x : Str) (hp : PlainIx (.Constant (.str x) n p2) := by intro _ _; rfl) : PE X (.Subscript o (.Constant (.str x) n p2) pos) (tOp (rIxA X.K) (tVar s) (tC (.str x))) := pe_ix (ix_A hr) ho pe_str hp
theorem de_mat {k : Nat} (hr : Room k X.A) (ho : PE X o (tVar s)) : DE X W (.Subscript o (.Constant (.str "at") n p2) pos) (cMat s) := by
  refine .mk ⟨_, pe_mfld hr ho "at", fun E T io env fp σ H Q R0 h => ?_⟩
  unfold cMat at h
  cases e : mSlot s env with
  | none => simp only [e, Option.bind_none] at h; exact h.elim
  | some d =>
    simp only [e, Option.bind_some] at h
    cases e2 : mAt d with
    | none => simp only [e2] at h; exact h.elim
    | some i =>
      simp only [e2] at h
      obtain ⟨v, ev, own⟩ := mSlot_own R0 e
      obtain ⟨a, rfl, g⟩ := own_at own e2
      exact ⟨_, ev, .inr ⟨a, _, rfl, g, h _ fp H Ext.refl R0 (.int _)⟩⟩
theorem de_mlen {k : Nat} {x : Str} {p pc : Pos} (b : Bool) (hx : x = mFld b) (hr : Room k X.A) (hg : Gl X "len") (hm : X.mg "len" = none) (ho : PE X o (tVar s))
    (hss : starEach [.Subscript o (.Constant (.str x) n p2) pos] X.env = (false, eval (.Subscript o (.Constant (.str x) n p2) pos) X.env) :: starEach [] X.env := by rfl) : DE X W (.Call (.Name "len" p) [.Subscript o (.Constant (.str x) n p2) pos] [] pc) (cMlen s b) := by
  subst hx
  refine .mk ⟨_, pe_callB c_len hg hm (by rfl) (pa_cons (pe_mfld hr ho (mFld b)) pa_nil hss) (by decide) (by decide) hss (by rfl), fun E T io env fp σ H Q R0 h => ?_⟩
  unfold cMlen at h
  cases e : mSlot s env with
  | none => simp only [e, Option.bind_none] at h; exact h.elim
  | some d =>
    simp only [e, Option.bind_some] at h
    cases e2 : mPart b d with
    | none => simp only [e2] at h; exact h.elim
    | some ds =>
      simp only [e2] at h
      obtain ⟨v, ev, own⟩ := mSlot_own R0 e
      obtain ⟨a, c, vs, rfl, g, hc, rs, _⟩ := own_part own b e2
      refine ⟨_, ev, .inr ⟨a, _, rfl, g, .inl ⟨_, vs.length, rfl, .inl ⟨_, .inl (.inl hc), rfl⟩, ?_⟩⟩⟩
      rw [rs.length]
      exact h _ fp H Ext.refl R0 (.int _)
theorem dt_mne {k : Nat} {x : Str} {pc pl : Pos} (b : Bool) (hx : x = mFld b) (hr : Room k X.A) (ho : PE X o (tVar s)) (hm : behindInMarks .NotEq (.List [] pl) = false := by rfl) : DT X W (.Compare (.Subscript o (.Constant (.str x) n p2) pos) [.NotEq] [.List [] pl] pc) (tMne s b) := by
  subst hx
  refine .mk ⟨_, pt_cmpR (op_neD (by have := hr.un; omega)) (pe_mfld hr ho (mFld b)) (pe_lst pa_nil) hm, fun E T io env fp σ H Q R0 h => ?_⟩
  unfold tMne at h
  cases e : mSlot s env with
  | none => simp only [e, Option.bind_none] at h; exact h.elim
  | some d =>
    simp only [e, Option.bind_some] at h
    cases e2 : mPart b d with
    | none => simp only [e2] at h; exact h.elim
    | some ds =>
      simp only [e2] at h
      split at h
      · rename_i hpl
        obtain ⟨v, ev, own⟩ := mSlot_own R0 e
        obtain ⟨a, c, vs, rfl, g, hc, rs, _⟩ := own_part own b e2
        refine ⟨_, ev, .inr ⟨a, _, rfl, g, ?_⟩⟩
        refine ⟨Nat.zero_le _, fun q hq => ?_⟩
        have gr := grow_upd (o := .lst []) hq
        obtain ⟨a1, a2, a3⟩ := toPs_ok ds 59 _ hpl (rs.grow gr)
        have sh1 : SeqAt.shaped (.list (toPs ds)) = true := shaped_of a2 (Nat.succ_le_succ a3)
        refine ⟨.list (toPs ds), .list (toPs []), .lst (.inl (.inl (gr _ _ hc))) a1, .lst (.inl (.inl upd_same)) .nil, sh1, by rfl, ?_⟩
        have ee := eqv_deq (.lst ds) (.lst []) 60 60 hpl rfl
        rw [show PyData.eqv (.list (toPs ds)) (.list (toPs [])) = deq (.lst ds) (.lst []) from ee]
        exact ⟨_, rfl, h fp _ (Ext.grow gr) (R0.grow gr (hb_new R0.hb hq (Nat.zero_le _)))⟩
      · exact h.elim
/-- m["left"][1:] -/
theorem de_msl {k : Nat} {x : Str} {e : Expr} {flo : M TV} (b : Bool) (hx : x = mFld b) (hr : Room k X.A) (ho : PE X o (tVar s)) {j : Int} (he : PE X e (tC (.int j))) : DE X W (.Subscript (.Subscript o (.Constant (.str x) n p2) pos) (.Slice (some e) none none p3) p4) (cMsl s b j) := by
  subst hx
  refine .mk ⟨_, pe_slice sl_All (pe_mfld hr ho (mFld b)) (po_some he) po_none, fun E T io env fp σ H Q R0 h => ?_⟩
  unfold cMsl at h
  cases e : mSlot s env with
  | none => simp only [e, Option.bind_none] at h; exact h.elim
  | some d =>
    simp only [e, Option.bind_some] at h
    cases e2 : mPart b d with
    | none => simp only [e2] at h; exact h.elim
    | some ds =>
      simp only [e2] at h
      obtain ⟨v, ev, own⟩ := mSlot_own R0 e
      obtain ⟨a, c, vs, rfl, g, hc, rs, _⟩ := own_part own b e2
      refine ⟨_, ev, .inr ⟨a, _, rfl, g, ⟨j, rfl, .inl ⟨c, vs, rfl, .inl (.inl hc), fun p hp => ?_⟩⟩⟩⟩
      have hl : (cutV vs (some j) none).length ≤ sizeLine := Nat.le_trans (cutV_length vs _ _) (R0.hb _ _ (.inl (.inl hc)))
      have gr := grow_upd (o := .lst (cutV vs (some j) none)) hp
      have r2 := R0.more (q := fun b => b = p) gr (fun a z => by rw [z]; exact hp) (fun a z => by rw [z]; exact ⟨_, upd_same, trivial⟩) (hb_new R0.hb hp hl)
      refine h _ fp _ (Ext.grow gr) (fun b => b = p) r2 ⟨p, _, _, rfl, rfl, upd_same, ?_, rfl⟩ fun a z => ⟨fun z' => R0.avH (.inl z') (by rw [z]; exact hp), fun z' => R0.old a z' (by rw [z]; exact hp), .inl (by rw [z]; exact hp)⟩
      refine (cut_reps rs (some j) none).mono (fun a o _ e _ => gr a o e) fun a z => ?_
      rcases z with (z | z) | z
      · exact .inl (.inl z)
      · exact .inr (by rw [z]; exact hp)
      · exact .inl (.inr z)
/-- m["cells"][i] -/
theorem de_mix {k : Nat} {x : Str} {ie : Expr} {fi : M TV} (b : Bool) (hx : x = mFld b) (hr : Room k X.A) (ho : PE X o (tVar s)) (hi : DE X W0 ie fi) (hp1 : PlainIx ie) : DE X W (.Subscript (.Subscript o (.Constant (.str x) n p2) pos) ie p3) (cMix s b fi) := by
  subst hx
  obtain ⟨ti, pi, si⟩ := hi.out
  refine .mk ⟨_, pe_ix (ix_A hr) (pe_mfld hr ho (mFld b)) pi hp1, fun E T io env fp σ H Q R0 h => ?_⟩
  unfold cMix at h
  split at h
  · rename_i d e
    cases e2 : mPart b d with
    | none => simp only [e2] at h; exact h.elim
    | some ds =>
      simp only [e2] at h
      obtain ⟨v, ev, own⟩ := slot_own R0 e
      obtain ⟨a, c, vs, rfl, g, hc, rs, hqc⟩ := own_part own b e2
      have nl := unlk e (fun _ _ z => nomatch z)
      obtain ⟨r0, x0⟩ := R0.lock e
      have hi := (List.getElem?_eq_some_iff.mp e).1
      refine ⟨_, ev, .inr ⟨a, _, rfl, g, ?_⟩⟩
      refine si E T io _ fp σ H _ r0 ?_
      cases e3 : fi (env.set s (.lk .m d)) with
      | stuck => rw [e3] at h; exact h.elim
      | ex _ _ => rw [e3] at h; exact h.elim
      | ok t env1 =>
        rw [e3] at h
        simp only [Res.bindN] at h
        refine oke_hold fun iv fp1 H1 x1 r1 h1 => ?_
        split at h
        · rename_i i e4
          split at h
          · rename_i x e5
            rw [rep1_int (h1.get r1 e4)]
            have hc1 : H1 c = some (.lst vs) := x1.chg c _ (nt_of rfl) hc fun j z => by
              have : j = s := R0.dis j s c z hqc
              subst this
              exact ⟨.m, d, List.getElem?_set_self hi⟩
            obtain ⟨y, ey, p⟩ := atI_reps ((x0.trans x1).reps rs) e5
            exact .inl (.inl ⟨c, vs, i, y, rfl, rfl, .inl (.inl hc1), ey, h y fp1 H1 ((x0.trans x1).unlock fun j z => by cases z; exact nl) (r1.unlock (lk := some s)) p⟩)
          · exact h.elim
        · exact h.elim
  · exact h.elim
end
end VL
namespace VL
open PySem PySem.Spec PyProof.Rows L2
variable [tt : TabList]

/-! ### the draws: stores -/
def mParts : D → Option (List D × Int × List D)
  | .dct _ [.lst c, .int i, .lst l] => some (c, i, l)
  | _ => none
def gMat (s : Nat) : D → Env → Option Env := fun v env => match v, env[s]? with
  | .int j, some (.ow .m d) => match mParts d with
    | some (c, _, l) => some (env.set s (.ow .m (mD c j l)))
    | none => none
  | _, _ => none
/-- m["left"][k] = v -/
def gMleft (s : Nat) (k : Int) : D → Env → Option Env := fun v env => match env[s]? with
  | some (.ow .m d) => match mParts d with
    | some (c, i, l) => match ixN l.length k with
      | some j => some (env.set s (.ow .m (mD c i (l.set j v))))
      | none => none
    | none => none
  | _ => none
/-- m["left"] = a new list -/
def sMleft (s : Nat) (fe : M TV) : SM := fun env => match fe env with
  | .ok (.ow .l (.lst ld)) env1 => match env1[s]? with
    | some (.ow .m d) => match mParts d with
      | some (c, i, _) => .nx (env1.set s (.ow .m (mD c i ld)))
      | none => .stuck
    | _ => .stuck
  | .ok _ _ => .stuck
  | .ex e env1 => .ex e env1
  | .stuck => .stuck
section
variable {B : Bas} {H : Hp} {av : Addr → Prop} {v : V} {d : D} {q : Addr → Prop}
theorem own_parts (o : Own B H av .m v d q) {cd ld : List D} {i : Int} (e : mParts d = some (cd, i, ld)) : ∃ (a c l : Addr) (cs ls : List V), v = .ref a ∧ H a = some (.dK [(mK "cells", .ref c), (mK "at", .int i), (mK "left", .ref l)]) ∧ H c = some (.lst cs) ∧ Reps B H av cs cd ∧ H l = some (.lst ls) ∧ Reps B H av ls ld ∧ c ≠ l ∧ q = (fun b => b = a ∨ b = c ∨ b = l) := by
  obtain ⟨a, c, l, at_, cs, ls, cd', ld', rfl, rfl, ea, ec, rc, el, rl, hne, rfl⟩ := o
  cases e
  exact ⟨a, c, l, cs, ls, rfl, ea, ec, rc, el, rl, hne, rfl⟩
theorem mput_at {c l : Addr} {i j : Int} : putK [(mK "cells", V.ref c), (mK "at", .int i), (mK "left", .ref l)] (mK "at") (.int j) = [(mK "cells", V.ref c), (mK "at", .int j), (mK "left", .ref l)] := by
  have h1 : (mK "cells" : Key) ≠ mK "at" := by decide
  have h2 : (mK "left" : Key) ≠ mK "at" := by decide
  simp [putK, h1, h2]
theorem mput_left {c l : Addr} {i : Int} {x : V} : putK [(mK "cells", V.ref c), (mK "at", .int i), (mK "left", .ref l)] (mK "left") x = [(mK "cells", V.ref c), (mK "at", .int i), (mK "left", x)] := by
  have h1 : (mK "cells" : Key) ≠ mK "left" := by decide
  have h2 : (mK "at" : Key) ≠ mK "left" := by decide
  simp [putK, h1, h2]
end
section
variable {X : Cx} {W : WX} {o : Expr} {pos p2 p3 p4 p5 : Pos} {s n : Nat} {nio : Bool}
theorem dgx_mat {k : Nat} (hr : Room k X.A) (ho : PE X o (tVar s)) (ha : ∀ v, assign (.Subscript o (.Constant (.str "at") n p2) pos) X.env v = (do
      let ov ← holding [v] (eval o X.env)
      let iv ← holding [v, ov] (eval (.Constant (.str "at") n p2) X.env)
      standAt pos
      holding [v, ov, iv] (setItem ov iv v)
      release [v, ov, iv] []) := by intro _; rfl) : DGx X nio (.Subscript o (.Constant (.str "at") n p2) pos) (gMat s) := by
  refine ⟨fun pins sh σ H v u Q I rv ⟨E, T, io, env, fp, d, env', hn, r, p, e, kk⟩ => (pg_sub ho pe_str (set_A hr) ha).run pins sh σ H v u Q I rv ?_⟩
  unfold gMat at e
  split at e
  · rename_i j dm e1
    cases e2 : mParts dm with
    | none => simp only [e2] at e; cases e
    | some t =>
      obtain ⟨cd, i, ld⟩ := t
      simp only [e2] at e
      cases e
      obtain ⟨v0, ev, own⟩ := slot_own r e1
      obtain ⟨a, c, l, cs, ls, rfl, ea, ec, rc, el, rl, hne, hf⟩ := own_parts own e2
      cases p
      refine ⟨_, ev, .inr ⟨a, _, rfl, .inl ⟨_, mK "at", ea, rfl, by show 3 < sizeLine; decide, rfl⟩, ?_⟩⟩
      rw [mput_at]
      have hca : c ≠ a := fun z => by rw [z, ea] at ec; cases ec
      have hla : l ≠ a := fun z => by rw [z, ea] at el; cases el
      have hava : avOf T fp a := .inr ⟨s, by rw [hf]; exact .inl rfl⟩
      have kp : ∀ b o, H b = some o → ¬ avOf T fp b → upd H a (.dK [(mK "cells", V.ref c), (mK "at", .int j), (mK "left", .ref l)]) b = some o := fun b o eb nb => by rw [upd_ne fun z => nb (by rw [z]; exact hava)]; exact eb
      have md : Mutd (bas X) (fp s) H (upd H a (.dK [(mK "cells", V.ref c), (mK "at", .int j), (mK "left", .ref l)])) := ⟨fun b o eb nb => by rw [upd_ne fun z => nb (by rw [z, hf]; exact .inl rfl)]; exact eb, (Mutd.upd (B := bas X) (o' := .dK [(mK "cells", V.ref c), (mK "at", .int j), (mK "left", .ref l)]) ea trivial).typ, (Mutd.upd (B := bas X) (o' := .dK [(mK "cells", V.ref c), (mK "at", .int j), (mK "left", .ref l)]) ea trivial).dom⟩
      have hb := hb_dct (a := a) (ob := .dK [(mK "cells", V.ref c), (mK "at", .int j), (mK "left", .ref l)]) r.hb (fun xs => ⟨fun z => (nomatch z), fun z => (nomatch z)⟩) (fun o u z => (nomatch z))
      obtain ⟨r2, x2⟩ := r.mut (κ' := .m) (d' := mD cd j ld) e1 ev md hb ⟨a, c, l, j, cs, ls, cd, ld, rfl, rfl, upd_same, by rw [upd_ne hca]; exact ec, rc.mono (fun b o _ e n => kp b o e n) fun _ z => .inl z, by rw [upd_ne hla]; exact el, rl.mono (fun b o _ e n => kp b o e n) fun _ z => .inl z, hne, hf⟩
      exact kk σ fp _ r2 x2
  · cases e
theorem dgx_mleft {k : Nat} {ie : Expr} {j : Int} (hr : Room k X.A) (ho : PE X o (tVar s)) (hi : PE X ie (tC (.int j))) (ha : ∀ v, assign (.Subscript (.Subscript o (.Constant (.str "left") n p2) pos) ie p3) X.env v = (do
      let ov ← holding [v] (eval (.Subscript o (.Constant (.str "left") n p2) pos) X.env)
      let iv ← holding [v, ov] (eval ie X.env)
      standAt p3
      holding [v, ov, iv] (setItem ov iv v)
      release [v, ov, iv] []) := by intro _; rfl) : DGx X nio (.Subscript (.Subscript o (.Constant (.str "left") n p2) pos) ie p3) (gMleft s j) := by
  refine ⟨fun pins sh σ H v u Q I rv ⟨E, T, io, env, fp, d, env', hn, r, p, e, kk⟩ => (pg_sub (pe_mfld hr ho "left") hi (set_A hr) ha).run pins sh σ H v u Q I rv ?_⟩
  unfold gMleft at e
  split at e
  · rename_i dm e1
    cases e2 : mParts dm with
    | none => simp only [e2] at e; cases e
    | some t =>
      obtain ⟨cd, i, ld⟩ := t
      simp only [e2] at e
      cases e3 : ixN ld.length j with
      | none => simp only [e3] at e; cases e
      | some m =>
      simp only [e3] at e
      cases e
      obtain ⟨v0, ev, own⟩ := slot_own r e1
      obtain ⟨a, c, l, cs, ls, rfl, ea, ec, rc, el, rl, hne, hf⟩ := own_parts own e2
      refine ⟨_, ev, .inr ⟨a, _, rfl, .inl ⟨_, mK "left", .inl ea, rfl, mget_left.symm⟩, .inl ⟨l, ls, j, m, rfl, rfl, el, by rw [rl.length]; exact e3, ?_⟩⟩⟩
      have hal : a ≠ l := fun z => by rw [← z, ea] at el; cases el
      have havl : avOf T fp l := .inr ⟨s, by rw [hf]; exact .inr (.inr rfl)⟩
      have kp : ∀ b o, H b = some o → ¬ avOf T fp b → upd H l (.lst (ls.set m v)) b = some o := fun b o eb nb => by rw [upd_ne fun z => nb (by rw [z]; exact havl)]; exact eb
      have md : Mutd (bas X) (fp s) H (upd H l (.lst (ls.set m v))) := ⟨fun b o eb nb => by rw [upd_ne fun z => nb (by rw [z, hf]; exact .inr (.inr rfl))]; exact eb, (Mutd.upd (B := bas X) (o' := .lst (ls.set m v)) el trivial).typ, (Mutd.upd (B := bas X) (o' := .lst (ls.set m v)) el trivial).dom⟩
      have hb := hb_set (ws := ls.set m v) r.hb el (by rw [List.length_set]; exact r.hb _ ls (.inl (.inl el)))
      obtain ⟨r2, x2⟩ := r.mut (κ' := .m) (d' := mD cd i (ld.set m d)) e1 ev md hb ⟨a, c, l, i, cs, ls.set m v, cd, ld.set m d, rfl, rfl, by rw [upd_ne hal]; exact ea, by rw [upd_ne hne]; exact ec, rc.mono (fun b o _ e n => kp b o e n) fun _ z => .inl z, upd_same, (Reps.set p m rl).mono (fun b o _ e n => kp b o e n) fun _ z => .inl z, hne, hf⟩
      exact kk σ fp _ r2 x2
  · cases e
theorem ds_mleft {k : Nat} {e : Expr} {fe : M TV} (hr : Room k X.A) (ho : PE X o (tVar s)) (he : DE X W e fe) (hs : swapsWithSole [.Subscript o (.Constant (.str "left") n p2) p3] e pos.line X.env = pure false := by rfl) (hw : swappedStores [.Subscript o (.Constant (.str "left") n p2) p3] e X.env = pure none := by rfl)
    (h1 : (assignEach [.Subscript o (.Constant (.str "left") n p2) p3] X.env).map (·.2) = [assign (.Subscript o (.Constant (.str "left") n p2) p3) X.env] := by rfl) (ha : ∀ v, assign (.Subscript o (.Constant (.str "left") n p2) p3) X.env v = (do
      let ov ← holding [v] (eval o X.env)
      let iv ← holding [v, ov] (eval (.Constant (.str "left") n p2) X.env)
      standAt p3
      holding [v, ov, iv] (setItem ov iv v)
      release [v, ov, iv] []) := by intro _; rfl) : DS X W nio (.Assign [.Subscript o (.Constant (.str "left") n p2) p3] e pos) (sMleft s fe) := by
  obtain ⟨t, p, sd⟩ := he.out
  refine .mk ⟨_, ps_asg p (pg_sub ho pe_str (set_A hr) ha) hs hw h1, fun E T io env fp σ H D nn r h => ?_⟩
  refine sd E T io env fp σ H _ r ?_
  unfold sMleft at h
  cases c1 : fe env with
  | stuck => rw [c1] at h; exact h.elim
  | ex x env1 => rw [c1] at h; exact fun cls dx fp' H' y r2 ex => h cls dx σ fp' H' y r2 ex
  | ok tv env1 =>
  rw [c1] at h
  cases tv with
  | sl _ => exact h.elim
  | fz _ => exact h.elim
  | ow κ dd =>
  cases κ with
  | dk => exact h.elim
  | dt => exact h.elim
  | l2 => exact h.elim
  | m => exact h.elim
  | l =>
  cases dd with
  | lst ld' =>
    simp only at h
    split at h
    · rename_i dm e1
      cases e2 : mParts dm with
      | none => simp only [e2] at h; exact h.elim
      | some tt =>
      obtain ⟨cd, i, ld⟩ := tt
      simp only [e2] at h
      intro v fp1 H1 x1 q r1 o1 hq
      obtain ⟨pp, ws, es, rfl, e0, hp1, rws, rfl⟩ := own_l o1
      cases e0
      obtain ⟨v0, ev, own⟩ := slot_own r1 e1
      obtain ⟨a, c, l, cs, ls, rfl, ea, ec, rc, el, rl, hne, hf⟩ := own_parts own e2
      refine ⟨_, ev, .inr ⟨a, _, rfl, .inl ⟨_, mK "left", ea, rfl, by show 3 < sizeLine; decide, rfl⟩, ?_⟩⟩
      rw [mput_left]
      have hi := (List.getElem?_eq_some_iff.mp e1).1
      have nl := unlk e1 (fun _ _ z => nomatch z)
      have hca : c ≠ a := fun z => by rw [z, ea] at ec; cases ec
      have hpa : pp ≠ a := fun z => by rw [z, ea] at hp1; cases hp1
      have offp : ∀ j, ¬ fp1 j pp := fun j z => r1.offT j pp z (.inr rfl)
      have hcp : c ≠ pp := fun z => offp s (by rw [hf, ← z]; exact .inr (.inl rfl))
      have hsa : fp1 s a := by rw [hf]; exact .inl rfl
      have hsc : fp1 s c := by rw [hf]; exact .inr (.inl rfl)
      have hb := hb_dct (a := a) (ob := .dK [(mK "cells", V.ref c), (mK "at", .int i), (mK "left", .ref pp)]) r1.hb (fun xs => ⟨fun z => (nomatch z), fun z => (nomatch z)⟩) (fun o u z => (nomatch z))
      have md := Mutd.upd (B := bas X) (o' := .dK [(mK "cells", V.ref c), (mK "at", .int i), (mK "left", .ref pp)]) ea trivial
      have kp : ∀ (av : Addr → Prop) b o, av a → H1 b = some o → ¬ av b → upd H1 a (.dK [(mK "cells", V.ref c), (mK "at", .int i), (mK "left", .ref pp)]) b = some o := fun av b o h eb nb => by rw [upd_ne fun z => nb (by rw [z]; exact h)]; exact eb
      have avs : ∀ b, avOf T (setF fp1 s fun b => b = a ∨ b = c ∨ b = pp) b → avOf (fun a => T a ∨ a = pp) fp1 b := fun b z => by
        rcases z with z | ⟨j, z⟩
        · exact .inl (.inl z)
        · by_cases hj : j = s
          · subst hj
            rw [setF_same] at z
            rcases z with z | z | z
            · rw [z]; exact .inr ⟨_, hsa⟩
            · rw [z]; exact .inr ⟨_, hsc⟩
            · exact .inl (.inr z)
          · rw [setF_ne hj] at z; exact .inr ⟨j, z⟩
      have kT : ∀ p ∈ tt.T, LamX.TabS H1 p.1 p.2 → LamX.TabS (upd H1 a (.dK [(mK "cells", V.ref c), (mK "at", .int i), (mK "left", .ref pp)])) p.1 p.2 := tab_keep fun b o no eb => md.keep b o eb fun z => no (by subst z; rw [ea] at eb; cases eb; trivial)
      have r2 := r1.put (T := T) (i := s) (sv := .ow .m (mD cd i ld')) (x := some (.ref a)) (q := fun b => b = a ∨ b = c ∨ b = pp) (H' := upd H1 a (.dK [(mK "cells", V.ref c), (mK "at", .int i), (mK "left", .ref pp)])) (σ' := σ) hi (fun _ z => .inl z)
        (fun b z => by
          rcases z with z | z | z
          · rw [z]; exact .inr (.inl hsa)
          · rw [z]; exact .inr (.inl hsc)
          · exact .inl (.inr z))
        (fun b z z' => by
          rcases z with z | z | z
          · subst z; exact r1.offT s b hsa (.inl z')
          · subst z; exact r1.offT s b hsc (.inl z')
          · exact (hq b z).1 z')
        (fun b z => by
          rcases z with z | z | z
          · rw [z]; exact ⟨_, upd_same, trivial⟩
          · rw [z]; exact ⟨.lst cs, by rw [upd_ne hca]; exact ec, trivial⟩
          · rw [z]; exact ⟨.lst ws, by rw [upd_ne hpa]; exact hp1, trivial⟩)
        (fun b z zE => by
          rcases z with z | z | z
          · subst z; exact r1.new s b hsa zE
          · subst z; exact r1.new s b hsc zE
          · exact absurd zE (hq b z).2.1)
        (fun b o _ eb nb => by rw [upd_ne fun z => nb (by rw [z]; exact hsa)]; exact eb) kT md.typ md.dom rfl (fun _ _ => rfl) ev r1.io0 hb
        ⟨.ref a, rfl, a, c, pp, i, cs, ws, cd, ld', rfl, rfl, upd_same, by rw [upd_ne hca]; exact ec, (rc.mono (fun b o _ => kp _ b o (.inr ⟨s, hsa⟩)) fun b z => .inl (avs b z)), by rw [upd_ne hpa]; exact hp1, (rws.mono (fun b o _ => kp _ b o (.inr ⟨s, hsa⟩)) fun b z => .inl (avs b z)), hcp, rfl⟩
      have hqp := hq pp rfl
      have x2 : Ext env fp H (env1.set s (.ow .m (mD cd i ld'))) (setF fp1 s fun b => b = a ∨ b = c ∨ b = pp) (upd H1 a (.dK [(mK "cells", V.ref c), (mK "at", .int i), (mK "left", .ref pp)])) := by
        refine ⟨fun b o nt eb nb => ?_, fun j b z hx => ?_, fun b z => md.dom b (x1.dom b z), (fun b o eb w => by obtain ⟨o', e', w'⟩ := x1.typ b o eb w; exact md.typ b o' e' w'), fun P q z => kT P q (x1.tab P q z)⟩
        · have h1 := x1.chg b o nt eb nb
          rw [upd_ne fun z => ?_]
          · exact h1
          · subst z
            obtain ⟨j, z1, z2⟩ := x1.sub s b hsa (by rw [eb]; exact fun z => nomatch z)
            exact nl (z2 (nb j z1)).2
        · by_cases hj : j = s
          · subst hj
            rw [setF_same] at z
            have back : ∀ b, fp1 j b → H b ≠ none → ∃ k, fp k b ∧ (Lk env k → j = k ∧ Lk (env1.set j (.ow .m (mD cd i ld'))) j) := fun b hb' hx => by
              obtain ⟨k, z1, z2⟩ := x1.sub j b hb' hx
              exact ⟨k, z1, fun l => absurd (z2 l).2 nl⟩
            rcases z with z | z | z
            · subst z; exact back b hsa hx
            · subst z; exact back b hsc hx
            · subst z
              rcases hqp.2.2 with z | ⟨k, z1, z2⟩
              · exact absurd z hx
              · exact ⟨k, z1, fun l => absurd l z2⟩
          · rw [setF_ne hj] at z
            obtain ⟨k, z1, z2⟩ := x1.sub j b z hx
            exact ⟨k, z1, fun l => ⟨(z2 l).1, lk_keep hj (z2 l).2⟩⟩
      exact h σ _ _ x2 r2
    · exact h.elim
  | _ => exact h.elim
end
end VL
namespace VL
open PySem PySem.Spec PyProof.Rows L2
variable [tt : TabList]

/-- ValueError.__init__ bound to an exception, called -/
theorem call_mw {prog : Program} {w : World} {A : Around} {E : Value → Shared → Prop} {h : Heap} {g : Array GenState} {d : Drawn} {t : Nat} {os : OsState} {nm q : Str} {C N u e t0 : Addr} {bs bm : List Value} {sn : List Str} {sub : List Value} {ab : Bool} {col : Option Bool} {dd : Option Addr} {k0 k1 k2 k3 k5 : Option Value} {rest : List Value} {Q : Value → Shared → Prop}
    (hC : h.get? C = some (excClassObj nm q C N bs bm true sn sub ab col dd k0 k1 k2 k3 k5 "ValueError.__new__")) (he : h.get? e = some (PySem.HandSPX.excO C t0)) (hu : h.get? u = some (PySem.W.kxs_mw "ValueError.__init__" e)) (hrest : rest.length ≤ sizeLine)
    (hq : ∀ h' t1, (∀ b o, b ≠ e → h.get? b = some o → h'.get? b = some o) → h'.get? e = some (PySem.HandSPX.excO C t1) → Q .none ⟨h', g, d, t, os⟩) : wpAny (model prog w) A (call (.ref u) rest) Q E ⟨h, g, d, t, os⟩ := by
  refine wpAny_call (codeAny_of_tree ?_)
  show wpAny _ A.in1 (callAny (.ref u) ⟨rest, []⟩) _ _ _
  simp only [callAny]
  refine wpAny_bind (wpAny_load hu ?_)
  simp only [PySem.W.kxs_mw, show (Value.type "method-wrapper" == Value.type "method" || Value.type "method-wrapper" == Value.type "builtin_function_or_method" || Value.type "method-wrapper" == Value.type "method-wrapper") = true by decide, if_true]
  refine PySem.W.KFB.if_so (by decide) ?_
  refine wpAny_bind (PySem.W.check_bound_init F.excBase_ValueError.toExcCallFacts hC he rfl ?_)
  refine wpAny_bind (wpAny_pure (wpAny_pure ?_))
  refine ⟨plainId_quiet F.excBase_ValueError.init.plain _, codeAny_builtin F.excBase_ValueError.initEntry ?_⟩
  exact PySem.W.exc_init_tree (cls := .ref C) (t0 := t0) (dv := none) (c2 := .none) (c3 := .none) (b4 := .bool false) he hrest fun h' kp e' _ => hq h' _ kp e'

/-! ### class X(.. ValueError): def __init__(self, y): super().__init__("..", y); self.f = y -/
def spInit (C : Addr) (fld : Str) : Sp := fun vs H Q _ => ∃ a v, vs = [.ref a, v] ∧ H a = some (exo a C none) ∧ ∀ dx, H dx = none → dx ≠ a → Q .non (upd (upd H dx (exd dx [(fld, v)])) a (exo a C (some dx)))
section
variable {P : Program} {w : World} {K : PySem.W.Frag} {mg : Str → Option Value} {base : Heap} {CX : CXT} {k : Nat} {f C D cda cc : Addr} {x y txt fld : Str} {oc ccl cl : Value} {od cdd cld : Option Addr} {osl ccs csl : Array (Option Value)} {p0 p1 p2 p3 p4 p5 p6 p7 p8 p9 p10 : Pos} {nt : Nat} {name qual : Str} {params : Arguments} {scope : Scope}
  {dV kV doc pm ct : Value} {an : Option Addr} {ar : Arg} {vs : Array Value} {file : Str} {tf : Tok} {cdD : PySem.ClassData} {pl : PySem.Env → Sem Bool}
theorem fn_init (T : OexC K C) (lk : K.lookup f = some ⟨oc, od, .func (PySem.W.fnX name qual params [.Expr (.Call (.Attribute (.Call (.Name "super" p0) [] [] p1) "__init__" p2) [.Constant (.str txt) nt p3, .Name y p4] [] p5) p6, .Assign [.Attribute (.Name x p7) fld p8] (.Name y p9) p10] scope [("__class__", cc)] dV kV doc pm an (.ref cda) ct), osl⟩)
    (hcd : PySem.W.codeIn K (.ref cda) qual = true) (hp : (params.posonlyargs ++ params.args).head? = some ar) (har : ar.arg = x) (hcode : K.lookup cda = some ⟨ccl, cdd, .fields vs, ccs⟩) (hvs : vs[2]? = some (.str file tf)) (hfile : ((P.main.file : Str) == file) = true)
    (hcell : K.lookup cc = some ⟨cl, cld, .cell (some (.ref D)), csl⟩) (hD : PySem.W.clsIn K D = some cdD) (hsub : PySem.W.mroIn K C (.ref D) = some true) (hsuper : mg "super" = none) (htop : (P.main.scope.names.lookup ("super" : Str)).isSome = false)
    (hm : PySem.W.ks_superIn K C D "__init__" = some (some (.builtin "ValueError.__init__"))) (hB : PySem.W.subIn K (.ref C) (.type "ValueError") = some true) (hop : PySem.W.nsIn K PySem.cStatics "thirdparty.any" = some none) (hno : PySem.W.findIn K (.ref C) fld = some none)
    (hks : scope.names.lookup ("super" : Str) = some .globalImplicit) (hkc : scope.names.lookup ("__class__" : Str) = some .free) (hkx : scope.names.lookup x = some .local) (hky : scope.names.lookup y = some .local) (hxy : x ≠ y) (hcel : ∀ z ∈ scope.names, z.2 ≠ .cell)
    (he : ∀ env : PySem.Env, eval (.Call (.Attribute (.Call (.Name "super" p0) [] [] p1) "__init__" p2) [.Constant (.str txt) nt p3, .Name y p4] [] p5) env = (do
      let ov ← attributeBase (.Call (.Name "super" p0) [] [] p1) "__init__" env (eval (.Call (.Name "super" p0) [] [] p1) env)
      standAt p2.atName
      let (f, first) ← holding [ov] (getMethod ov "__init__" (pl env))
      callWith p5 f first (backTo p5 (starEach [.Constant (.str txt) nt p3, .Name y p4] env)) []))
    (hsw1 : ∀ env : PySem.Env, swapsWith (.Call (.Attribute (.Call (.Name "super" p0) [] [] p1) "__init__" p2) [.Constant (.str txt) nt p3, .Name y p4] [] p5) none p6.line env = pure false) (hsw2 : ∀ env : PySem.Env, swapsWith (.Name y p9) (some (.Attribute (.Name x p7) fld p8)) p10.line env = pure false)
    (hk : scope.kind = .function) (hgen : scope.isGenerator = false) (hco : scope.isCoroutine = false) (hdx : (x == ("__debug__" : Str)) = false := by decide) (hdy : (y == ("__debug__" : Str)) = false := by decide) :
    FnOk P w K mg base CX (k + 1) f (PySem.W.fnX name qual params [.Expr (.Call (.Attribute (.Call (.Name "super" p0) [] [] p1) "__init__" p2) [.Constant (.str txt) nt p3, .Name y p4] [] p5) p6, .Assign [.Attribute (.Name x p7) fld p8] (.Name y p9) p10] scope [("__class__", cc)] dV kV doc pm an (.ref cda) ct) [x, y] (spInit C fld) := by
  refine ⟨fun vs H Q E ⟨a, v, e, _⟩ => by rw [e]; rfl, fun A outer s H args us vs' Q E hr e0 hb r hsp => ?_⟩
  obtain ⟨a, v, rfl, ea, q⟩ := hsp
  obtain ⟨u1, u2, rfl, r1, r2⟩ := vals2 r
  cases (show u1 = Value.ref a from r1)
  have KX : K.In s.heap := e0.mod.kin.keeps fun b o e => (e0.bs b o e).1
  have lim : s.heap.NoLimit := e0.mod.nolimit.keeps fun b o e => (e0.bs b o e).1
  refine PySem.ks_codeAny_call_defAt hr.depth (KX _ _ lk) rfl lim (PySem.W.codeRec_of KX hcd) rfl hb hcel (fun z hz => ?_) (fun h₁ hns hk₁ => ?_) hco hgen hk
  · rcases List.mem_cons.mp hz with e | hz
    · rw [e]; exact hkx
    · rcases List.mem_cons.mp hz with e | hz
      · rw [e]; exact hky
      · cases hz
  -- the frame
  obtain ⟨t0, hoa⟩ := exo_at e0.hok ea
  have hg1 : ∀ b o, s.heap.get? b = some o → h₁.get? b = some o := hk₁
  have K1 : K.In h₁ := KX.keeps hk₁
  have hoa1 := hk₁ _ _ hoa
  have eAr : ar.arg = x := har
  obtain ⟨nm, q', N, bs, bm, sn, sub, ab, col, dd, k0, k1, k2, k3, k5, hC, hbm⟩ := T.cls
  have hcl : PySem.W.clsIn K C = some { name := nm, bases := bs, mro := .ref C :: bm, ns := N, qualname := q', hasDict := true, slotNames := sn, subclasses := sub, abstract := ab, collection := col, hasDel := false } := by unfold PySem.W.clsIn; rw [hC] <;> rfl
  have hxC : a ≠ C := fun z => by
    have := KX _ _ hC
    rw [← z, hoa] at this
    cases this
  have vx : ([x, y].zip [Value.ref a, u2]).reverse.lookup x = some (.ref a) := by
    show [(y, u2), (x, Value.ref a)].lookup x = _
    have e : (x == y) = false := by simpa using hxy
    simp [List.lookup, e]
  have vy : ([x, y].zip [Value.ref a, u2]).reverse.lookup y = some u2 := by
    show [(y, u2), (x, Value.ref a)].lookup y = _
    simp [List.lookup]
  have ldy : ∀ {A' : Around} {E' : Value → Shared → Prop} {s' : Shared} {p : Pos} {Q' : Value → Shared → Prop}, s'.heap.get? s.heap.objs.size = h₁.get? s.heap.objs.size → Q' u2 s' → wpAny (model P w) A' (eval (.Name y p) (callEnv (PySem.W.fnX name qual params [.Expr (.Call (.Attribute (.Call (.Name "super" p0) [] [] p1) "__init__" p2) [.Constant (.str txt) nt p3, .Name y p4] [] p5) p6, .Assign [.Attribute (.Name x p7) fld p8] (.Name y p9) p10] scope [("__class__", cc)] dV kV doc pm an (.ref cda) ct) s.heap.objs.size f)) Q' E' s' := fun e hq => by
    obtain ⟨oL, es, ep, hL, rr⟩ := hns
    exact wpAny_Name (wpAny_loadName_local hk hky ⟨oL, es, ep, e.trans hL, rr⟩ vy hq) hdy
  have ldx : ∀ {A' : Around} {E' : Value → Shared → Prop} {s' : Shared} {p : Pos} {Q' : Value → Shared → Prop}, s'.heap.get? s.heap.objs.size = h₁.get? s.heap.objs.size → Q' (.ref a) s' → wpAny (model P w) A' (eval (.Name x p) (callEnv (PySem.W.fnX name qual params [.Expr (.Call (.Attribute (.Call (.Name "super" p0) [] [] p1) "__init__" p2) [.Constant (.str txt) nt p3, .Name y p4] [] p5) p6, .Assign [.Attribute (.Name x p7) fld p8] (.Name y p9) p10] scope [("__class__", cc)] dV kV doc pm an (.ref cda) ct) s.heap.objs.size f)) Q' E' s' := fun e hq => by
    obtain ⟨oL, es, ep, hL, rr⟩ := hns
    exact wpAny_Name (wpAny_loadName_local hk hkx ⟨oL, es, ep, e.trans hL, rr⟩ vx hq) hdx
  obtain ⟨mb, hmb, hmb2⟩ := e0.mod.blt
  have haL : a ≠ s.heap.objs.size := Nat.ne_of_lt (Heap.lt_size hoa)
  refine PySem.ks_wpAt_execs_cons (PySem.ks_wpAt_Expr_any (PySem.ks_wpAt_MethodCall (he := he _) ?_) ?_ (hsw1 _))
  · -- super()
    refine PySem.ks_wpAt_super_base hks hkc (by rfl) rfl (K1 _ _ lk) rfl hp rfl (K1 _ _ hcode) rfl hvs hfile htop ?_
    refine PySem.W.ks_loadName_global hk hks (Calls.loadGlobal_builtin (e0.mod.glob.keeps fun b o e => hk₁ _ _ (e0.bs b o e).1) hsuper (hmb.keeps fun b o e => hk₁ _ _ (e0.bs b o e).1) ((hmb2 _ (by decide)).trans (by rfl)) ⟨rfl, ?_⟩)
    refine wpAny_loadName_free hk hkc rfl ⟨_, K1 _ _ hcell, rfl⟩ ?_
    rw [eAr]
    refine wpAny_loadName_local hk hkx hns vx ?_
    obtain ⟨oD, hD1, hD2⟩ : ∃ oD, h₁.get? D = some oD ∧ oD.data = .cls cdD := by
      unfold PySem.W.clsIn at hD
      split at hD
      · rename_i c d cd' sl ho
        cases hD
        exact ⟨_, K1 _ _ ho, rfl⟩
      · cases hD
    refine PySem.ks_wpAny_isType_cls hD1 hD2 ⟨rfl, ?_⟩
    refine PySem.ks_wpAny_call_super hD1 hD2 hoa1 rfl (fun c e => nomatch e) (PySem.W.looks_mroIn K1 hsub) (fun h2 e2 kk2 => ?_)
    -- .__init__
    have K2 : K.In h2 := K1.keeps kk2
    have hoa2 := kk2 _ _ hoa1
    have hI : PySem.W.Looks (model P w) h2 (isInstance (.ref a) (.type "ValueError")) true := (PySem.W.InstAt.type (ox := { cls := .ref C, dict := none, data := .fields #[.ref t0, .none, .none, .none, .bool false, .none] }) (od := none) ⟨hoa2, rfl, rfl, trivial⟩).andThen (PySem.W.looks_subIn K2 hB)
    have hm' : PySem.W.alongIn K "__init__" (((Value.ref C :: bm).dropWhile (· != .ref D)).drop 1) = some (some (.builtin "ValueError.__init__")) := by
      unfold PySem.W.ks_superIn at hm
      rw [hcl] at hm
      exact hm
    refine PySem.W.kxs_getMethod PySem.W.kxs_ValueError e2 (PySem.W.looks_opaque K2 hop) (l₀ := .ref C :: bm) ?_ rfl K2 hm' hI hxC (by rfl) ?_
    · exact fun A Q E s k q => wpAny_bind ((PySem.W.looks_clsIn K2 hcl) A _ E s k (wpAny_pure q))
    have kk3 : ∀ b o, h2.get? b = some o → (h2.push (PySem.W.kxs_mw "ValueError.__init__" a)).get? b = some o := fun b o e => Heap.get?_push_of_some _ e
    have hmw : (h2.push (PySem.W.kxs_mw "ValueError.__init__" a)).get? h2.objs.size = some (PySem.W.kxs_mw "ValueError.__init__" a) := Heap.get?_push_at rfl rfl
    have hL1 : h₁.get? s.heap.objs.size ≠ none := by
      obtain ⟨oL, es, ep, hL, rr⟩ := hns
      rw [show h₁.get? s.heap.objs.size = some oL from hL]; exact fun z => nomatch z
    have up2 : ∀ b o, h₁.get? b = some o → (h2.push (PySem.W.kxs_mw "ValueError.__init__" a)).get? b = some o := fun b o e => kk3 b o (kk2 b o e)
    have sameL : ∀ {hh : Heap}, (∀ b o, b ≠ a → h₁.get? b = some o → hh.get? b = some o) → hh.get? s.heap.objs.size = h₁.get? s.heap.objs.size := fun kp => by
      cases q : h₁.get? s.heap.objs.size with
      | none => exact absurd q hL1
      | some o => exact kp _ _ (Ne.symm haL) q
    refine PySem.W.kxs_callWith (i := "ValueError.__init__") (x := a) (by rfl) (Calls.evalArgs_plain ?_)
    refine PyProof.Rows.args_cons (pos := p5) (rest := [.Name y p4]) (Calls.Constant_str ?_) (by rfl)
    refine PyProof.Rows.args_cons (pos := p5) (rest := []) (ldy (sameL fun b o _ e => up2 b o e) (PyProof.Rows.args_nil ?_)) (by rfl)
    refine ⟨hmw, ?_⟩
    refine call_mw (kk3 _ _ (K2 _ _ hC)) (kk3 _ _ hoa2) hmw (by show 2 ≤ sizeLine; decide) fun h4 t1 kk4 hoa4 => ?_
    -- self.f = y
    have up4 : ∀ b o, b ≠ a → h₁.get? b = some o → h4.get? b = some o := fun b o n e => kk4 b o n (up2 b o e)
    have K4 : K.In h4 := fun b o e => up4 b o (fun z => by
      have h1 := (e0.bs b o (e0.mod.kin b o e)).2
      rw [z, ea] at h1; cases h1) (K1 b o e)
    show _root_.PySem.wpAt _ _ _ (execs [_] _) _ _ _
    refine wpAt_of_wpAny (wpAny_execs_cons (plainObj_wpAny_Assign_Attribute (ldy (sameL up4) (ldx (sameL up4) ?_)) (hsw2 _)))
    refine PySem.W.set_plain K4 (ox := { cls := .ref C, dict := none, data := .fields #[.ref t1, .none, .none, .none, .bool false, .none] }) (od := none) ⟨hoa4, rfl, rfl, trivial⟩ T.sa ?_
    refine PySem.HandSPX.exc_osa K4 hoa4 hcl (show PySem.HandSPX.refsVE (.ref C :: bm) = true from hbm) rfl hno (fun h5 tk5 dx kk5 dn dne hx5 hn5 => ?_)
    refine wpAny_execs_nil ?_
    -- what is left of it
    have kall : ∀ b o, b ≠ a → s.heap.get? b = some o → h5.get? b = some o := fun b o n e => kk5 b o n (up4 b o n (hg1 b o e))
    have szz : s.heap.objs.size ≤ dx := by
      cases q : h4.get? s.heap.objs.size with
      | none => exact absurd ((sameL up4).symm.trans q) hL1
      | some o => exact Nat.le_of_lt (Nat.lt_of_lt_of_le (Heap.lt_size q) dn)
    have hnd : H dx = none := e0.hok.fresh szz
    have na : ∀ {b : Addr}, H b = none → b ≠ a := fun {b} n z => by rw [z, ea] at n; cases n
    have nd : ∀ {b : Addr} {o : Obj}, s.heap.get? b = some o → b ≠ dx := fun {b o} q => Nat.ne_of_lt (Nat.lt_of_lt_of_le (Heap.lt_size q) szz)
    refine ⟨.non, upd (upd H dx (exd dx [(fld, v)])) a (exo a C (some dx)), rfl, e0.bare, ⟨fun b o q n _ _ => kall b o (na n) q, fun b o q n _ _ => ⟨o.slots, kall b o (na n) q⟩, fun b o q n _ => by rw [upd_ne (na n), upd_ne (nd q)]; exact n, fun b o q _ => ?_,
      fun b xs q => by rw [upd_ne (at_ne ea q exo_tup), upd_ne (ne_of_none q hnd)]; exact q, fun b o v q => by rw [upd_ne (at_ne ea q exo_frz), upd_ne (ne_of_none q hnd)]; exact q, fun b ps q => ⟨#[], by rw [upd_ne (at_ne ea q exo_tbl), upd_ne (ne_of_none q hnd), q]; simp⟩⟩, fun b o q' => ?_, rfl, q dx hnd dne⟩
    · by_cases hb : b = a
      · exact ⟨_, by rw [hb]; exact hx5⟩
      · exact ⟨o, kall b o hb q⟩
    · by_cases hb : b = a
      · subst hb
        rw [upd_same] at q'
        cases q'
        exact exo_ok hx5
      · rw [upd_ne hb] at q'
        by_cases hd : b = dx
        · subst hd
          rw [upd_same] at q'
          cases q'
          exact exd_ok hn5 (relO_put (fs := []) r2 fun g => True.intro)
        · rw [upd_ne hd] at q'
          exact (e0.hok b o q').stay (fun c v hc z => kall c v (by
              rcases hc with hc | hc
              · rw [hc]
                exact hb
              · exact at_ne ea hc exo_own) z)
            (fun c hc => by rw [upd_ne (at_ne ea hc exo_own), upd_ne (ne_of_none hc hnd)]; exact hc) (fun c xs hc => by rw [upd_ne (at_ne ea hc exo_tup), upd_ne (ne_of_none hc hnd)]; exact hc)
  · show (scope.kind == .module && _) = false
    rw [hk]; rfl
end
end VL
namespace VL
open PySem PySem.Spec PyProof.Rows L2
variable [tt : TabList]

/-! ### raise X(e) -/
def sRaise (nm : Str) (fe : M TV) : SM := fun env => match fe env with
  | .ok t env1 => match frzV t with
    | some d => .ex ⟨nm, d⟩ env1
    | none => .stuck
  | .ex e env1 => .ex e env1
  | .stuck => .stuck
theorem hb_ext {H : Hp} {a : Addr} {ob : HO} (hb : HB H) (ha : H a = none) (h1 : ∀ xs, ob ≠ .lst xs ∧ ob ≠ .tup xs) (h2 : ∀ o u, ob ≠ .frz o u) : HB (upd H a ob) := hb_dct hb h1 h2
section
variable {X : Cx} {W : WX} {nio : Bool} {e : Expr} {fe : M TV} {pos cpos p : Pos}
theorem ds_raise {CX : CXT} {x fld : Str} {C fI : Addr} {k : Nat} {fd : FuncData} {ps : List Str} (hc : X.calm = true) (T : OexC X.K C) (iC : PySem.W.findIn X.K (.ref C) "__init__" = some (some (.ref fI))) (tI : PySem.W.typeIn X.K (.ref fI) = some (.type "function"))
    (F1 : FnOk X.prog X.w X.K X.mg X.base CX k fI fd ps (spInit C fld)) (hr : Room (k + 1) X.A) (hb : Binds X.K fd ps []) (hx : Passes CX X (fun _ _ _ => False)) (hg : Gl X x) (hm : X.mg x = some (.ref C)) (tk : Takes X W) (he : DE X W e fe) (hf : fldOf x = fld)
    (hdb : (x == ("__debug__" : Str)) = false := by decide) (hss : starEach [e] X.env = (false, eval e X.env) :: starEach [] X.env := by rfl) : DS X W nio (.Raise (some (.Call (.Name x p) [e] [] cpos)) none pos) (sRaise x fe) := by
  obtain ⟨t, pe, s⟩ := he.out
  refine .mk ⟨_, ps_raise hc tk (pmk_oex T iC tI F1 hr hb .nil hx hg hm (pa_cons pe pa_nil hss) hdb hss (by rfl)), fun E T' io env fp σ H D n r h => ?_⟩
  show t σ H fun v H1 => (([v] : List V).length ≤ 1000 ∧ ∀ a, H1 a = none → spInit C fld (.ref a :: ([v] ++ [])) (upd H1 a (exo a C none)) (fun v H2 => v = .non ∧ ∃ (d : Addr) (fs : List (Str × V)), H2 a = some (exo a C (some d)) ∧ H2 d = some (exd d fs) ∧ H1 d = none ∧ W (.ref C) (some d) σ (upd (del H2 a) d (.xd fs))) (fun _ _ _ => False))
  refine s E T' io env fp σ H _ r ?_
  unfold sRaise at h
  cases e1 : fe env with
  | stuck => rw [e1] at h; exact h.elim
  | ex x env1 => rw [e1] at h; exact fun cls dx fp' H' y r2 ex => h cls dx σ fp' H' y r2 ex
  | ok tv env1 =>
    rw [e1] at h
    simp only at h
    refine oke_hold fun v fp1 H1 x1 r1 h1 => ?_
    cases e2 : frzV tv with
    | none => simp only [e2] at h; exact h.elim
    | some d =>
      simp only [e2] at h
      refine ⟨by show 1 ≤ 1000; decide, fun a ha => ⟨a, v, rfl, upd_same, fun dx hdx hne => ⟨rfl, dx, [(fld, v)], upd_same, by rw [upd_ne hne, upd_same], by rw [upd_ne hne] at hdx; exact hdx, ?_⟩⟩⟩
      have hd1 : H1 dx = none := by rw [upd_ne hne] at hdx; exact hdx
      have eh : upd (del (upd (upd (upd H1 a (exo a C none)) dx (exd dx [(fld, v)])) a (exo a C (some dx))) a) dx (.xd [(fld, v)]) = upd H1 dx (.xd [(fld, v)]) := by
        funext b
        by_cases hb : b = dx
        · rw [hb, upd_same, upd_same]
        · rw [upd_ne hb, upd_ne hb]
          by_cases hba : b = a
          · rw [hba, del_same, ha]
          · rw [del_ne hba, upd_ne hba, upd_ne hb, upd_ne hba]
      rw [eh]
      have g := grow_upd (o := .xd [(fld, v)]) hd1
      have hb := hb_dct (a := dx) (ob := .xd [(fld, v)]) r1.hb (fun xs => ⟨fun z => (nomatch z), fun z => (nomatch z)⟩) (fun o u z => (nomatch z))
      exact h _ _ σ fp1 _ (x1.trans (Ext.grow g)) (r1.grow g hb) ⟨C, dx, v, rfl, hm, rfl, by rw [hf]; exact upd_same, (frzV_rep h1 e2).grow g⟩
end
end VL
namespace VL
open PySem PySem.Spec PyProof.Rows L2
variable [tt : TabList]

/-! ### try .. except X: .., try .. except X as n: return (.., n.f) -/
def noEx : SRes → SRes
  | .ex _ _ => .stuck
  | r => r
/-- m: does the clause take an exception of that class -/
def sTry1 (i : Option Nat) (m : Str → Option Bool) (fb : SM) (fs : D → SM) : SM := fun env => match fb env with
  | .ex e env1 => match m e.nm with
    | some true => noEx (fs e.arg (match i with | some j => env1.set j .no | none => env1))
    | some false => .ex e env1
    | none => .stuck
  | r => r
/-- what m says is so -/
def MatchOk (X : Cx) (c : Value) (m : Str → Option Bool) : Prop := ∀ nm C b, X.mg nm = some (.ref C) → m nm = some b → PySem.W.exmOne X.K (.ref C) c = some b
/-- the suite, run for an exception e that stands in slot i (if it has a name) -/
def SuiteOk (X : Cx) (nio : Bool) (i : Option Nat) (m : Str → Option Bool) (suite : List Stmt) (fs : D → SM) : Prop :=
  ∀ (a : Addr) (oe : Obj) (cls : Value) (d : Option Addr) (pn : List (Addr × Obj)), Zc cls d oe → (∃ vs, oe.data = .fields vs) → ∃ t, PSs (X.suite a ((a, oe) :: pn)) suite t ∧
    ∀ E T io env fp σ H D e, NioOk nio io → R (bas X) E T io fp env σ H → (∀ j, i = some j → σ[j]? = some (some (.ref a))) → ExR (bas X) H (avOf T fp) e cls d → m e.nm = some true → OKS (bas X) E T io env fp H D W0 (fs e.arg env) → t D σ H
section
variable {X : Cx} {W : WX} {nio : Bool} {pos : Pos}
theorem suite_plain {m : Str → Option Bool} {suite : List Stmt} {fs : SM} (h : ∀ (a : Addr) (oe : Obj) (cls : Value) (d : Option Addr) (pn : List (Addr × Obj)), Zc cls d oe → (∃ vs, oe.data = .fields vs) → DSs (X.suite a ((a, oe) :: pn)) W0 nio suite fs) : SuiteOk X nio none m suite (fun _ => fs) := fun a oe cls d pn hz hf =>
  ⟨_, h a oe cls d pn hz hf, fun E T io env fp σ H D e hn r _ _ _ k => ⟨E, T, io, env, fp, hn, r, k⟩⟩
/-- return ("..", n.f) -/
def sPair (txt : Str) (x : D) : SM := fun env => .rt (.fz (.tup [.str txt, x])) env
theorem suite_pair {i : Nat} {nm n fld txt : Str} {C : Addr} {p1 p2 p3 p4 p5 : Pos} {k1 k2 : Nat} (T : XfC X.K C) (hno : PySem.W.findIn X.K (.ref C) fld = some none) (hm : X.mg nm = some (.ref C)) (hf : fldOf nm = fld) {m : Str → Option Bool} (hme : ∀ z, m z = some true → z = nm)
    (hv : ∀ (a : Addr) (oe : Obj) (pn : List (Addr × Obj)), PE (X.suite a ((a, oe) :: pn)) (.Name n p3) (tVar i)) (hs1 : ∀ env : PySem.Env, starEach [.Constant (.str txt) k1 p2, .Attribute (.Name n p3) fld p4] env = (false, eval (.Constant (.str txt) k1 p2) env) :: starEach [.Attribute (.Name n p3) fld p4] env := by intro _; rfl)
    (hs2 : ∀ env : PySem.Env, starEach [.Attribute (.Name n p3) fld p4] env = (false, eval (.Attribute (.Name n p3) fld p4) env) :: starEach [] env := by intro _; rfl) (hb : ∀ env : PySem.Env, attributeBase (.Name n p3) fld env (eval (.Name n p3) env) = eval (.Name n p3) env := by intro _; rfl) :
    SuiteOk X nio (some i) m [.Return (some (.Tuple [.Constant (.str txt) k1 p2, .Attribute (.Name n p3) fld p4] k2 p5)) p1] (sPair txt) := fun a oe cls d pn hz hfl => by
  refine ⟨_, pss_cons (ps_ret (peHB (pe_tup (pa_cons pe_str (pa_cons (pe_xf (C := C) T hno hz hfl (hv a oe pn) (hb _)) pa_nil (hs2 _)) (hs1 _))))) pss_nil, fun E T' io env fp σ H D e hn r hi ⟨C', dd, v, e1, e2, e3, e4, e5⟩ hmt k => ?_⟩
  have en := hme _ hmt
  have e2 : X.mg e.nm = some (.ref C') := e2
  rw [en, hm] at e2
  cases e2
  have ev := hi i rfl
  refine ⟨.ref a, ev, rfl, e1, dd, _, v, e3, e4, by rw [en, hf]; simp [List.lookup], ?_⟩
  refine ⟨by show 2 ≤ sizeLine; decide, fun q hq hb => ?_⟩
  have g := grow_upd (o := .tup [.str txt, v]) hq
  refine k (.ref q) σ fp _ (Ext.grow g) (r.grow g hb) (.tup upd_same (fun z => by obtain ⟨o, e, _⟩ := r.all q z; rw [hq] at e; cases e) (.cons (.str _) (.cons (e5.grow g) .nil)))
/-- the suite's reading -/
def tSuite (B : Bas) (nio : Bool) (i : Option Nat) (m : Str → Option Bool) (fs : D → SM) (a : Addr) (cls : Value) (d : Option Addr) : TS := fun D σ H => ∃ E T io env fp e, NioOk nio io ∧ R B E T io fp env σ H ∧ (∀ j, i = some j → σ[j]? = some (some (.ref a))) ∧ ExR B H (avOf T fp) e cls d ∧ m e.nm = some true ∧ OKS B E T io env fp H D W0 (fs e.arg env)
theorem SuiteOk.pss {i : Option Nat} {m : Str → Option Bool} {suite : List Stmt} {fs : D → SM} (h : SuiteOk X nio i m suite fs) (a : Addr) (oe : Obj) (cls : Value) (d : Option Addr) (pn : List (Addr × Obj)) (hz : Zc cls d oe) (hf : ∃ vs, oe.data = .fields vs) : PSs (X.suite a ((a, oe) :: pn)) suite (tSuite (bas X) nio i m fs a cls d) := by
  obtain ⟨t, p, s⟩ := h a oe cls d pn hz hf
  exact ⟨fun pins sh σ H D I ⟨E, T, io, env, fp, e, hn, r, hi, hx, hm, k⟩ => p.run pins sh σ H D I (s E T io env fp σ H D e hn r hi hx hm k)⟩
theorem oks_noEx {B : Bas} {E T : Addr → Prop} {io : Option V} {env : Env} {fp : Nat → Addr → Prop} {H : Hp} {D : Ends} {W W' : WX} {r : SRes} (h : OKS B E T io env fp H D W (noEx r)) : OKS B E T io env fp H D W' r := by
  cases r with
  | ex e env' => exact h.elim
  | rt tv e => cases tv <;> exact h
  | nx e => exact h
  | bk e => exact h
  | ct e => exact h
  | stuck => exact h
/-- try: body; except x: suite -/
theorem ds_try {x : Str} {c : Value} {body suite : List Stmt} {b₀ : Stmt} {np pos' : Pos} {fb : SM} {fs : D → SM} {m : Str → Option Bool} (hs : X.stack = X.env :: X.outer) (hf : X.env.frame = some X.env.locals) (hc : Names X x c) (tk : Takes X W)
    (hb : ∀ (W : WX) (pn : List (Addr × Obj)) (xe : Value → Shared → Prop), Takes (X.tr pn xe) W → DSs (X.tr pn xe) W nio body fb) (hsu : SuiteOk X nio none m (b₀ :: suite) fs) (hmo : MatchOk X c m) :
    DS X W nio (.Try body [.ExceptHandler (some (.Name x np)) none (b₀ :: suite) pos'] [] [] pos) (sTry1 none m fb fs) := by
  refine .mk ⟨_, ps_try_only (tb := fun W => cS (bas X) W nio fb) (ts := tSuite (bas X) nio none m fs) hs hf hc tk (fun W pn xe t _ => hb W pn xe t) (fun a oe cls d pn hz hfl => hsu.pss a oe cls d pn hz hfl), fun E T io env fp σ H D hn r h => ?_⟩
  refine ⟨E, T, io, env, fp, hn, r, ?_⟩
  unfold sTry1 at h
  cases e1 : fb env with
  | ex e env1 =>
    rw [e1] at h
    intro cls dx σ' fp' H' x1 r1 ex
    simp only at h
    obtain ⟨C, dd, v, c1, c2, c3, c4, c5⟩ := id ex
    cases e2 : m e.nm with
    | none => simp only [e2] at h; exact h.elim
    | some b =>
      simp only [e2] at h
      refine ⟨b, by rw [c1]; exact hmo e.nm C b c2 e2, fun hb a ha => ?_, fun hb => ?_⟩
      · subst hb
        exact ⟨E, T, io, env1, fp', e, hn, r1, (fun _ z => nomatch z), ex, e2, oks_noEx (OKS.after x1 h)⟩
      · subst hb
        exact h cls dx σ' fp' H' x1 r1 ex
  | stuck => rw [e1] at h; exact h
  | nx e => rw [e1] at h; exact h
  | rt tv e => rw [e1] at h; cases tv <;> exact h
  | bk e => rw [e1] at h; exact h
  | ct e => rw [e1] at h; exact h
/-- what a named clause gives: it returns -/
def onlyRt : SRes → SRes
  | .rt tv e => .rt tv e
  | _ => .stuck
def sTryAs (i : Nat) (m : Str → Option Bool) (fb : SM) (fs : D → SM) : SM := fun env => match fb env with
  | .ex e env1 => match m e.nm with
    | some true => if i < env1.length ∧ i ≠ 0 then onlyRt (fs e.arg (env1.set i .no)) else .stuck
    | some false => .ex e env1
    | none => .stuck
  | r => r
/-- try: body; except x as n: suite -/
theorem ds_try_as {x n : Str} {c : Value} {i : Nat} {body suite : List Stmt} {b₀ : Stmt} {np pos' : Pos} {fb : SM} {fs : D → SM} {m : Str → Option Bool} (hs : X.stack = X.env :: X.outer) (hf : X.env.frame = some X.env.locals) (hN : X.N.Nodup) (hi : X.N[i]? = some n) (hln : X.env.kindOf n = some .local) (hc : Names X x c) (tk : Takes X W)
    (hb : ∀ (W : WX) (pn : List (Addr × Obj)) (xe : Value → Shared → Prop), Takes (X.tr pn xe) W → DSs (X.tr pn xe) W nio body fb) (hsu : SuiteOk X nio (some i) m (b₀ :: suite) fs) (hmo : MatchOk X c m) :
    DS X W nio (.Try body [.ExceptHandler (some (.Name x np)) (some n) (b₀ :: suite) pos'] [] [] pos) (sTryAs i m fb fs) := by
  refine .mk ⟨_, ps_try_as (tb := fun W => cS (bas X) W nio fb) (ts := tSuite (bas X) nio (some i) m fs) hs hf hN hi hln hc tk (fun W pn xe t _ => hb W pn xe t) (fun a oe cls d pn hz hfl => hsu.pss a oe cls d pn hz hfl), fun E T io env fp σ H D hn r h => ?_⟩
  refine ⟨E, T, io, env, fp, hn, r, ?_⟩
  unfold sTryAs at h
  cases e1 : fb env with
  | ex e env1 =>
    rw [e1] at h
    intro cls dx σ' fp' H' x1 r1 ex
    simp only at h
    obtain ⟨C, dd, v, c1, c2, c3, c4, c5⟩ := id ex
    cases e2 : m e.nm with
    | none => simp only [e2] at h; exact h.elim
    | some b =>
      simp only [e2] at h
      refine ⟨b, by rw [c1]; exact hmo e.nm C b c2 e2, fun hb a ha => ?_, fun hb => ?_⟩
      · subst hb
        simp only at h
        split at h
        · rename_i hc'
          obtain ⟨hi1, hi0⟩ := hc'
          have hl : i < σ'.length := by rw [← r1.len]; exact hi1
          have hav : ∀ a, avOf T (setF fp' i fun _ => False) a → avOf T fp' a := fun a z => by
            rcases z with z | ⟨j, z⟩
            · exact .inl z
            · by_cases hj : j = i
              · subst hj; rw [setF_same] at z; exact z.elim
              · rw [setF_ne hj] at z; exact .inr ⟨j, z⟩
          have r2 : R (bas X) E T io (setF fp' i fun _ => False) (env1.set i .no) (σ'.set i (some (.ref a))) H' := r1.put (T := T) (q := fun _ => False) (sv := .no) (x := some (.ref a)) hi1 (fun _ z => z) (fun a z => z.elim) (fun a z => z.elim) (fun a z => z.elim) (fun a z => z.elim) (fun a o _ e _ => e) (fun _ _ z => z) (fun a o e q => ⟨o, e, q⟩) (fun _ z => z) (by rw [List.length_set])
            (fun j hj => by rw [List.getElem?_set_ne (Ne.symm hj)]) (List.getElem?_set_self hl) (fun v' e => by rw [List.getElem?_set_ne hi0]; exact r1.io0 v' e) r1.hb (fun _ z => z)
          have x2 : Ext env1 fp' H' (env1.set i .no) (setF fp' i fun _ => False) H' := Ext.put (fun a z => z.elim) (fun a o _ e _ => e) (fun _ _ z => z) (fun a o e q => ⟨o, e, q⟩) fun _ z => z
          refine ⟨E, T, io, _, _, e, hn, r2, (fun j ej => by cases ej; exact List.getElem?_set_self hl), ⟨C, dd, v, c1, c2, c3, c4, c5.weak hav⟩, e2, ?_⟩
          have k := OKS.after (x1.trans x2) h
          cases q : fs e.arg (env1.set i .no) with
          | rt tv ev =>
            rw [q] at k
            cases tv <;> exact k
          | ex _ _ => rw [q] at k; exact k.elim
          | nx _ => rw [q] at k; exact k.elim
          | bk _ => rw [q] at k; exact k.elim
          | ct _ => rw [q] at k; exact k.elim
          | stuck => rw [q] at k; exact k.elim
        · exact h.elim
      · subst hb
        exact h cls dx σ' fp' H' x1 r1 ex
  | stuck => rw [e1] at h; exact h
  | nx e => rw [e1] at h; exact h
  | rt tv e => rw [e1] at h; cases tv <;> exact h
  | bk e => rw [e1] at h; exact h
  | ct e => rw [e1] at h; exact h
end
end VL
namespace VL
open PySem PySem.Spec PyProof.Rows L2
variable [tt : TabList]

/-! ### f(k = e, ..): all arguments by name -/
def permL {α : Type} (π : List Nat) (xs : List α) : List α := π.filterMap fun i => xs[i]?
structure KwOk (K : PySem.W.Frag) (fd : FuncData) (ps ks : List Str) (π : List Nat) : Prop where
  to : ∀ (s : Shared) (ws : List Value), K.In s.heap → ws.length = ks.length → BindsTo s fd ⟨[], ks.zip ws⟩ (ps.zip (permL π ws))
  lt : ∀ i ∈ π, i < ks.length
  len : π.length = ps.length
theorem permL_vals {vs : List V} {us : List Value} (r : Vals vs us) : ∀ {π : List Nat}, Vals (permL π vs) (permL π us)
  | [] => .nil
  | i :: π => by
    unfold permL
    rw [List.filterMap_cons, List.filterMap_cons]
    cases e : vs[i]? with
    | none =>
      have : us[i]? = none := by
        rw [List.getElem?_eq_none_iff] at e ⊢
        rw [← r.length]; exact e
      rw [this]
      exact permL_vals r (π := π)
    | some v =>
      obtain ⟨u, eu, ru⟩ := r.get e
      rw [eu]
      exact .cons ru (permL_vals r (π := π))
theorem permL_reps {B : Bas} {H : Hp} {av : Addr → Prop} {vs : List V} {ds : List D} (r : Reps B H av vs ds) : ∀ {π : List Nat}, Reps B H av (permL π vs) (permL π ds)
  | [] => .nil
  | i :: π => by
    unfold permL
    rw [List.filterMap_cons, List.filterMap_cons]
    cases e : vs[i]? with
    | none =>
      have : ds[i]? = none := by
        rw [List.getElem?_eq_none_iff] at e ⊢
        rw [← r.length]; exact e
      rw [this]
      exact permL_reps r (π := π)
    | some v =>
      obtain ⟨u, eu, ru⟩ := r.get e
      rw [eu]
      exact .cons ru (permL_reps r (π := π))
theorem permL_len {α : Type} {xs : List α} : ∀ {π : List Nat}, (∀ i ∈ π, i < xs.length) → (permL π xs).length = π.length
  | [], _ => rfl
  | i :: π, h => by
    unfold permL
    rw [List.filterMap_cons, List.getElem?_eq_getElem (h i List.mem_cons_self)]
    have := permL_len (π := π) (xs := xs) fun j hj => h j (List.mem_cons_of_mem _ hj)
    unfold permL at this
    simp only [List.length_cons, this]
theorem spF_perm {B : Bas} {n m : Nat} {F : List D → FRes} {π : List Nat} {vs : List V} {H : Hp} {Q : VK} {E : XK} (hπ : ∀ i ∈ π, i < n) (hl : π.length = m) (h : spF B n none (fun ds => F (permL π ds)) vs H Q E) : spF B m none F (permL π vs) H Q E := by
  obtain ⟨h0, T, ds, hT, hb, hTb, rs, fq⟩ := h
  exact ⟨by rw [permL_len (by rw [h0]; exact hπ)]; exact hl, T, permL π ds, hT, hb, hTb, permL_reps rs, fq⟩
/-- the keywords' values -/
def KwEs : List Keyword → List Expr
  | [] => []
  | k :: ks => k.value :: KwEs ks
def DK' (X : Cx) (W : WX) (kws : List Keyword) (fs : List (M TV)) : Prop := ∃ t, PK X kws t ∧ ∀ E T io env fp σ H Q, R (bas X) E T io fp env σ H → OKA (bas X) E T io env fp H σ Q W (cArgs fs env) → t σ H Q
section
variable {X : Cx} {W : WX} {e : Expr} {f : M TV} {fs : List (M TV)} {pos kpos : Pos} {nm : Option Str} {kws : List Keyword}
theorem dk_nil : DK' X W [] [] := ⟨_, pk_nil, fun E T io env fp σ H Q r h => h [] fp H Ext.refl r .nil⟩
theorem dk_cons (he : DE X W e f) (hr : DK' X W kws fs) : DK' X W (⟨nm, e, kpos⟩ :: kws) (f :: fs) := by
  obtain ⟨t, p, s⟩ := he.out
  obtain ⟨t', p', s'⟩ := hr
  refine ⟨_, pk_cons p p', fun E T io env fp σ H Q r h => ?_⟩
  refine okea_bind (f := f) (s E T io env fp σ H _ r) h fun tv env1 v fp1 H1 x1 r1 h1 k1 => ?_
  refine okaa_bind (s' E T io env1 fp1 σ H1 _ r1) k1 fun ts env2 vs fp2 H2 x2 r2 h2 k2 => ?_
  exact k2 _ fp2 H2 Ext.refl r2 (.cons (h1.ext x2) h2)
theorem de_callKw {k : Nat} {g : Addr} {fd : FuncData} {ps ks : List Str} {π : List Nat} {F : List D → FRes} {x : Str} {p : Pos} (G : FnOk X.prog X.w X.K X.mg X.base (L2.CX X.prog X.w) k g fd ps (spF (bas X) ps.length none F)) (hr : Room k X.A) (hg : Gl X x) (hm : X.mg x = some (.ref g)) (hk : PySem.W.keepIn X.K (.ref g) = true)
    (hb : KwOk X.K fd ps ks π) (tk : Takes X W) (ha : DK' X W kws fs) (hn : fs.length = ks.length) (hdb : (x == ("__debug__" : Str)) = false := by decide) (hall : (backToKw pos (keywordEach kws X.env)).all (·.1.isSome) = true := by rfl) (hks : (backToKw pos (keywordEach kws X.env)).filterMap (·.1) = ks := by rfl)
    (hpl : ((backTo pos (starEach [] X.env)).any (·.1) || (backToKw pos (keywordEach kws X.env)).any (·.1.isNone)) = false := by rfl) :
    DE X W (.Call (.Name x p) [] kws pos) (cFn (fun ds => F (permL π ds)) fs) := by
  obtain ⟨t, pk, s⟩ := ha
  have hx : ∀ σ, PassesAt (L2.CX X.prog X.w) X σ (fun cls d H' => W cls d σ H') := fun σ pins H s' e s'' I c => tk e s'' (XE.of_call I (fun cls d H' h => h) c)
  have pe : PE X (.Call (.Name x p) [] kws pos) (fun σ H Q => t σ H fun zs H2 => spF (bas X) ks.length none (fun ds => F (permL π ds)) (zs ++ []) H2 Q (fun cls d H' => W cls d σ H')) := by
    refine ⟨fun pins s σ H Q I h => ?_⟩
    refine wpAny_Call_Name_kw (ld_glob I hg hm ?_ hdb)
    refine PySem.W.callWith_KW0 (h₀ := X.base) I.ok.mod.kin hk hall (thn (pk.run pos pins s σ H _ I h) fun ws s2 ⟨zs, H2, I2, rz, q2⟩ => ⟨I2.kIn, ?_⟩) hpl
    rw [hks]
    simp only [List.append_nil] at q2
    have hz : ws.length = ks.length := by rw [← rz.length]; exact q2.1
    have q3 := spF_perm (m := ps.length) hb.lt hb.len q2
    refine wpAny_call (codeAny_mono (G.run X.A X.stack s2 H2 ⟨[], ks.zip ws⟩ (permL π ws) (permL π zs) Q _ hr I2.env0 (hb.to s2 ws I2.kIn hz) (permL_vals rz) q3) fun r s' hq => ?_)
    cases r with
    | error e => exact hx σ pins H2 s2 e s' I2 hq
    | ok fl =>
      cases fl with
      | ret u => exact I2.after hq
      | next => exact False.elim hq
      | brk => exact False.elim hq
      | cont => exact False.elim hq
  exact .mk ⟨_, pe, fun E T io env fp σ H Q R0 h => sound_fnA s hn R0 h⟩
end
end VL
namespace VL
open PySem PySem.Spec PyProof.Rows L2
variable [tt : TabList]

/-! ### name = [..], on one line, the name a plain local -/
section
variable {X : Cx} {W : WX} {nio : Bool} {elt tg iter : Expr} {ifs : List Expr} {scope : Scope} {own : List (Str × Nat)} {pos spos py : Pos} {fi : M (List D × Option Nat)} {gd : D → Env → Option Env} {ft : M Bool} {fe : M TV}
theorem ds_setLc {i : Nat} {y : Str} {tv : List Nat} (hc : X.calm = true) (hN : X.N.Nodup) (hy : X.N[i]? = some y) (hyl : X.env.scope.names.lookup y = some .local)
    (hsw : swapsWith (.ListComp elt [⟨tg, iter, ifs, 0⟩] scope pos) (some (.Name y py)) spos.line X.env = pure true) (hi : DI X W tg iter fi) (ok : BlkOk X.N X.env.scope scope own)
    (hg : ∀ (s : Shared) (H : Hp) (C : Addr) (cl : List (Str × Addr)) (fp : List Addr), DG (X.blk s H scope (compEnvC scope cl C X.env) fp) false tv tg gd) (ht : ∀ (s : Shared) (H : Hp) (C : Addr) (cl : List (Str × Addr)) (fp : List Addr), PTs (X.blk s H scope (compEnvC scope cl C X.env) fp) ifs (cT (bas X) W0 ft))
    (he : ∀ (s : Shared) (H : Hp) (C : Addr) (cl : List (Str × Addr)) (fp : List Addr), DE (X.blk s H scope (compEnvC scope cl C X.env) fp) W0 elt fe) (htv : ∀ j ∈ tv, j ∈ own.map (·.2) := by decide) (hs : ∀ x, foldedSetIterable iter X.env x = pure x := by intro _; rfl) :
    DS X W nio (.Assign [.Name y py] (.ListComp elt [⟨tg, iter, ifs, 0⟩] scope pos) spos) (sSet nio i (cComp (own.map (·.2)) fi gd ft fe)) :=
  .mk ⟨_, ps_setLc (wi := cI (bas X) W fi) (g := cG (bas X) false tv gd) (tt := cT (bas X) W0 ft) (te := cE (bas X) W0 fe) hc hN hy hyl hsw hi ok hg ht he hs, fun E T io env fp σ H D n R0 h => sound_set (fe := cComp (own.map (·.2)) fi gd ft fe) (fun E T io env fp σ H Q R0 h => sound_comp htv R0 h) n R0 h⟩
theorem ds_setLc2 {i : Nat} {y : Str} {tv : List Nat} (hc : X.calm = true) (hN : X.N.Nodup) (hy : X.N[i]? = some y) (hyl : X.env.scope.names.lookup y = some .local)
    (hsw : swapsWith (.ListComp elt [⟨tg, iter, ifs, 0⟩] scope pos) (some (.Name y py)) spos.line X.env = pure true) (hi : DI X W tg iter fi) (ok : BlkOk X.N X.env.scope scope own)
    (hg : ∀ (s : Shared) (H : Hp) (C : Addr) (cl : List (Str × Addr)) (fp : List Addr), DG (X.blk s H scope (compEnvC scope cl C X.env) fp) false tv tg gd) (ht : ∀ (s : Shared) (H : Hp) (C : Addr) (cl : List (Str × Addr)) (fp : List Addr), PTs (X.blk s H scope (compEnvC scope cl C X.env) fp) ifs (cT (bas X) W0 ft))
    (he : ∀ (s : Shared) (H : Hp) (C : Addr) (cl : List (Str × Addr)) (fp : List Addr), DE (X.blk s H scope (compEnvC scope cl C X.env) fp) W0 elt fe) (htv : ∀ j ∈ tv, j ∈ own.map (·.2) := by decide) (hs : ∀ x, foldedSetIterable iter X.env x = pure x := by intro _; rfl) :
    DS X W nio (.Assign [.Name y py] (.ListComp elt [⟨tg, iter, ifs, 0⟩] scope pos) spos) (sSet nio i (cComp2 (own.map (·.2)) fi gd ft fe)) :=
  .mk ⟨_, ps_setLc (wi := cI (bas X) W fi) (g := cG (bas X) false tv gd) (tt := cT (bas X) W0 ft) (te := cE (bas X) W0 fe) hc hN hy hyl hsw hi ok hg ht he hs, fun E T io env fp σ H D n R0 h => sound_set (fe := cComp2 (own.map (·.2)) fi gd ft fe) (fun E T io env fp σ H Q R0 h => sound_comp2 htv R0 h) n R0 h⟩
end
section
variable {P : Program} {w : World} {K : PySem.W.Frag} {mg : Str → Option Value} {base : Heap} {N : List Str} {qual : Str} {scope : Scope} {f : Addr} {cdv : Value} {A : Around} {outer : List PySem.Env} {s : Shared} {H : Hp} {E : XK}
theorem takes_fn : Takes (cxOf (L2.CX P w) P w K mg base N qual scope f cdv A outer s H E) (fun cls d _ H => E cls d H) := by
  exact takes_of rfl rfl rfl rfl
end
theorem de_ty {X : Cx} {W : WX} {x : Str} {T : String} {pos : Pos} (hg : Gl X x) (hm : X.mg x = none) (hv : bootBuiltins x = some (.type T)) (hn : x ≠ "__name__" := by decide) (hd : (x == ("__debug__" : Str)) = false := by decide) : DE X W (.Name x pos) (cC (.ty T)) :=
  de_const (pe_bltn (v := .ty T) hg hm hv rfl hn hd) (fun _ _ => .ty _)
theorem de_int {X : Cx} {W : WX} {i : Int} {j} {pos : Pos} : DE X W (.Constant (.int i) j pos) (cC (.int i)) := de_const pe_int (fun _ _ => .int _)
theorem de_bl {X : Cx} {W : WX} {i : Bool} {j} {pos : Pos} : DE X W (.Constant (.bool i) j pos) (cC (.bl i)) := de_const pe_bl (fun _ _ => .bl _)
theorem de_str {X : Cx} {W : WX} {i : Str} {j} {pos : Pos} : DE X W (.Constant (.str i) j pos) (cC (.str i)) := de_const pe_str (fun _ _ => .str _)
theorem de_non {X : Cx} {W : WX} {j} {pos : Pos} : DE X W (.Constant .none j pos) (cC .non) := de_const pe_non (fun _ _ => .non)
end VL
namespace VL
open PySem PySem.Spec PyProof.Rows L2
variable [tt : TabList]
/-- a proved def of the program -/
structure FnF (P : Program) (w : World) (K : PySem.W.Frag) (mg : Str → Option Value) (base : Heap) (k : Nat) (x : Str) (ps : List Str) (κio : Option Kd) (F : List D → FRes) where
  f : Addr
  fd : FuncData
  ok : FnOk P w K mg base (L2.CX P w) k f fd ps (spF (mkB K mg) ps.length κio F)
  hm : mg x = some (.ref f)
  hk : PySem.W.keepIn K (.ref f) = true
  hb : Binds K fd ps []
/-- the builtins' names are no globals -/
structure NB (mg : Str → Option Value) : Prop where
  len : mg "len" = none
  range : mg "range" = none
  enumerate : mg "enumerate" = none
  zip : mg "zip" = none
  tuple : mg "tuple" = none
  list : mg "list" = none
  dict : mg "dict" = none
  sorted : mg "sorted" = none
  isinstance : mg "isinstance" = none
  int : mg "int" = none
  bool : mg "bool" = none
  str : mg "str" = none
  any : mg "any" = none
  all : mg "all" = none
  sum : mg "sum" = none
  max : mg "max" = none
  min : mg "min" = none
  abs : mg "abs" = none
  repr : mg "repr" = none
/-- an own error class -/
structure ExF (P : Program) (w : World) (K : PySem.W.Frag) (mg : Str → Option Value) (base : Heap) (x : Str) where
  C : Addr
  fI : Addr
  fd : FuncData
  ps : List Str
  hm : mg x = some (.ref C)
  T : OexC K C
  iC : PySem.W.findIn K (.ref C) "__init__" = some (some (.ref fI))
  tI : PySem.W.typeIn K (.ref fI) = some (.type "function")
  F1 : FnOk P w K mg base (L2.CX P w) 2 fI fd ps (spInit C (fldOf x))
  hb : Binds K fd ps []
  xf : XfC K C
  hno : PySem.W.findIn K (.ref C) (fldOf x) = some none
section
variable {X : Cx} {W : WX} {nio : Bool}
theorem de_cf {k : Nat} {κ : Unit} {ps : List Str} {F : List D → FRes} {x : Str} {e : Expr} {es : List Expr} {fs : List (M TV)} {p pos : Pos} (G : FnF X.prog X.w X.K X.mg X.base k x ps none F) (hr : Room k X.A) (tk : Takes X W) (hg : Gl X x)
    (ha : DA X W (e :: es) fs) (hn : fs.length = ps.length) (hdb : (x == ("__debug__" : Str)) = false) (he : starEach (e :: es) X.env = (false, eval e X.env) :: starEach es X.env) (hpl : (backTo pos (starEach es X.env)).any (·.1) = false) :
    DE X W (.Call (.Name x p) (e :: es) [] pos) (cFn F fs) := de_call G.ok hr hg G.hm G.hk G.hb tk ha hn hdb he hpl
theorem de_cf0 {k : Nat} {F : List D → FRes} {x : Str} {p pos : Pos} (G : FnF X.prog X.w X.K X.mg X.base k x [] none F) (hr : Room k X.A) (tk : Takes X W) (hg : Gl X x)
    (hdb : (x == ("__debug__" : Str)) = false) :
    DE X W (.Call (.Name x p) [] [] pos) (cFn F []) := de_call0 G.ok hr hg G.hm G.hk G.hb tk hdb
theorem de_cfio {k i : Nat} {κ : Kd} {ps : List Str} {F : List D → FRes} {x y : Str} {es : List Expr} {fs : List (M TV)} {p yp pos : Pos} (G : FnF X.prog X.w X.K X.mg X.base k x ps (some κ) F) (hr : Room k X.A) (tk : Takes X W) (hg : Gl X x)
    (hy : PE X (.Name y yp) (tVar i)) (ha : DA X W es fs) (hn : fs.length + 1 = ps.length) (hdb : (x == ("__debug__" : Str)) = false)
    (he : starEach (.Name y yp :: es) X.env = (false, eval (.Name y yp) X.env) :: starEach es X.env) (hpl : (backTo pos (starEach es X.env)).any (·.1) = false) :
    DE X W (.Call (.Name x p) (.Name y yp :: es) [] pos) (cFnIo i κ F fs) := de_callIo G.ok hr hg G.hm G.hk G.hb tk hy ha hn hdb he hpl
theorem ds_rse {x : Str} {e : Expr} {fe : M TV} {p cpos pos : Pos} (G : ExF X.prog X.w X.K X.mg X.base x) (hc : X.calm = true) (hr : Room 3 X.A) (tk : Takes X W) (hg : Gl X x) (he : DE X W e fe)
    (hdb : (x == ("__debug__" : Str)) = false) (hss : starEach [e] X.env = (false, eval e X.env) :: starEach [] X.env) : DS X W nio (.Raise (some (.Call (.Name x p) [e] [] cpos)) none pos) (sRaise x fe) :=
  ds_raise hc G.T G.iC G.tI G.F1 hr G.hb passL hg G.hm tk he rfl hdb hss
end
end VL
namespace VL
open PySem PySem.Spec PyProof.Rows L2
variable [tt : TabList]
theorem _root_.L2.Room.lt {k : Nat} {A : Around} (r : Room k A) : A.units + 64 < cLine := by have := r.un; omega
theorem _root_.L2.Room.un65 {k : Nat} {A : Around} (r : Room k A) : A.units + 65 < cLine := by have := r.un; omega
theorem de_gint {X : Cx} {W : WX} {x : Str} {i : Int} {pos : Pos} (hg : Gl X x) (hm : ∃ t, X.mg x = some (.int i t)) (hd : (x == ("__debug__" : Str)) = false := by decide) : DE X W (.Name x pos) (cC (.int i)) := by
  obtain ⟨t, hm⟩ := hm
  exact de_const (pe_glob (v := .int i) hg hm ⟨t, rfl⟩ hd) (fun _ _ => .int _)
end VL
namespace VL
open PySem PySem.Spec PyProof.Rows L2
variable [tt : TabList]

/-! ### {k: v for ..} -/
def dPutK (ks : List DK) (ds : List D) (k : DK) (d : D) : List DK × List D := (if dHas ks k then ks else ks ++ [k], if dHas ks k then (ks.zip ds).map (fun p => if p.1 = k then d else p.2) else ds ++ [d])
def dcL (gd : D → Env → Option Env) (ft : M Bool) (fk fv : M TV) (own : List Nat) : List D → List DK → List D → Env → Res (List DK × List D)
  | [], ks, vs, env => .ok (ks, vs) env
  | d :: ds, ks, vs, env => if ownOk own env then match gd d (wipeE own env) with
      | none => .stuck
      | some e1 => (ft e1).bindN fun b e2 => if b then (fk e2).bindN fun t e3 => match t with
            | .fz y => match kOf y with
              | some k => (fv e3).bindN fun t2 e4 => match frzV t2 with
                | some z => dcL gd ft fk fv own ds (dPutK ks vs (.inl k) z).1 (dPutK ks vs (.inl k) z).2 (restE own env e4)
                | none => .stuck
              | none => .stuck
            | _ => .stuck
          else dcL gd ft fk fv own ds ks vs (restE own env e2)
    else .stuck
def cDc (own : List Nat) (fi : M (List D × Option Nat)) (gd : D → Env → Option Env) (ft : M Bool) (fk fv : M TV) : M TV := fun env => (fi env).bind fun (items, lk) env1 =>
  (dcL gd ft fk fv own items [] [] env1).bindN fun p env2 => .ok (.ow .dk (.dct p.1 p.2)) (lockE lk env2)
theorem kOf_rep2 {B : Bas} {H : Hp} {av : Addr → Prop} {v : V} {d : D} {k : Key} (h : Rep B H av v d) (e : kOf d = some k) : v = kV k := by
  cases h <;> cases e <;> rfl
section
variable {X : Cx} {W : WX} {kx vx tg iter : Expr} {ifs : List Expr} {scope : Scope} {own : List (Str × Nat)} {pos : Pos} {fi : M (List D × Option Nat)} {gd : D → Env → Option Env} {ft : M Bool} {fk fv : M TV}
theorem hb_dK {H : Hp} {a : Addr} {kvs : List (Key × V)} (hb : HB H) : HB (upd H a (.dK kvs)) := hb_dct hb (fun xs => ⟨fun z => (nomatch z), fun z => (nomatch z)⟩) (fun o u z => (nomatch z))
theorem sound_dc {E T : Addr → Prop} {io : Option V} {env : Env} {fp : Nat → Addr → Prop} {σ : L2.St} {H : Hp} {Q : VK} {vs tv : List Nat} (htv : ∀ j ∈ tv, j ∈ vs) (R0 : R (bas X) E T io fp env σ H) (h : OKE (bas X) E T io env fp H σ Q W (cDc vs fi gd ft fk fv env)) :
    tDc (cI (bas X) W fi) (cG (bas X) false tv gd) (cT (bas X) W0 ft) (cE (bas X) W0 fk) (cE (bas X) W0 fv) vs σ H Q := by
  refine ⟨E, T, io, env, fp, R0, ?_⟩
  unfold cDc at h
  cases e1 : fi env with
  | stuck => rw [e1] at h; exact h
  | ex x env' => rw [e1] at h; exact h
  | ok il env1 =>
    rw [e1] at h
    obtain ⟨items, lk⟩ := il
    simp only [Res.bind] at h
    intro J fp1 H1 x1 hlk r1 it hlen Dc hD
    cases e2 : dcL gd ft fk fv vs items [] [] env1 with
    | stuck => rw [e2] at h; exact h.elim
    | ex x env' => rw [e2] at h; exact h.elim
    | ok all envF =>
      rw [e2] at h
      simp only [Res.bindN] at h
      have r1' : R (bas X) E (fun a => T a ∨ a = Dc) io fp1 env1 σ (upd H1 Dc (.dK [])) := r1.more (grow_upd hD) (fun a e => by rw [e]; exact hD) (fun a e => by rw [e]; exact ⟨_, upd_same, trivial⟩) (hb_dK r1.hb)
      refine ⟨fun i m Ht => m = items.length - i ∧ i ≤ items.length ∧ ∃ envt fpt kvs accD, R (bas X) E (fun a => T a ∨ a = Dc) io fpt envt σ Ht ∧ Ext env1 fp1 H1 envt fpt Ht ∧ Ht Dc = some (.dK kvs) ∧ Reps (bas X) Ht (avOf (fun a => T a ∨ a = Dc) fpt) (kvs.map (·.2)) accD ∧ kvs.length ≤ i ∧ dcL gd ft fk fv vs (items.drop i) (kvs.map fun p => Sum.inl p.1) accD envt = .ok all envF,
        ⟨items.length, by simp, Nat.zero_le _, env1, fp1, [], [], r1', Ext.grow (grow_upd hD), upd_same, .nil, Nat.le_refl _, e2⟩, ?_⟩
      rintro i m Ht ⟨rfl, hi, envt, fpt, kvs, accD, rt, xt, hDt, accR, hacc, eys⟩
      by_cases hlt : i < items.length
      · have edrop : items.drop i = items[i] :: items.drop (i + 1) := List.drop_eq_getElem_cons hlt
        rw [edrop] at eys
        unfold dcL at eys
        by_cases hok : ownOk vs envt = true
        · simp only [hok, if_true] at eys
          cases eg : gd items[i] (wipeE vs envt) with
          | none => simp only [eg] at eys; cases eys
          | some envg =>
            simp only [eg] at eys
            refine .inr ⟨it.go _ _ _ i xt rt.hb hlt, fun H' => items.length - (i + 1) = items.length - (i + 1) ∧ i + 1 ≤ items.length ∧ ∃ envt fpt kvs accD, R (bas X) E (fun a => T a ∨ a = Dc) io fpt envt σ H' ∧ Ext env1 fp1 H1 envt fpt H' ∧ H' Dc = some (.dK kvs) ∧ Reps (bas X) H' (avOf (fun a => T a ∨ a = Dc) fpt) (kvs.map (·.2)) accD ∧ kvs.length ≤ i + 1 ∧ dcL gd ft fk fv vs (items.drop (i + 1)) (kvs.map fun p => Sum.inl p.1) accD envt = .ok all envF,
              fun H' hN => ⟨_, by omega, hN⟩, fun x H' hy => ?_⟩
            have hT2 : ∀ a, (fun a => T a ∨ a = Dc) a → avOf T fp1 a ∨ H1 a = none := fun a z => z.imp .inl fun e => by rw [e]; exact hD
            obtain ⟨gr, hb', px⟩ := it.yld _ _ _ i items[i] x H' _ xt rt.hb hT2 rt.all (List.getElem?_eq_getElem hlt) hy
            have rt' := rt.grow gr hb'
            have nD : ∀ i, ¬ fpt i Dc := fun i z => rt.offT i Dc z (.inr rfl)
            refine ⟨E, _, io, wipeE vs envt, fpt, items[i], envg, (fun e => Bool.noConfusion e), rt'.wipe hok, px, eg, fun σ2 fp2 b2 r2 x2 => ?_⟩
            have hw : L2.wipe σ2 vs = L2.wipe σ vs := by
              have hl2 : σ2.length = σ.length := by rw [b2.1, wipe_length]
              refine List.ext_getElem? fun j => ?_
              rw [wipe_get, wipe_get, hl2]
              by_cases hj : j ∈ vs
              · simp only [hj, if_true]
              · simp only [hj, if_false]
                rw [b2.2 j (fun z => hj (htv j z)), wipe_get]
                simp only [hj, if_false]
            refine ⟨hw, E, _, io, envg, fp2, r2, ?_⟩
            cases ef : ft envg with
            | stuck => rw [ef] at eys; cases eys
            | ex x e => rw [ef] at eys; cases eys
            | ok b envb =>
              rw [ef] at eys
              simp only [Res.bindN] at eys
              intro fp3 H3 x3 r3
              cases b with
              | false =>
                simp only [Bool.false_eq_true, if_false] at eys ⊢
                have xo := (Ext.wipe (fp := fpt) (H := H') hok).trans (x2.trans x3)
                have hl3 : envb.length = envt.length := by rw [r3.len, b2.1, wipe_length, ← rt.len]
                refine ⟨trivial, hlt, restE vs envt envb, dropF vs fp3, kvs, accD, R.rest hok rt' xo r3 hw, xt.trans ((Ext.grow gr).trans (Ext.rest hok hl3 xo)), ?_, (Ext.rest hok hl3 xo).reps (accR.grow gr), by omega, eys⟩
                exact xo.chg Dc _ (nt_of rfl) (gr _ _ hDt) fun j z => absurd z (nD j)
              | true =>
                simp only [if_true] at eys ⊢
                refine ⟨E, _, io, envb, fp3, r3, ?_⟩
                cases eg2 : fk envb with
                | stuck => rw [eg2] at eys; cases eys
                | ex x e => rw [eg2] at eys; cases eys
                | ok t envk =>
                  rw [eg2] at eys
                  simp only at eys
                  cases t with
                  | sl _ => cases eys
                  | ow _ _ => cases eys
                  | fz yk =>
                  simp only at eys
                  cases ek : kOf yk with
                  | none => simp only [ek] at eys; cases eys
                  | some k =>
                  simp only [ek] at eys
                  intro yv fp4 H4 x4 r4 pk
                  have ekv := kOf_rep2 pk ek
                  subst ekv
                  refine ⟨E, _, io, envk, fp4, r4, ?_⟩
                  cases eg3 : fv envk with
                  | stuck => rw [eg3] at eys; cases eys
                  | ex x e => rw [eg3] at eys; cases eys
                  | ok t2 enve =>
                  rw [eg3] at eys
                  simp only at eys
                  cases e3 : frzV t2 with
                  | none => simp only [e3] at eys; cases eys
                  | some zd =>
                    simp only [e3] at eys
                    refine oke_hold fun y fp5 H5 x5 r5 hh => ?_
                    have xo := (Ext.wipe (fp := fpt) (H := H') hok).trans (x2.trans (x3.trans (x4.trans x5)))
                    have hl4 : enve.length = envt.length := by rw [r5.len, b2.1, wipe_length, ← rt.len]
                    have xr := Ext.rest hok hl4 xo
                    have hD5 : H5 Dc = some (.dK kvs) := xo.chg Dc _ (nt_of rfl) (gr _ _ hDt) fun j z => absurd z (nD j)
                    have rr := R.rest hok rt' xo r5 hw
                    have py := (frzV_rep hh e3).weak (av' := avOf (fun a => T a ∨ a = Dc) (dropF vs fp5)) fun a z => z.imp id fun ⟨i, z⟩ => ⟨i, z.2⟩
                    obtain ⟨pg1, pg2⟩ := put_gen (fun k : Key => (Sum.inl k : DK)) (fun a b e => by cases e; rfl) (kvs := kvs) k (xr.reps (accR.grow gr)) py
                    have hlp := length_putK kvs k y
                    refine ⟨kvs, k, rfl, hD5, by omega, trivial, hlt, restE vs envt enve, dropF vs fp5, putK kvs k y, (dPutK (kvs.map fun p => Sum.inl p.1) accD (.inl k) zd).2, rr.tput (.inr rfl) trivial (hb_dK rr.hb),
                      (xt.trans ((Ext.grow gr).trans xr)).tput hD ⟨_, hD5, trivial⟩ trivial, upd_same, ?_, by omega, ?_⟩
                    · refine Reps.mono (fun a o nt e n => ?_) (fun a z => .inl z) _ _ pg2
                      rw [upd_ne (fun z => n (by rw [z]; exact .inl (.inr rfl)))]; exact e
                    · rw [pg1]; exact eys
        · simp only [hok, if_false] at eys; cases eys
      · have hie : i = items.length := by omega
        subst hie
        rw [List.drop_length] at eys
        unfold dcL at eys
        cases eys
        refine .inl ⟨it.stop _ _ _ _ xt rt.hb (rfl), ?_⟩
        have x2 := (x1.trans xt).unlock hlk
        refine h (.ref Dc) fpt Ht x2 (fun a => a = Dc) rt.unlock ⟨Dc, kvs, accD, rfl, rfl, hDt, accR, rfl⟩ fun a e => ?_
        subst e
        have hH : H a = none := by
          cases q : H a with
          | none => rfl
          | some o => exact absurd hD (x1.dom a (by rw [q]; exact fun z => nomatch z))
        exact ⟨fun z => r1.avH (.inl z) hD, fun z => R0.old a z hH, .inl hH⟩
theorem de_dc {tv : List Nat} (hc : X.calm = true) (hN : X.N.Nodup) (hi : DI X W tg iter fi) (ok : BlkOk X.N X.env.scope scope own)
    (hg : ∀ (s : Shared) (H : Hp) (C : Addr) (cl : List (Str × Addr)) (fp : List Addr), DG (X.blk s H scope (compEnvC scope cl C X.env) fp) false tv tg gd) (ht : ∀ (s : Shared) (H : Hp) (C : Addr) (cl : List (Str × Addr)) (fp : List Addr), PTs (X.blk s H scope (compEnvC scope cl C X.env) fp) ifs (cT (bas X) W0 ft))
    (hk : ∀ (s : Shared) (H : Hp) (C : Addr) (cl : List (Str × Addr)) (fp : List Addr), DE (X.blk s H scope (compEnvC scope cl C X.env) fp) W0 kx fk)
    (he : ∀ (s : Shared) (H : Hp) (C : Addr) (cl : List (Str × Addr)) (fp : List Addr), DE (X.blk s H scope (compEnvC scope cl C X.env) fp) W0 vx fv) (htv : ∀ j ∈ tv, j ∈ own.map (·.2) := by decide) (hs : ∀ x, foldedSetIterable iter X.env x = pure x := by intro _; rfl) :
    DE X W (.DictComp kx vx [⟨tg, iter, ifs, 0⟩] scope pos) (cDc (own.map (·.2)) fi gd ft fk fv) :=
  .mk ⟨_, pe_dc (wi := cI (bas X) W fi) (g := cG (bas X) false tv gd) (tt := cT (bas X) W0 ft) (tk := cE (bas X) W0 fk) (tv := cE (bas X) W0 fv) hc hN hi ok hg ht hk he hs, fun E T io env fp σ H Q R0 h => sound_dc htv R0 h⟩
end
/-! ### {k: v} -/
def cDone (fk fv : M TV) : M TV := fun env => (fk env).bindN fun t env1 => match t with
  | .fz y => match kOf y with
    | some k => (fv env1).bindN fun t2 env2 => match t2 with
      | .fz z => .ok (.ow .dk (.dct [.inl k] [z])) env2
      | _ => .stuck
    | none => .stuck
  | _ => .stuck
def cDnil : M TV := fun env => .ok (.ow .dk (.dct [] [])) env
section
variable {X : Cx} {W : WX} {e1 e2 : Expr} {f1 f2 : M TV} {pos : Pos}
theorem de_dnil : DE X W (.Dict [] [] pos) cDnil := by
  refine .mk ⟨_, pe_dnewK, fun E T io env fp σ H Q R0 h => ?_⟩
  intro p hp
  have r0 := R0.more (q := fun b => b = p) (grow_upd (o := .dK []) hp) (fun a z => by rw [z]; exact hp) (fun a z => by rw [z]; exact ⟨_, upd_same, trivial⟩) (hb_dK R0.hb)
  exact h (.ref p) fp _ (Ext.grow (grow_upd hp)) (fun a => a = p) r0 ⟨p, [], [], rfl, rfl, upd_same, .nil, rfl⟩ fun a z => by subst z; exact ⟨fun z => R0.avH (.inl z) hp, fun z => R0.old a z hp, .inl hp⟩
theorem de_done (h1 : DE X W0 e1 f1) (h2 : DE X W0 e2 f2) : DE X W (.Dict [some e1] [e2] pos) (cDone f1 f2) := by
  obtain ⟨t1, p1, s1⟩ := h1.out
  obtain ⟨t2, p2, s2⟩ := h2.out
  refine .mk ⟨_, pe_disp (pps_cons p1 p2 pps_nil) rfl rfl (by simp) (by show 1 ≤ 15; decide), fun E T io env fp σ H Q R0 h => ?_⟩
  intro p hp
  have x0 : Ext env fp H env fp (upd H p (.dK [])) := Ext.grow (grow_upd hp)
  have r0 := R0.more (q := fun b => b = p) (grow_upd (o := .dK []) hp) (fun a z => by rw [z]; exact hp) (fun a z => by rw [z]; exact ⟨_, upd_same, trivial⟩) (hb_dK R0.hb)
  unfold cDone at h
  refine s1 E _ io env fp σ _ _ r0 ?_
  cases c1 : f1 env with
  | stuck => rw [c1] at h; exact h.elim
  | ex _ _ => rw [c1] at h; exact h.elim
  | ok t1 env1 =>
  rw [c1] at h
  simp only [Res.bindN] at h
  cases t1 with
  | sl _ => exact h.elim
  | ow _ _ => exact h.elim
  | fz y =>
  simp only at h
  cases ek : kOf y with
  | none => simp only [ek] at h; exact h.elim
  | some k =>
  simp only [ek] at h
  intro y1 fp1 H1 x1 r1 pk
  have ekv := kOf_rep2 pk ek
  subst ekv
  refine s2 E _ io env1 fp1 σ H1 _ r1 ?_
  cases c2 : f2 env1 with
  | stuck => rw [c2] at h; exact h.elim
  | ex _ _ => rw [c2] at h; exact h.elim
  | ok t2 env2 =>
  rw [c2] at h
  simp only at h
  cases t2 with
  | sl _ => exact h.elim
  | ow _ _ => exact h.elim
  | fz z =>
  simp only at h
  intro y2 fp2 H2 x2 r2 p2
  have offp : ∀ j, ¬ fp j p := fun j z => r0.offT j p z (.inr rfl)
  have hp2 : H2 p = some (.dK []) := (x1.trans x2).chg p _ (nt_of rfl) upd_same fun j z => absurd z (offp j)
  refine ⟨hp2, [(k, y2)], rfl, by show 1 ≤ 15; decide, ?_⟩
  have em : mergeK [] [(k, y2)] = [(k, y2)] := by simp [mergeK, putK]
  rw [em]
  have r4 := r2.tput (Dc := p) (o' := .dK [(k, y2)]) (.inr rfl) trivial (hb_dK r2.hb)
  have x4 := ((x0.trans (x1.trans x2)).tput (o' := .dK [(k, y2)]) hp ⟨_, hp2, trivial⟩ trivial)
  refine h (.ref p) fp2 _ x4 (fun a => a = p) r4 ⟨p, [(k, y2)], [z], rfl, rfl, upd_same, .cons (p2.mono (fun a o nt e n => ?_) fun a z => .inl z) .nil, rfl⟩ fun a z => by subst z; exact ⟨fun z => R0.avH (.inl z) hp, fun z => R0.old a z hp, .inl hp⟩
  rw [upd_ne (fun z => n (by rw [z]; exact .inl (.inr rfl)))]; exact e
end
end VL
namespace VL
open PySem PySem.Spec PyProof.Rows L2
variable [tt : TabList]

/-! ### defs that show containers: no repr is under way around them -/
structure FnOkG (P : Program) (w : World) (K : PySem.W.Frag) (mg : Str → Option Value) (base : Heap) (CX : CXT) (k : Nat) (f : Addr) (fd : FuncData) (ps : List Str) (sp : Sp) : Prop where
  len : ∀ vs H Q E, sp vs H Q E → vs.length = ps.length
  run : ∀ (A : Around) (outer : List PySem.Env) (s : Shared) (H : Hp) (args : Args) (us : List Value) (vs : List V) (Q : VK) (E : XK), A.guards = some [] → Room k A → Env0 P w K mg base A outer s H → BindsTo s fd args (ps.zip us) → Vals vs us → sp vs H Q E →
    codeAny (model P w) A (.call (.ref f) args) (CR CX outer P w H s Q E) s
section
variable {P : Program} {w : World} {K : PySem.W.Frag} {mg : Str → Option Value} {base : Heap}
theorem FnOkG.of {CX : CXT} {k : Nat} {f : Addr} {fd : FuncData} {ps : List Str} {sp : Sp} (F : FnOk P w K mg base CX k f fd ps sp) : FnOkG P w K mg base CX k f fd ps sp :=
  ⟨F.len, fun A outer s H args us vs Q E _ hr => F.run A outer s H args us vs Q E hr⟩
theorem fn_ofG {CX : CXT} {x qual : Str} {st : Stmt} {f : Addr} {fd : FuncData} {N ps : List Str} {k : Nat} {sp : Sp} (F : Fun K x qual st f fd) (S : FnScope N ps (defScope st)) (len : ∀ vs H Q E, sp vs H Q E → vs.length = ps.length)
    (hbody : ∀ (cdv : Value) (A : Around) (outer : List PySem.Env) (s : Shared) (H : Hp) (vs : List V) (Q : VK) (E : XK), A.guards = some [] → Room k (A.deeper (envOfC qual (defScope st) s.heap.objs.size f cdv)) → sp vs H Q E →
      ∃ t, PSs (cxOf CX P w K mg base N qual (defScope st) f cdv A outer s H E) (defBody st) t ∧ t { nx := fun _ H' => Q .non H', rt := Q } (start N vs) H) : FnOkG P w K mg base CX (k + 1) f fd ps sp := by
  obtain ⟨oc, od, kV, doc, pm, an, cdv, ct, osl, rfl, lk, hcd⟩ := F.ex
  refine ⟨len, fun A outer s H args us vs Q E hgd hr e0 hb r hsp => ?_⟩
  have kb : ∀ b o, base.get? b = some o → s.heap.get? b = some o := fun b o e => (e0.bs b o e).1
  have KX : K.In s.heap := e0.mod.kin.keeps kb
  have loc : ∀ y ∈ ps.zip us, (defScope st).names.lookup y.1 = some .local ∨ ((defScope st).names.lookup y.1 = some .cell ∧ ((cellsFrom (s.heap.objs.size + 1) (defScope st).names []).lookup y.1).isSome = true) := fun ⟨n, v⟩ hy =>
    (S.par n (List.of_mem_zip hy).1).imp id fun q => ⟨q, PySem.W.cellsFrom_some _ _ _ (.inl q)⟩
  refine codeAny_call_function hr.depth (KX _ _ lk) rfl S.co S.gen rfl (PySem.W.codeRec_of KX hcd) (hb _ _ _ _ (wpAny_newFunctionEnv_cells S.kind loc fun env he s1 x => ?_))
  subst he
  obtain ⟨t, ht, hq⟩ := hbody cdv A outer s H vs Q E hgd (hr.deeper _) hsp
  refine ⟨(e0.mod.nolimit.keeps kb).keeps x.toInCall.keep, codeAny_func (wpAny_mono (ht.run [] s1 (start N vs) H _ (inv_start S hr.hd e0 (len _ _ _ _ hsp) r x) hq) (fun fl s' hs => ?_) fun _ _ hs => hs)⟩
  cases fl with
  | ret u => obtain ⟨v, _, H', J, rv, q⟩ := hs; exact ⟨v, H', J.os, J.bare, J.base, J.hok, rv, q⟩
  | next => obtain ⟨_, H', J, q⟩ := hs; exact ⟨.non, H', J.os, J.bare, J.base, J.hok, rfl, q⟩
  | brk => obtain ⟨_, _, _, q⟩ := hs; exact q.elim
  | cont => obtain ⟨_, _, _, q⟩ := hs; exact q.elim
theorem fn_ofGc {CX : CXT} {x qual : Str} {st : Stmt} {f : Addr} {fd : FuncData} {N ps : List Str} {k : Nat} {sp : Sp} (F : Fun K x qual st f fd) (S : FnScope N ps (defScope st)) (len : ∀ vs H Q E, sp vs H Q E → vs.length = ps.length)
    (hbody : ∀ (A : Around) (outer : List PySem.Env) (s : Shared) (H : Hp) (vs : List V) (Q : VK) (E : XK), A.guards = some [] → Room k (A.deeper (envOfC qual (defScope st) s.heap.objs.size f fd.code)) → sp vs H Q E →
      ∃ t, PSs (cxOf CX P w K mg base N qual (defScope st) f fd.code A outer s H E) (defBody st) t ∧ t { nx := fun _ H' => Q .non H', rt := Q } (start N vs) H) : FnOkG P w K mg base CX (k + 1) f fd ps sp := by
  obtain ⟨oc, od, kV, doc, pm, an, cdv, ct, osl, rfl, lk, hcd⟩ := F.ex
  refine ⟨len, fun A outer s H args us vs Q E hgd hr e0 hb r hsp => ?_⟩
  have kb : ∀ b o, base.get? b = some o → s.heap.get? b = some o := fun b o e => (e0.bs b o e).1
  have KX : K.In s.heap := e0.mod.kin.keeps kb
  have loc : ∀ y ∈ ps.zip us, (defScope st).names.lookup y.1 = some .local ∨ ((defScope st).names.lookup y.1 = some .cell ∧ ((cellsFrom (s.heap.objs.size + 1) (defScope st).names []).lookup y.1).isSome = true) := fun ⟨n, v⟩ hy =>
    (S.par n (List.of_mem_zip hy).1).imp id fun q => ⟨q, PySem.W.cellsFrom_some _ _ _ (.inl q)⟩
  refine codeAny_call_function hr.depth (KX _ _ lk) rfl S.co S.gen rfl (PySem.W.codeRec_of KX hcd) (hb _ _ _ _ (wpAny_newFunctionEnv_cells S.kind loc fun env he s1 x => ?_))
  subst he
  obtain ⟨t, ht, hq⟩ := hbody A outer s H vs Q E hgd (hr.deeper _) hsp
  refine ⟨(e0.mod.nolimit.keeps kb).keeps x.toInCall.keep, codeAny_func (wpAny_mono (ht.run [] s1 (start N vs) H _ (inv_start S hr.hd e0 (len _ _ _ _ hsp) r x) hq) (fun fl s' hs => ?_) fun _ _ hs => hs)⟩
  cases fl with
  | ret u => obtain ⟨v, _, H', J, rv, q⟩ := hs; exact ⟨v, H', J.os, J.bare, J.base, J.hok, rv, q⟩
  | next => obtain ⟨_, H', J, q⟩ := hs; exact ⟨.non, H', J.os, J.bare, J.base, J.hok, rfl, q⟩
  | brk => obtain ⟨_, _, _, q⟩ := hs; exact q.elim
  | cont => obtain ⟨_, _, _, q⟩ := hs; exact q.elim
end
end VL
namespace VL
open PySem PySem.Spec PyProof.Rows L2
variable [tt : TabList]

section
variable {P : Program} {w : World} {K : PySem.W.Frag} {mg : Str → Option Value} {base : Heap}
theorem fn_mkG {x qual : Str} {st : Stmt} {f : Addr} {fd : FuncData} {N ps : List Str} {k : Nat} {κio : Option Kd} {body : SM} (F : Fun K x qual st f fd) (S : FnScope N ps (defScope st))
    (hbody : ∀ (cdv : Value) (A : Around) (outer : List PySem.Env) (s : Shared) (H : Hp) (E : XK), A.guards = some [] → Room k (A.deeper (envOfC qual (defScope st) s.heap.objs.size f cdv)) →
      DSs (cxOf (L2.CX P w) P w K mg base N qual (defScope st) f cdv A outer s H E) (fun cls d _ H => E cls d H) κio.isNone (defBody st) body) :
    FnOkG P w K mg base (L2.CX P w) (k + 1) f fd ps (spF (mkB K mg) ps.length κio (runF N.length κio body)) :=
  fn_ofG F S (fun vs H Q E h => h.1) fun cdv A outer s H vs Q E hg hr h => fn_body S (hbody cdv A outer s H E hg hr) h
end
/-- a proved def that shows containers -/
structure FnG (P : Program) (w : World) (K : PySem.W.Frag) (mg : Str → Option Value) (base : Heap) (k : Nat) (x : Str) (ps : List Str) (κio : Option Kd) (F : List D → FRes) where
  f : Addr
  fd : FuncData
  ok : FnOkG P w K mg base (L2.CX P w) k f fd ps (spF (mkB K mg) ps.length κio F)
  hm : mg x = some (.ref f)
  hk : PySem.W.keepIn K (.ref f) = true
  hb : Binds K fd ps []
section
variable {X : Cx} {W : WX} {nio : Bool} {k : Nat} {f : Addr} {fd : FuncData} {ps : List Str} {sp : Sp} {E : L2.St → XK}
theorem run_G {pins : List (Addr × Obj)} {σ : L2.St} {H : Hp} {s : Shared} {Q : VK} {us : List Value} {vs : List V} (F : FnOkG X.prog X.w X.K X.mg X.base (L2.CX X.prog X.w) k f fd ps sp) (hgd : X.A.guards = some []) (hr : Room k X.A) (hb : Binds X.K fd ps []) (hx : PassesAt (L2.CX X.prog X.w) X σ (E σ))
    (I : Inv X pins σ H s) (r : Vals vs us) (h : sp (vs ++ []) H Q (E σ)) : wpAny (model X.prog X.w) X.A (call (.ref f) us) (EP X pins σ Q) X.xe s := by
  have r2 : Vals (vs ++ []) (us ++ []) := r.append .nil
  have hl : (us ++ []).length = ps.length := by rw [← r2.length]; exact F.len _ _ _ _ h
  refine wpAny_call (codeAny_mono (F.run X.A X.stack s H ⟨us, []⟩ (us ++ []) (vs ++ []) Q (E σ) hgd hr I.env0 (hb s us I.kIn hl) r2 h) fun r s' hq => ?_)
  cases r with
  | error e => exact hx pins H s e s' I hq
  | ok fl =>
    cases fl with
    | ret u => exact I.after hq
    | next => exact hq.elim
    | brk => exact hq.elim
    | cont => exact hq.elim
theorem de_cg {ps : List Str} {F : List D → FRes} {x : Str} {e : Expr} {es : List Expr} {fs : List (M TV)} {p pos : Pos} (G : FnG X.prog X.w X.K X.mg X.base k x ps none F) (hgd : X.A.guards = some []) (hr : Room k X.A) (tk : Takes X W) (hg : Gl X x)
    (ha : DA X W (e :: es) fs) (hn : fs.length = ps.length) (hdb : (x == ("__debug__" : Str)) = false) (he : starEach (e :: es) X.env = (false, eval e X.env) :: starEach es X.env) (hpl : (backTo pos (starEach es X.env)).any (·.1) = false) :
    DE X W (.Call (.Name x p) (e :: es) [] pos) (cFn F fs) := by
  obtain ⟨t, pa, s⟩ := ha.out
  have hx : ∀ σ, PassesAt (L2.CX X.prog X.w) X σ (fun cls d H' => W cls d σ H') := fun σ pins H s' e s'' I c => tk e s'' (XE.of_call I (fun cls d H' h => h) c)
  have pe : PE X (.Call (.Name x p) (e :: es) [] pos) (tCallSD (spF (bas X) ps.length none F) [] (fun σ cls d H' => W cls d σ H') t) := by
    refine ⟨fun pins s σ H Q I h => ?_⟩
    refine wpAny_Call_Name_kw (ld_glob I hg G.hm ?_ hdb)
    refine PySem.W.callWith_K (h₀ := X.base) I.ok.mod.kin G.hk (thn (pa.run pos pins s σ H _ I h) fun us s1 ⟨vs, H1, I1, r, q⟩ => ⟨I1.kIn, ?_⟩) he hpl
    exact run_G (E := fun σ cls d H' => W cls d σ H') G.ok hgd hr G.hb (hx σ) I1 r q
  exact .mk ⟨_, pe, fun E T io env fp σ H Q R0 h => sound_fnA s hn R0 h⟩
end

/-! ### repr -/
theorem _root_.L2.Room.u {k : Nat} {A : Around} (r : Room k A) : A.units + 200 < cLine := by have := r.un; omega
def flatT : D → Option Str
  | .non => some "None"
  | .bl b => some (if b then "True" else "False")
  | .int i => if i.natAbs.log2 < 1920 then some (toString i) else none
  | .str x => if (PySem.reprText x).length ≤ sizeLine then some (PySem.reprText x) else none
  | _ => none
def topC : D → Bool
  | .tup _ => true
  | .lst _ => true
  | _ => false
def rRepr (K : PySem.W.Frag) : List V → Hp → VK → Prop := fun vs H Q => (∃ (a : Addr) (d : PyData), vs = [V.ref a] ∧ Dp K H (.ref a) d ∧ d.showable = true ∧ d.hasDict = false ∧ d.depth ≤ 60 ∧ d.shown.length ≤ sizeLine ∧ Q (.str d.shown) H) ∨
  (vs = [V.non] ∧ Q (.str "None") H) ∨ (∃ b, vs = [V.bl b] ∧ Q (.str (if b then "True" else "False")) H) ∨ (∃ i : Int, vs = [V.int i] ∧ i.natAbs.log2 < 1920 ∧ Q (.str (toString i)) H) ∨ ∃ x : Str, vs = [V.str x] ∧ (PySem.reprText x).length ≤ sizeLine ∧ Q (.str (PySem.reprText x)) H
def oRepr : List D → ORes
  | [d] => if (topC d && pl 60 d && (toP d).showable && decide ((toP d).shown.length ≤ sizeLine)) = true then .val (.str (toP d).shown) else match flatT d with
    | some x => .val (.str x)
    | none => .stuck
  | _ => .stuck
section
variable {X : Cx}
theorem c_repr (hgd : X.A.guards = some []) (hu : X.A.units + 200 < cLine) : CallR X (.builtin "repr") (rRepr X.K) := by
  intro pins s σ H vs us Q I r h
  rcases h with ⟨a, d, rfl, hd, hs, hdi, hdp, hz, q⟩ | ⟨rfl, q⟩ | ⟨b, rfl, q⟩ | ⟨i, rfl, hz, q⟩ | ⟨x, rfl, hz, q⟩
  · rw [Vals.ref1 r]
    obtain ⟨as, rd⟩ := Dp.reads I d (.ref a) (.ref a) hd rfl
    refine PySem.repr_of_reads' (h₀ := s.heap) rd hs (fun z => by rw [hdi] at z; cases z) hgd (by omega) (fun _ _ e => e) (fun h' u tk hk => ?_) hz
    exact ⟨.str d.shown, H, I.kept hk, ⟨u, rfl⟩, q⟩
  · obtain ⟨u, rfl, t⟩ := vals1 r
    cases t
    exact PySem.P.repr_of_none ⟨.str _, H, I.tok _, ⟨_, rfl⟩, q⟩
  · obtain ⟨u, rfl, t⟩ := vals1 r
    cases t
    exact PySem.P.repr_of_bool ⟨.str _, H, I.tok _, ⟨_, rfl⟩, q⟩
  · obtain ⟨u, rfl, t, rfl⟩ := vals1 r
    exact PySem.P.repr_of_int hz ⟨.str _, H, I.tok _, ⟨_, rfl⟩, q⟩
  · obtain ⟨u, rfl, t, rfl⟩ := vals1 r
    exact PySem.P.repr_of_str ⟨.str _, H, I.tok _, ⟨_, rfl⟩, q⟩ hz
theorem s_repr : OpNS X (rRepr X.K) oRepr := by
  intro H av vs ds Q ha rs h
  unfold oRepr at h
  split at h
  · rename_i d
    split at h
    · rename_i hc
      simp only [Bool.and_eq_true, decide_eq_true_eq] at hc
      obtain ⟨⟨⟨ht, hp⟩, hsh⟩, hz⟩ := hc
      cases rs with
      | cons r1 rn =>
      cases rn
      obtain ⟨a1, a2, a3⟩ := toP1_ok hp r1
      have hv : ∃ a, ‹V› = V.ref a := by
        cases r1 <;> first | exact ⟨_, rfl⟩ | simp [topC] at ht
      obtain ⟨a, rfl⟩ := hv
      exact .inl ⟨a, _, rfl, a1, hsh, PyData.hasDict_of_canLay _ a2, a3, hz, opq0 h (.str _)⟩
    · cases rs with
      | cons r1 rn =>
      cases rn
      refine .inr ?_
      cases r1 <;> simp only [flatT] at h
      case non => exact .inl ⟨rfl, opq0 h (.str _)⟩
      case bl b => exact .inr (.inl ⟨_, rfl, opq0 h (.str _)⟩)
      case int i =>
        split at h
        · rename_i q
          split at q
          · rename_i hz
            cases q
            exact .inr (.inr (.inl ⟨_, rfl, hz, opq0 h (.str _)⟩))
          · cases q
        · exact h.elim
      case str x =>
        split at h
        · rename_i q
          split at q
          · rename_i hz
            cases q
            exact .inr (.inr (.inr ⟨_, rfl, hz, opq0 h (.str _)⟩))
          · cases q
        · exact h.elim
      all_goals exact False.elim h
  · exact h.elim
end
end VL
namespace VL
open PySem PySem.Spec PyProof.Rows L2
variable [tt : TabList]
theorem fn_stuck {P : Program} {w : World} {K : PySem.W.Frag} {mg : Str → Option Value} {base : Heap} {k : Nat} {f : Addr} {fd : FuncData} {ps : List Str} {κio : Option Kd} : FnOk P w K mg base (L2.CX P w) k f fd ps (spF (mkB K mg) ps.length κio fun _ => .stuck) := by
  refine ⟨fun vs H Q E h => h.1, fun A outer s H args us vs Q E _ _ _ _ h => ?_⟩
  obtain ⟨_, T, ds, _, _, _, h⟩ := h
  cases κio with
  | none => exact h.2.elim
  | some κ => obtain ⟨_, _, _, _, _, _, _, _, _, _, h⟩ := h; exact h.elim
/-- a def by its promise, as a callee -/
theorem FnOk.f {P : Program} {w : World} {K : PySem.W.Frag} {mg : Str → Option Value} {base : Heap} {k : Nat} {f : Addr} {fd : FuncData} {ps : List Str} {κio : Option Kd} {F : List D → FRes} {x qual : Str} {st : Stmt} (ok : FnOk P w K mg base (L2.CX P w) k f fd ps (spF (mkB K mg) ps.length κio F)) (hF : Fun K x qual st f fd) (hm : mg x = some (.ref f)) (hb : Binds K fd ps []) : Nonempty (FnF P w K mg base k x ps κio F) := ⟨⟨f, fd, ok, hm, hF.kp, hb⟩⟩
/-- from the law's promise -/
def scrD (ns : List Int) : D := .lst (ns.map D.int)
end VL
namespace VL
open PySem PySem.Spec PyProof.Rows L2
variable [tt : TabList]

/-! ### the law's head, for a law that shows containers -/
theorem head_run {P : Program} {w : World} {K : PySem.W.Frag} {mg mb : Str → Option Value} {k : Nat} {fa a : Addr} {fd : FuncData} {x : Str} {sp : Sp} {s₁ : Shared} {vs : List Value} {H : Hp}
    (KX : K.In s₁.heap) (hns : s₁.heap.Ns mainGlobals mg) (hb : s₁.heap.Ns builtinsNs mb) (hbb : ∀ x : Str, x ≠ "__name__" → mb x = bootBuiltins x) (hlim : s₁.heap.NoLimit) (hg : s₁.gens = #[])
    (ha : s₁.heap.get? a = some { cls := .type "list", data := .seq vs.toArray }) (hr : Room k callerA)
    (F : ∀ base : Heap, K.In base → base.Ns mainGlobals mg → FnOkG P w K mg base (L2.CX P w) k fa fd [x] sp) (hbind : ∀ (s : Shared) (u : Value), BindsTo s fd ⟨[u], []⟩ [(x, u)])
    (hsp : sp [.ref a] H (fun v _ => v = .bl true) fun _ _ _ => False) (hok : HOk P w H s₁.heap) (hA : ∀ b, H b ≠ none → b = a ∧ K.lookup a = none) (hO : Only H) :
    codeAny (model P w) callerA (.call (.ref fa) ⟨[.ref a], []⟩) (fun r s' => r = .ok (.ret (.bool true)) ∧ OldK s₁.heap s'.heap ∧ s'.os = s₁.os ∧ AllBare s'.gens) s₁ := by
  -- a dict of the heap is never the script
  have free : ∀ {b : Addr} {o : Obj} {es : Array DictEntry} {ep : Nat}, s₁.heap.get? b = some o → o.data = .dict es ep → H b = none := fun {b o es ep} e d => by
    by_cases q : H b = none
    · exact q
    · obtain ⟨rfl, _⟩ := hA b q
      rw [ha] at e; cases e
      exact (by have d' : Data.seq vs.toArray _ = Data.dict es ep := d; cases d')
  have stay : ∀ {b : Addr} {m : Str → Option Value}, s₁.heap.Ns b m → (hidT s₁.heap H).Ns b m := fun {b m} ⟨o, es, ep, e, d, r⟩ => ⟨o, es, ep, hidT_get e (free e d), d, r⟩
  have KB : K.In (hidT s₁.heap H) := fun b o e => hidT_get (KX b o e) (by
    by_cases q : H b = none
    · exact q
    · obtain ⟨rfl, z⟩ := hA b q
      rw [z] at e; cases e)
  obtain ⟨mc, l1, l2⟩ := hlim
  have e0 : Env0 P w K mg (hidT s₁.heap H) callerA [] s₁ H :=
    ⟨rfl, ⟨KB, stay hns, ⟨mb, stay hb, hbb⟩, mc, stay l1, l2⟩, fun b o e => of_hidT e, Nat.le_of_eq (hidT_size _ _), trivial, (fun b z => by have z' : b ∈ ([] : List Addr) := z; simp at z'), hok, .of_eq hg⟩
  refine codeAny_mono ((F _ KB (stay hns)).run callerA [] s₁ H ⟨[.ref a], []⟩ [.ref a] [.ref a] _ _ rfl hr e0 (hbind s₁ (.ref a)) (.cons rfl .nil) hsp) fun r s' h => ?_
  match r, h with
  | .error e, h =>
    obtain ⟨_, _, _, _, _, _, _, _, _, _, _, _, z⟩ := h
    exact z.elim
  | .ok .next, h => exact False.elim h
  | .ok .brk, h => exact False.elim h
  | .ok .cont, h => exact False.elim h
  | .ok (.ret u), ⟨v, H', os, bare, un, hok', ru, q⟩ =>
    have q' : v = .bl true := q
    subst q'
    obtain rfl : u = Value.bool true := ru
    refine ⟨rfl, OldK.of_keep fun b o e => ?_, os, bare⟩
    rcases hO b with z | ⟨ob, xs, z⟩
    · exact un.keep b o e z (by intro t; have t' : b ∈ ([] : List Addr) := t; simp at t') (by simp)
    · obtain ⟨e1, _⟩ := hok b _ z
      obtain ⟨e2, _⟩ := hok' b _ (un.frzs b ob _ z)
      rw [e] at e1; cases e1
      exact e2
theorem head_call (hT : tt.T = []) {P : Program} {w : World} {K : PySem.W.Frag} {mg mb : Str → Option Value} {k : Nat} {fa a : Addr} {fd : FuncData} {x : Str} {F : List D → FRes} {s₁ : Shared} {vs : List Value} {ns : List Int}
    (KX : K.In s₁.heap) (hns : s₁.heap.Ns mainGlobals mg) (hb : s₁.heap.Ns builtinsNs mb) (hbb : ∀ x : Str, x ≠ "__name__" → mb x = bootBuiltins x) (hlim : s₁.heap.NoLimit) (hg : s₁.gens = #[])
    (ha : s₁.heap.get? a = some { cls := .type "list", data := .seq vs.toArray }) (hi : IntsAre vs ns) (hl : ns.length ≤ sizeLine) (hr : Room k callerA) (hK : ∀ b o, K.lookup b = some o → o.cls ≠ .type "list")
    (hF : ∀ base : Heap, K.In base → base.Ns mainGlobals mg → FnOkG P w K mg base (L2.CX P w) k fa fd [x] (spF (mkB K mg) 1 none F)) (hbind : ∀ (s : Shared) (u : Value), BindsTo s fd ⟨[u], []⟩ [(x, u)])
    (hlaw : F [.lst (ns.map D.int)] = .ok (.fz (.bl true)) none) :
    codeAny (model P w) callerA (.call (.ref fa) ⟨[.ref a], []⟩) (fun r s' => r = .ok (.ret (.bool true)) ∧ OldK s₁.heap s'.heap ∧ s'.os = s₁.os ∧ AllBare s'.gens) s₁ := by
  have rv := vals_ints hi
  cases hk : K.lookup a with
  | some o =>
    have e := KX a o hk
    rw [ha] at e
    cases e
    exact absurd rfl (hK _ _ hk)
  | none =>
    have hH : ∀ b, (if b = a then some (HO.frz { cls := .type "list", data := .seq vs.toArray } (.lst (ns.map V.int))) else none) = none ∨ b = a := fun b => by
      by_cases h : b = a
      · exact .inr h
      · exact .inl (if_neg h)
    have hO : Only (fun b => if b = a then some (HO.frz { cls := .type "list", data := .seq vs.toArray } (.lst (ns.map V.int))) else none) := fun b => (hH b).imp id fun e => ⟨_, _, if_pos e⟩
    have hok : HOk P w (fun b => if b = a then some (HO.frz { cls := .type "list", data := .seq vs.toArray } (.lst (ns.map V.int))) else none) s₁.heap := fun b u z => by
      have z : (if b = a then some (HO.frz { cls := .type "list", data := .seq vs.toArray } (.lst (ns.map V.int))) else none) = some u := z
      rcases hH b with h | h
      · rw [h] at z; cases z
      · subst h
        rw [if_pos rfl] at z; cases z
        exact ⟨ha, by rw [List.length_map]; exact hl, vs, _, rv, ha⟩
    refine head_run KX hns hb hbb hlim hg ha hr hF hbind ?_ hok (fun b z => ⟨(hH b).resolve_left z, hk⟩) hO
    refine ⟨rfl, fun _ => False, [.lst (ns.map D.int)], fun _ z => z.elim, HB.of hok, (fun p hp => by have hp : p ∈ tt.T := hp; rw [hT] at hp; cases hp), .cons (.lst (.inr ⟨{ cls := .type "list", data := .seq vs.toArray }, if_pos rfl⟩) (fun z => z) (Reps.ints ns)) .nil, ?_⟩
    rw [hlaw]
    exact fun v H' _ _ r => by cases r; rfl
/-- THE END for a law: F is its def's denotation -/
theorem walk_ofG {l : PySem.W.OpenLaw} {n k : Nat} {q : Program} {loose : List Str} {XP : (Str → Option Value) → Heap → Prop} {YP : World → Heap → Prop} {d : DefRec} {K : Params → PySem.W.Frag} {F : List D → FRes} {x : Str}
    (hT : tt.T = []) (hn : l.most = some n) (hn2 : n ≤ sizeLine) (hdf : d.params.defaults = []) (hr : Room k callerA)
    (hY : ∀ (w : World) (h : Heap), YP w h → (K w.params).In h)
    (hF : ∀ (w : World) (mg : Str → Option Value) (fa : Addr) (h : Heap), (K w.params).In h → h.Ns mainGlobals mg → mg d.name = some (.ref fa) →
      (∀ b o, (K w.params).lookup b = some o → o.cls ≠ .type "list") ∧ ∃ fd : FuncData, (∀ (s : Shared) (u : Value), BindsTo s fd ⟨[u], []⟩ [(x, u)]) ∧
        ∀ base : Heap, (K w.params).In base → base.Ns mainGlobals mg → FnOkG l.prog w (K w.params) mg base (L2.CX l.prog w) k fa fd [x] (spF (mkB (K w.params) mg) 1 none F))
    (hlaw : ∀ ns : List Int, ns.length ≤ n → F [.lst (ns.map D.int)] = .ok (.fz (.bl true)) none) :
    PySem.W.WalkO q loose XP YP l.row.toRowW d [] (fun f vs => PySem.call f vs) := by
  refine Att.attach_call hn hdf fun w s₀ s₁ mg mb fa o pm cd doc a vs ns G Y ho hd hcd hmg hobj hints hlen hg => ?_
  have KX := hY w _ Y
  obtain ⟨hK, fd, hb, hF⟩ := hF w mg fa _ KX G.T.g hmg
  exact head_call hT KX G.T.g G.T.b G.T.builtins G.T.nolimit hg hobj hints (Nat.le_trans hlen hn2) hr hK hF hb (hlaw ns hlen)
end VL
namespace VL
open PySem PySem.Spec PyProof.Rows L2
variable [tt : TabList]
def noL (K : PySem.W.Frag) : Bool := K.all fun p => match p.2.cls with | .type n => n != "list" | _ => true
theorem noL_ok : ∀ {K : PySem.W.Frag}, noL K = true → ∀ b o, K.lookup b = some o → o.cls ≠ .type "list"
  | [], _, b, o, e => by cases e
  | (a, u) :: K, h, b, o, e => by
    unfold noL at h
    rw [List.all_cons, Bool.and_eq_true] at h
    rw [List.lookup_cons] at e
    split at e
    · cases e
      intro z
      rw [z] at h
      simp at h
    · exact noL_ok h.2 b o e
theorem exm_one {K : PySem.W.Frag} {S : Addr} (h1 : PySem.W.subIn K (.ref S) (.type "BaseException") = some true) (h2 : PySem.W.isClsIn K S = true) (h3 : PySem.W.typeIn K (.ref S) = some (.type "type")) (h4 : PySem.W.subIn K (.ref S) (.ref S) = some true) :
    PySem.W.exmOne K (.ref S) (.ref S) = some true := by
  have h2 : (PySem.W.clsIn K S).isSome = true := h2
  unfold PySem.W.exmOne
  rw [if_pos (by rw [h1]; rfl)]
  show (if ((PySem.W.clsIn K S).isSome && PySem.W.typeIn K (.ref S) == some (.type "type")) = true then PySem.W.subIn K (.ref S) (.ref S) else none) = some true
  rw [if_pos (by rw [h2, h3]; rfl)]
  exact h4
theorem match_one {X : Cx} {C : Addr} {x : Str} (hm : X.mg x = some (.ref C)) (h : PySem.W.exmOne X.K (.ref C) (.ref C) = some true) : MatchOk X (.ref C) (fun z => if z = x then some true else none) := by
  intro nm C' b e1 e2
  by_cases hz : nm = x
  · subst hz
    rw [hm] at e1; cases e1
    simp only [if_true] at e2; cases e2
    exact h
  · simp only [hz, if_false] at e2; cases e2
end VL
namespace VL
open PySem PySem.Spec PyProof.Rows L2

/-! what is so behind a step: W calculus over the denotations -/
@[irreducible] def WR {α : Type} (r : Res α) (Q : α → Env → Prop) (X : Exn → Env → Prop) : Prop := match r with
  | .ok a e => Q a e
  | .ex x e => X x e
  | .stuck => False
@[irreducible] def WF (r : FRes) (Q : TV → Option D → Prop) (X : Exn → Option D → Prop) : Prop := match r with
  | .ok a e => Q a e
  | .ex x e => X x e
  | .stuck => False
@[irreducible] def WS (r : SRes) (N : Env → Prop) (T : TV → Env → Prop) (B C : Env → Prop) (X : Exn → Env → Prop) : Prop := match r with
  | .nx e => N e
  | .rt v e => T v e
  | .bk e => B e
  | .ct e => C e
  | .ex x e => X x e
  | .stuck => False
def GV (env : Env) (t : TV) (k : D → Prop) : Prop := match getV env t with
  | some d => k d
  | none => False
def GVs (env : Env) (ts : List TV) (k : List D → Prop) : Prop := match getVs env ts with
  | some d => k d
  | none => False
def GS (s : Option SV) (k : D → Prop) : Prop := match s with
  | some (.fz d) => k d
  | some (.ow κ d) => κ.one = true ∧ k d
  | some (.lk κ d) => κ.one = true ∧ k d
  | _ => False
def GB (env : Env) (ts : List TV) (k : List D → Bool → Prop) : Prop := match argsB env ts with
  | some (ds, b) => k ds b
  | none => False
def GB1 (env : Env) (t : TV) (k : D → Bool → Prop) : Prop := match argB env t with
  | some (ds, b) => k ds b
  | none => False
def GBS (s : Option SV) (k : D → Bool → Prop) : Prop := match s with
  | some (.fz d) => k d false
  | some (.ow κ d) => k d true
  | some (.lk κ d) => k d true
  | _ => False
def GF (ts : List TV) (k : List D → Prop) : Prop := match frzs ts with
  | some d => k d
  | none => False
def GF1 (t : TV) (k : D → Prop) : Prop := match frzV t with
  | some d => k d
  | none => False
def GO {α : Type} (o : Option α) (k : α → Prop) : Prop := match o with
  | some d => k d
  | none => False
def CV (s : Option SV) (i : Nat) (env : Env) (Q : TV → Env → Prop) : Prop := match s with
  | some (.fz d) => Q (.fz d) env
  | some (.ow _ _) => Q (.sl i) env
  | some (.lk _ _) => Q (.sl i) env
  | _ => False
def CF (s : Option SV) (i : Nat) (env : Env) (Q : TV → Env → Prop) : Prop := match s with
  | some (.fz d) => Q (.fz d) env
  | some (.ow κ d) => Q (.fz d) (env.set i (.fz d))
  | _ => False
def CM (s : Option SV) (i : Nat) (env : Env) (Q : TV → Env → Prop) : Prop := match s with
  | some (.fz d) => Q (.fz d) env
  | some (.ow κ d) => i ≠ 0 ∧ Q (.ow κ d) (env.set i .no)
  | _ => False
def GW (s : Option SV) (k : Kd → D → Prop) : Prop := match s with
  | some (.ow κ d) => k κ d
  | _ => False
def KV (bor : Bool) (tv : TV) : Prop := match tv with
  | .fz d => bor = false ∨ imm d = true
  | .ow κ d => bor = false ∨ (κ.one = true ∧ immIn d = true)
  | .sl _ => False
def SV1 (tv : TV) (k : SV → Prop) : Prop := match tv with
  | .fz d => k (.fz d)
  | .ow κ d => k (.ow κ d)
  | .sl _ => False
def BL (d : D) (k : Bool → Prop) : Prop := match d with
  | .bl b => k b
  | _ => False
def INT (d : D) (k : Int → Prop) : Prop := match d with
  | .int b => k b
  | _ => False
section
variable {α β : Type} {r r' : Res α} {Q : α → Env → Prop} {X : Exn → Env → Prop} {QV : TV → Env → Prop} {QB : Bool → Env → Prop} {QF : TV → Option D → Prop} {XF : Exn → Option D → Prop}
  {N B C : Env → Prop} {T : TV → Env → Prop} {env e : Env} {k : D → Prop} {kk : List D → Prop} {kb : D → Bool → Prop} {kkb : List D → Bool → Prop} {d d1 d2 : D} {t : TV} {ts : List TV} {κ : Kd} {i : Nat} {b : Bool} {x : Exn} {s : SRes} {kI : Int → Prop} {kB : Bool → Prop} {kS : SV → Prop}
theorem WR.mono (h : WR r Q X) {Q' : α → Env → Prop} {X' : Exn → Env → Prop} (hq : ∀ a e, Q a e → Q' a e) (hx : ∀ a e, X a e → X' a e) : WR r Q' X' := by
  cases r <;> simp only [WR] at h ⊢
  · with_unfolding_all exact hq _ _ h
  · with_unfolding_all exact hx _ _ h
theorem WF.mono {r : FRes} (h : WF r QF XF) {Q' : TV → Option D → Prop} {X' : Exn → Option D → Prop} (hq : ∀ a e, QF a e → Q' a e) (hx : ∀ a e, XF a e → X' a e) : WF r Q' X' := by
  cases r <;> simp only [WF] at h ⊢
  · with_unfolding_all exact hq _ _ h
  · with_unfolding_all exact hx _ _ h
theorem WS.mono {r : SRes} (h : WS r N T B C X) {N' B' C' : Env → Prop} {T' : TV → Env → Prop} {X' : Exn → Env → Prop} (hn : ∀ e, N e → N' e) (ht : ∀ v e, T v e → T' v e) (hb : ∀ e, B e → B' e) (hc : ∀ e, C e → C' e) (hx : ∀ v e, X v e → X' v e) : WS r N' T' B' C' X' := by
  cases r <;> simp only [WS] at h ⊢
  · with_unfolding_all exact hn _ h
  · with_unfolding_all exact ht _ _ h
  · with_unfolding_all exact hb _ h
  · with_unfolding_all exact hc _ h
  · with_unfolding_all exact hx _ _ h
theorem wr_ok {a : α} : WR (.ok a e) Q X ↔ Q a e := by with_unfolding_all exact Iff.rfl
theorem wr_bind {r : Res β} {f : β → Env → Res α} : WR (r.bind f) Q X ↔ WR r (fun a e => WR (f a e) Q X) X := by cases r <;> with_unfolding_all exact Iff.rfl
theorem wr_bindN {r : Res β} {f : β → Env → Res α} : WR (r.bindN f) Q X ↔ WR r (fun a e => WR (f a e) Q X) (fun _ _ => False) := by cases r <;> with_unfolding_all exact Iff.rfl
theorem wf_ok {tv : TV} {io : Option D} : WF (.ok tv io) QF XF ↔ QF tv io := by with_unfolding_all exact Iff.rfl
theorem wf_stuck : WF .stuck QF XF ↔ False := by with_unfolding_all exact Iff.rfl
theorem wr_stuck : WR (.stuck : Res α) Q X ↔ False := by with_unfolding_all exact Iff.rfl
theorem wf_ex {io : Option D} : WF (.ex x io) QF XF ↔ XF x io := by with_unfolding_all exact Iff.rfl
/-! values -/
theorem gv_fz : GV env (.fz d) k ↔ k d := by with_unfolding_all exact Iff.rfl
theorem gv_ow : GV env (.ow κ d) k ↔ k d := by with_unfolding_all exact Iff.rfl
theorem gv_sl : GV env (.sl i) k ↔ GS env[i]? k := by
  unfold GV GS getV
  dsimp only
  cases env[i]? with
  | none => with_unfolding_all exact Iff.rfl
  | some sv =>
    cases sv with
    | no => with_unfolding_all exact Iff.rfl
    | fz d => with_unfolding_all exact Iff.rfl
    | ow κ d =>
      dsimp only
      cases h : κ.one with
      | true => with_unfolding_all exact ⟨fun z => ⟨rfl, z⟩, fun z => z.2⟩
      | false => with_unfolding_all exact ⟨fun z => z.elim, fun z => nomatch z.1⟩
    | lk κ d =>
      dsimp only
      cases h : κ.one with
      | true => with_unfolding_all exact ⟨fun z => ⟨rfl, z⟩, fun z => z.2⟩
      | false => with_unfolding_all exact ⟨fun z => z.elim, fun z => nomatch z.1⟩
theorem gs_fz : GS (some (.fz d)) k ↔ k d := by with_unfolding_all exact Iff.rfl
theorem gs_ow : GS (some (.ow κ d)) k ↔ κ.one = true ∧ k d := by with_unfolding_all exact Iff.rfl
theorem gs_lk : GS (some (.lk κ d)) k ↔ κ.one = true ∧ k d := by with_unfolding_all exact Iff.rfl
theorem gvs_nil : GVs env [] kk ↔ kk [] := by with_unfolding_all exact Iff.rfl
theorem gvs_cons : GVs env (t :: ts) kk ↔ GV env t fun d => GVs env ts fun ds => kk (d :: ds) := by
  unfold GVs GV
  rw [getVs]
  cases getV env t with
  | none => with_unfolding_all exact Iff.rfl
  | some d =>
    dsimp only
    cases getVs env ts with
    | none => with_unfolding_all exact Iff.rfl
    | some ds => with_unfolding_all exact Iff.rfl
theorem gb1_fz : GB1 env (.fz d) kb ↔ kb d false := by with_unfolding_all exact Iff.rfl
theorem gb1_ow : GB1 env (.ow κ d) kb ↔ kb d false := by with_unfolding_all exact Iff.rfl
theorem gb1_sl : GB1 env (.sl i) kb ↔ GBS env[i]? kb := by
  unfold GB1 GBS argB
  dsimp only
  cases env[i]? with
  | none => with_unfolding_all exact Iff.rfl
  | some sv => cases sv <;> with_unfolding_all exact Iff.rfl
theorem gbs_fz : GBS (some (.fz d)) kb ↔ kb d false := by with_unfolding_all exact Iff.rfl
theorem gbs_ow : GBS (some (.ow κ d)) kb ↔ kb d true := by with_unfolding_all exact Iff.rfl
theorem gbs_lk : GBS (some (.lk κ d)) kb ↔ kb d true := by with_unfolding_all exact Iff.rfl
theorem gb_nil : GB env [] kkb ↔ kkb [] false := by with_unfolding_all exact Iff.rfl
theorem gb_cons : GB env (t :: ts) kkb ↔ GB1 env t fun d b => GB env ts fun ds b' => kkb (d :: ds) (b || b') := by
  unfold GB GB1
  rw [argsB]
  cases argB env t with
  | none => with_unfolding_all exact Iff.rfl
  | some d =>
    dsimp only
    cases argsB env ts with
    | none => with_unfolding_all exact Iff.rfl
    | some ds => with_unfolding_all exact Iff.rfl
theorem gf1_fz : GF1 (.fz d) k ↔ k d := by with_unfolding_all exact Iff.rfl
theorem gf1_ow : GF1 (.ow κ d) k ↔ k d := by with_unfolding_all exact Iff.rfl
theorem gf_nil : GF [] kk ↔ kk [] := by with_unfolding_all exact Iff.rfl
theorem gf_cons : GF (t :: ts) kk ↔ GF1 t fun d => GF ts fun ds => kk (d :: ds) := by
  unfold GF GF1
  rw [frzs]
  cases frzV t with
  | none => with_unfolding_all exact Iff.rfl
  | some d =>
    dsimp only
    cases frzs ts with
    | none => with_unfolding_all exact Iff.rfl
    | some ds => with_unfolding_all exact Iff.rfl
theorem go_some {α : Type} {a : α} {k : α → Prop} : GO (some a) k ↔ k a := by with_unfolding_all exact Iff.rfl
theorem cv_fz : CV (some (.fz d)) i env QV ↔ QV (.fz d) env := by with_unfolding_all exact Iff.rfl
theorem cv_ow : CV (some (.ow κ d)) i env QV ↔ QV (.sl i) env := by with_unfolding_all exact Iff.rfl
theorem cv_lk : CV (some (.lk κ d)) i env QV ↔ QV (.sl i) env := by with_unfolding_all exact Iff.rfl
theorem cfz_fz : CF (some (.fz d)) i env QV ↔ QV (.fz d) env := by with_unfolding_all exact Iff.rfl
theorem cfz_ow : CF (some (.ow κ d)) i env QV ↔ QV (.fz d) (env.set i (.fz d)) := by with_unfolding_all exact Iff.rfl
theorem cm_fz : CM (some (.fz d)) i env QV ↔ QV (.fz d) env := by with_unfolding_all exact Iff.rfl
theorem cm_ow : CM (some (.ow κ d)) i env QV ↔ i ≠ 0 ∧ QV (.ow κ d) (env.set i .no) := by with_unfolding_all exact Iff.rfl
theorem gw_ow {k : Kd → D → Prop} : GW (some (.ow κ d)) k ↔ k κ d := by with_unfolding_all exact Iff.rfl
theorem kv_f : KV false (.fz d) ↔ True := ⟨fun _ => trivial, fun _ => .inl rfl⟩
theorem kv_o : KV false (.ow κ d) ↔ True := ⟨fun _ => trivial, fun _ => .inl rfl⟩
theorem kv_tf : KV true (.fz d) ↔ imm d = true := ⟨fun h => h.elim (fun z => nomatch z) id, .inr⟩
theorem kv_to : KV true (.ow κ d) ↔ κ.one = true ∧ immIn d = true := ⟨fun h => h.elim (fun z => nomatch z) id, .inr⟩
theorem sv1_fz : SV1 (.fz d) kS ↔ kS (.fz d) := by with_unfolding_all exact Iff.rfl
theorem sv1_ow : SV1 (.ow κ d) kS ↔ kS (.ow κ d) := by with_unfolding_all exact Iff.rfl
theorem bl_ : BL (.bl b) kB ↔ kB b := by with_unfolding_all exact Iff.rfl
theorem int_ {i : Int} : INT (.int i) kI ↔ kI i := by with_unfolding_all exact Iff.rfl
/-! expressions -/
theorem w_C : WR (cC d env) QV X ↔ QV (.fz d) env := by with_unfolding_all exact Iff.rfl
theorem w_V : WR (cV i env) QV X ↔ CV env[i]? i env QV := by
  unfold cV CV
  cases env[i]? with
  | none => with_unfolding_all exact Iff.rfl
  | some sv => cases sv <;> with_unfolding_all exact Iff.rfl
theorem w_F : WR (cF i env) QV X ↔ CF env[i]? i env QV := by
  unfold cF CF
  cases env[i]? with
  | none => with_unfolding_all exact Iff.rfl
  | some sv => cases sv <;> with_unfolding_all exact Iff.rfl
theorem w_M : WR (cM i env) QV X ↔ CM env[i]? i env QV := by
  unfold cM CM
  cases env[i]? with
  | none => with_unfolding_all exact Iff.rfl
  | some sv =>
    cases sv with
    | ow κ d =>
      dsimp only
      by_cases h : i = 0
      · rw [if_pos h]; with_unfolding_all exact ⟨fun z => z.elim, fun z => z.1 h⟩
      · rw [if_neg h]; with_unfolding_all exact ⟨fun z => ⟨h, z⟩, fun z => z.2⟩
    | _ => with_unfolding_all exact Iff.rfl
theorem wr_fin_val : WR (fin (.val d) env) QV X ↔ QV (.fz d) env := by with_unfolding_all exact Iff.rfl
theorem wr_fin_new : WR (fin (.new κ d) env) QV X ↔ QV (.ow κ d) env := by with_unfolding_all exact Iff.rfl
theorem wr_fin_stuck : WR (fin .stuck env) QV X ↔ False := by with_unfolding_all exact Iff.rfl
theorem wr_fin_if {c : Prop} [Decidable c] {o : ORes} : WR (fin (if c then o else .stuck) env) QV X ↔ c ∧ WR (fin o env) QV X := by
  by_cases h : c
  · rw [if_pos h]; with_unfolding_all exact ⟨fun z => ⟨h, z⟩, fun z => z.2⟩
  · rw [if_neg h]; with_unfolding_all exact ⟨fun z => z.elim, fun z => h z.1⟩
theorem w_bin {op : D → D → ORes} {fa fb : M TV} : WR (cBin op fa fb env) QV X ↔ WR (fa env) (fun t1 e1 => WR (fb e1) (fun t2 e2 => GV e2 t1 fun d1 => GV e2 t2 fun d2 => WR (fin (op d1 d2) e2) QV X) X) X := by
  unfold cBin
  rw [wr_bind]
  cases fa env with
  | ok t1 e1 =>
    rw [wr_ok, wr_ok, wr_bind]
    cases fb e1 with
    | ok t2 e2 =>
      rw [wr_ok, wr_ok]
      unfold GV
      cases getV e2 t1 with
      | none => with_unfolding_all exact Iff.rfl
      | some d1 => cases getV e2 t2 <;> with_unfolding_all exact Iff.rfl
    | _ => with_unfolding_all exact Iff.rfl
  | _ => with_unfolding_all exact Iff.rfl
theorem w_un {op : D → ORes} {fa : M TV} : WR (cUn op fa env) QV X ↔ WR (fa env) (fun t1 e1 => GV e1 t1 fun d1 => WR (fin (op d1) e1) QV X) X := by
  unfold cUn
  rw [wr_bind]
  cases fa env with
  | ok t1 e1 =>
    rw [wr_ok, wr_ok]
    unfold GV
    cases getV e1 t1 <;> with_unfolding_all exact Iff.rfl
  | _ => with_unfolding_all exact Iff.rfl
def IFB (b : Bool) (P R : Prop) : Prop := (b = true → P) ∧ (b = false → R)
theorem ifb_t {P R : Prop} : IFB true P R ↔ P := ⟨fun h => h.1 rfl, fun h => ⟨fun _ => h, (fun z => nomatch z)⟩⟩
theorem ifb_f {P R : Prop} : IFB false P R ↔ R := ⟨fun h => h.2 rfl, fun h => ⟨(fun z => nomatch z), fun _ => h⟩⟩
theorem ifb_of {P R : Prop} (h : if b then P else R) : IFB b P R := by
  cases b with
  | true => with_unfolding_all exact ifb_t.2 h
  | false => with_unfolding_all exact ifb_f.2 h
theorem w_if {fc : M Bool} {fa fb : M TV} : WR (cIf fc fa fb env) QV X ↔ WR (fc env) (fun b e => IFB b (WR (fa e) QV X) (WR (fb e) QV X)) X := by
  unfold cIf
  rw [wr_bind]
  cases fc env with
  | ok b e => rw [wr_ok, wr_ok]; cases b with
    | true => with_unfolding_all exact ifb_t.symm
    | false => with_unfolding_all exact ifb_f.symm
  | _ => with_unfolding_all exact Iff.rfl
theorem w_andV {fa fb : M TV} : WR (cAndV fa fb env) QV X ↔ WR (fa env) (fun t e => GV e t fun d => BL d fun b => IFB b (WR (fb e) QV X) (QV (.fz (.bl false)) e)) X := by
  unfold cAndV
  rw [wr_bind]
  cases fa env with
  | ok t e =>
    rw [wr_ok, wr_ok]
    unfold GV
    cases getV e t with
    | none => with_unfolding_all exact Iff.rfl
    | some d => cases d with
      | bl b => cases b with
        | true => with_unfolding_all exact ifb_t.symm
        | false => with_unfolding_all exact ifb_f.symm
      | _ => with_unfolding_all exact Iff.rfl
  | _ => with_unfolding_all exact Iff.rfl
theorem w_orV {fa fb : M TV} : WR (cOrV fa fb env) QV X ↔ WR (fa env) (fun t e => GV e t fun d => BL d fun b => IFB b (QV (.fz (.bl true)) e) (WR (fb e) QV X)) X := by
  unfold cOrV
  rw [wr_bind]
  cases fa env with
  | ok t e =>
    rw [wr_ok, wr_ok]
    unfold GV
    cases getV e t with
    | none => with_unfolding_all exact Iff.rfl
    | some d => cases d with
      | bl b => cases b with
        | true => with_unfolding_all exact ifb_t.symm
        | false => with_unfolding_all exact ifb_f.symm
      | _ => with_unfolding_all exact Iff.rfl
  | _ => with_unfolding_all exact Iff.rfl
theorem w_tst {f : M TV} : WR (tst f env) QB X ↔ WR (f env) (fun t e => GV e t fun d => BL d fun b => QB b e) X := by
  unfold tst
  rw [wr_bind]
  cases f env with
  | ok t e =>
    rw [wr_ok, wr_ok]
    unfold GV
    cases getV e t with
    | none => with_unfolding_all exact Iff.rfl
    | some d => cases d <;> with_unfolding_all exact Iff.rfl
  | _ => with_unfolding_all exact Iff.rfl
theorem w_tAnd {f g : M Bool} : WR (tAndB f g env) QB X ↔ WR (f env) (fun b e => IFB b (WR (g e) QB X) (QB false e)) X := by
  unfold tAndB
  rw [wr_bind]
  cases f env with
  | ok b e => rw [wr_ok, wr_ok]; cases b with
    | true => with_unfolding_all exact ifb_t.symm
    | false => with_unfolding_all exact ifb_f.symm
  | _ => with_unfolding_all exact Iff.rfl
theorem w_tOr {f g : M Bool} : WR (tOrB f g env) QB X ↔ WR (f env) (fun b e => IFB b (QB true e) (WR (g e) QB X)) X := by
  unfold tOrB
  rw [wr_bind]
  cases f env with
  | ok b e => rw [wr_ok, wr_ok]; cases b with
    | true => with_unfolding_all exact ifb_t.symm
    | false => with_unfolding_all exact ifb_f.symm
  | _ => with_unfolding_all exact Iff.rfl
theorem w_tNot {f : M Bool} : WR (tNotB f env) QB X ↔ WR (f env) (fun b e => QB (!b) e) X := by
  unfold tNotB
  rw [wr_bind]
  cases f env <;> with_unfolding_all exact Iff.rfl
theorem w_tt {b : Bool} : WR ((fun env => Res.ok b env) env) QB X ↔ QB b env := by with_unfolding_all exact Iff.rfl
def ORB (o : ORes) (k : Bool → Prop) : Prop := match o with
  | .val (.bl b) => k b
  | _ => False
theorem orb_ : ORB (.val (.bl b)) kB ↔ kB b := by with_unfolding_all exact Iff.rfl
theorem w_chain {op op' : D → D → ORes} {fa fb fc : M TV} : WR (cChain op op' fa fb fc env) QV X ↔ WR (fa env) (fun t1 e1 => WR (fb e1) (fun t2 e2 => GV e2 t1 fun d1 => GV e2 t2 fun d2 => ORB (op d1 d2) fun b =>
    IFB b (WR (fc e2) (fun t3 e3 => GV e3 t2 fun d2 => GV e3 t3 fun d3 => ORB (op' d2 d3) fun b => QV (.fz (.bl b)) e3) X) (QV (.fz (.bl false)) e2)) X) X := by
  unfold cChain
  rw [wr_bind]
  cases fa env with
  | ok t1 e1 =>
    rw [wr_ok, wr_ok, wr_bind]
    cases fb e1 with
    | ok t2 e2 =>
      rw [wr_ok, wr_ok]
      unfold GV
      cases getV e2 t1 with
      | none => with_unfolding_all exact Iff.rfl
      | some d1 =>
        cases getV e2 t2 with
        | none => with_unfolding_all exact Iff.rfl
        | some d2 =>
          dsimp only
          unfold ORB
          cases op d1 d2 with
          | val d => cases d with
            | bl b => cases b with
              | false => with_unfolding_all exact ifb_f.symm
              | true =>
                dsimp only
                rw [ifb_t, wr_bind]
                cases fc e2 with
                | ok t3 e3 =>
                  rw [wr_ok, wr_ok]
                  cases getV e3 t2 with
                  | none => with_unfolding_all exact Iff.rfl
                  | some d2' =>
                    cases getV e3 t3 with
                    | none => with_unfolding_all exact Iff.rfl
                    | some d3 =>
                      dsimp only
                      cases op' d2' d3 with
                      | val d => cases d <;> with_unfolding_all exact Iff.rfl
                      | _ => with_unfolding_all exact Iff.rfl
                | _ => with_unfolding_all exact Iff.rfl
            | _ => with_unfolding_all exact Iff.rfl
          | _ => with_unfolding_all exact Iff.rfl
    | _ => with_unfolding_all exact Iff.rfl
  | _ => with_unfolding_all exact Iff.rfl
theorem w_args0 {Q : List TV → Env → Prop} : WR (cArgs [] env) Q X ↔ Q [] env := by with_unfolding_all exact Iff.rfl
theorem w_args1 {Q : List TV → Env → Prop} {f : M TV} {fs : List (M TV)} : WR (cArgs (f :: fs) env) Q X ↔ WR (f env) (fun t e => WR (cArgs fs e) (fun ts e => Q (t :: ts) e) X) X := by
  rw [cArgs, wr_bind]
  cases f env with
  | ok t e => rw [wr_ok, wr_ok, wr_bind]; cases cArgs fs e <;> with_unfolding_all exact Iff.rfl
  | _ => with_unfolding_all exact Iff.rfl
theorem w_tup {fs : List (M TV)} : WR (cTup fs env) QV X ↔ WR (cArgs fs env) (fun ts e => GF ts fun ds => ds.length ≤ 1000 ∧ QV (.fz (.tup ds)) e) X := by
  unfold cTup
  rw [wr_bind]
  cases cArgs fs env with
  | ok ts e =>
    rw [wr_ok, wr_ok]
    unfold GF
    cases frzs ts with
    | none => with_unfolding_all exact Iff.rfl
    | some ds =>
      dsimp only
      by_cases h : ds.length ≤ 1000
      · rw [if_pos h]; with_unfolding_all exact ⟨fun z => ⟨h, z⟩, fun z => z.2⟩
      · rw [if_neg h]; with_unfolding_all exact ⟨fun z => z.elim, fun z => h z.1⟩
  | _ => with_unfolding_all exact Iff.rfl
theorem w_lst {fs : List (M TV)} : WR (cLst fs env) QV X ↔ WR (cArgs fs env) (fun ts e => GF ts fun ds => ds.length ≤ 1000 ∧ QV (.ow .l (.lst ds)) e) X := by
  unfold cLst
  rw [wr_bind]
  cases cArgs fs env with
  | ok ts e =>
    rw [wr_ok, wr_ok]
    unfold GF
    cases frzs ts with
    | none => with_unfolding_all exact Iff.rfl
    | some ds =>
      dsimp only
      by_cases h : ds.length ≤ 1000
      · rw [if_pos h]; with_unfolding_all exact ⟨fun z => ⟨h, z⟩, fun z => z.2⟩
      · rw [if_neg h]; with_unfolding_all exact ⟨fun z => z.elim, fun z => h z.1⟩
  | _ => with_unfolding_all exact Iff.rfl
theorem w_call {op : List D → ORes} {fs : List (M TV)} : WR (cCall op fs env) QV X ↔ WR (cArgs fs env) (fun ts e => GVs e ts fun ds => WR (fin (op ds) e) QV X) X := by
  unfold cCall
  rw [wr_bind]
  cases cArgs fs env with
  | ok ts e =>
    rw [wr_ok, wr_ok]
    unfold GVs
    cases getVs e ts <;> with_unfolding_all exact Iff.rfl
  | _ => with_unfolding_all exact Iff.rfl
theorem w_opt0 {Q : Option Int → Env → Prop} : WR (cOpt none env) Q X ↔ Q none env := by with_unfolding_all exact Iff.rfl
theorem w_opt1 {Q : Option Int → Env → Prop} {f : M TV} : WR (cOpt (some f) env) Q X ↔ WR (f env) (fun t e => GV e t fun d => INT d fun i => Q (some i) e) X := by
  unfold cOpt
  dsimp only
  rw [wr_bind]
  cases f env with
  | ok t e =>
    rw [wr_ok, wr_ok]
    unfold GV
    cases getV e t with
    | none => with_unfolding_all exact Iff.rfl
    | some d => cases d <;> with_unfolding_all exact Iff.rfl
  | _ => with_unfolding_all exact Iff.rfl
theorem w_sl {op : D → Option Int → Option Int → ORes} {fe : M TV} {lo hi : Option (M TV)} : WR (cSl op fe lo hi env) QV X ↔ WR (fe env) (fun t e1 => WR (cOpt lo e1) (fun l e2 => WR (cOpt hi e2) (fun u e3 => GV e3 t fun d => WR (fin (op d l u) e3) QV X) X) X) X := by
  unfold cSl
  rw [wr_bind]
  cases fe env with
  | ok t e1 =>
    rw [wr_ok, wr_ok, wr_bind]
    cases cOpt lo e1 with
    | ok l e2 =>
      rw [wr_ok, wr_ok, wr_bind]
      cases cOpt hi e2 with
      | ok u e3 =>
        rw [wr_ok, wr_ok]
        unfold GV
        cases getV e3 t <;> with_unfolding_all exact Iff.rfl
      | _ => with_unfolding_all exact Iff.rfl
    | _ => with_unfolding_all exact Iff.rfl
  | _ => with_unfolding_all exact Iff.rfl
theorem w_mut {κ : Kd} {T : String} {op : D → List D → Option (D × D)} {fs : List (M TV)} : WR (cMut i κ T op fs env) QV X ↔ GW env[i]? fun κ0 _ => κ0 = κ ∧ WR (cArgs fs env) (fun ts e => GW e[i]? fun κ1 d => GF ts fun ds => κ1 = κ ∧ GO (op d ds) fun p => QV (.fz p.2) (e.set i (.ow κ p.1))) X := by
  unfold cMut GW
  cases env[i]? with
  | none => with_unfolding_all exact Iff.rfl
  | some sv =>
    cases sv with
    | ow κ0 d0 =>
      dsimp only
      by_cases h : κ0 = κ
      · rw [if_pos h, wr_bind]
        refine Iff.trans ?_ (Iff.symm (and_iff_right h))
        cases cArgs fs env with
        | ok ts e =>
          rw [wr_ok, wr_ok]
          unfold GF GO
          cases e[i]? with
          | none => with_unfolding_all exact Iff.rfl
          | some sv =>
            cases sv with
            | ow κ1 d =>
              cases frzs ts with
              | none => with_unfolding_all exact Iff.rfl
              | some ds =>
                dsimp only
                by_cases h1 : κ1 = κ
                · rw [if_pos h1]
                  refine Iff.trans ?_ (Iff.symm (and_iff_right h1))
                  cases op d ds <;> with_unfolding_all exact Iff.rfl
                · rw [if_neg h1]; with_unfolding_all exact ⟨fun z => z.elim, fun z => h1 z.1⟩
            | _ => cases frzs ts <;> with_unfolding_all exact Iff.rfl
        | _ => with_unfolding_all exact Iff.rfl
      · rw [if_neg h]; with_unfolding_all exact ⟨fun z => z.elim, fun z => h z.1⟩
    | _ => with_unfolding_all exact Iff.rfl
theorem w_fn {F : List D → FRes} {fs : List (M TV)} : WR (cFn F fs env) QV X ↔ WR (cArgs fs env) (fun ts e => GB e ts fun ds bor => WF (F ds) (fun tv _ => KV bor tv ∧ QV tv e) (fun x _ => KV bor (.fz x.arg) ∧ X x e)) X := by
  unfold cFn
  rw [wr_bind]
  cases cArgs fs env with
  | ok ts e =>
    rw [wr_ok, wr_ok]
    unfold GB
    cases argsB e ts with
    | none => with_unfolding_all exact Iff.rfl
    | some p =>
      obtain ⟨ds, bor⟩ := p
      dsimp only
      cases F ds with
      | ok tv io =>
        cases tv with
        | sl j => with_unfolding_all exact ⟨fun z => z.elim, fun z => z.1⟩
        | fz d =>
          dsimp only
          cases bor with
          | false => with_unfolding_all exact ⟨fun z => ⟨.inl rfl, z⟩, fun z => z.2⟩
          | true => cases h : imm d with
            | true => with_unfolding_all exact ⟨fun z => ⟨.inr h, z⟩, fun z => z.2⟩
            | false => with_unfolding_all exact ⟨fun z => z.elim, fun z => z.1.elim (fun z => nomatch z) fun z => by rw [h] at z; cases z⟩
        | ow κ d =>
          dsimp only
          cases bor with
          | false => with_unfolding_all exact ⟨fun z => ⟨.inl rfl, z⟩, fun z => z.2⟩
          | true => cases h1 : κ.one with
            | true => cases h : immIn d with
              | true => with_unfolding_all exact ⟨fun z => ⟨.inr ⟨h1, h⟩, z⟩, fun z => z.2⟩
              | false => with_unfolding_all exact ⟨fun z => z.elim, fun z => z.1.elim (fun z => nomatch z) fun z => by rw [h] at z; cases z.2⟩
            | false => with_unfolding_all exact ⟨fun z => z.elim, fun z => z.1.elim (fun z => nomatch z) fun z => by rw [h1] at z; cases z.1⟩
      | ex x io =>
        dsimp only
        cases bor with
        | false => with_unfolding_all exact ⟨fun z => ⟨.inl rfl, z⟩, fun z => z.2⟩
        | true => cases h : imm x.arg with
          | true => with_unfolding_all exact ⟨fun z => ⟨.inr h, z⟩, fun z => z.2⟩
          | false => with_unfolding_all exact ⟨fun z => z.elim, fun z => z.1.elim (fun z => nomatch z) fun z => by rw [h] at z; cases z⟩
      | stuck => with_unfolding_all exact Iff.rfl
  | _ => with_unfolding_all exact Iff.rfl
/-- what a draw gives -/
def IoQ (i : Nat) (κ : Kd) (e : Env) (QV : TV → Env → Prop) : TV → Option D → Prop := fun tv io => match tv, io with
  | .sl _, _ => False
  | tv, some d' => QV tv (e.set i (.ow κ d'))
  | _, none => False
def IoX (i : Nat) (κ : Kd) (e : Env) (X : Exn → Env → Prop) : Exn → Option D → Prop := fun x io => match io with
  | some d' => X x (e.set i (.ow κ d'))
  | none => False
theorem w_fnio {F : List D → FRes} {fs : List (M TV)} : WR (cFnIo i κ F fs env) QV X ↔ GW env[i]? fun _ _ => WR (cArgs fs env) (fun ts e => GW e[i]? fun κ1 d0 => GF ts fun ds => κ1 = κ ∧ WF (F (d0 :: ds)) (IoQ i κ e QV) (IoX i κ e X)) X := by
  unfold cFnIo GW
  cases env[i]? with
  | none => with_unfolding_all exact Iff.rfl
  | some sv =>
    cases sv with
    | ow κ0 d0 =>
      dsimp only
      rw [wr_bind]
      cases cArgs fs env with
      | ok ts e =>
        rw [wr_ok, wr_ok]
        unfold GF
        cases e[i]? with
        | none => with_unfolding_all exact Iff.rfl
        | some sv =>
          cases sv with
          | ow κ1 d =>
            cases frzs ts with
            | none => with_unfolding_all exact Iff.rfl
            | some ds =>
              dsimp only
              by_cases h1 : κ1 = κ
              · rw [if_pos h1]
                refine Iff.trans ?_ (Iff.symm (and_iff_right h1))
                cases F (d :: ds) with
                | ok tv io => cases tv <;> cases io <;> with_unfolding_all exact Iff.rfl
                | ex x io => cases io <;> with_unfolding_all exact Iff.rfl
                | stuck => with_unfolding_all exact Iff.rfl
              · rw [if_neg h1]; with_unfolding_all exact ⟨fun z => z.elim, fun z => h1 z.1⟩
          | _ => cases frzs ts <;> with_unfolding_all exact Iff.rfl
      | _ => with_unfolding_all exact Iff.rfl
    | _ => with_unfolding_all exact Iff.rfl
end
end VL
namespace VL
open PySem PySem.Spec PyProof.Rows L2
section
variable {Q : List D × Option Nat → Env → Prop} {X : Exn → Env → Prop} {QV : TV → Env → Prop} {QB : Bool → Env → Prop} {QF : TV → Option D → Prop} {XF : Exn → Option D → Prop}
  {N B C : Env → Prop} {T : TV → Env → Prop} {env e : Env} {d : D} {t : TV} {κ : Kd} {i : Nat} {b : Bool} {f g : SM} {fe : M TV} {c : M Bool}
theorem go_iff {α : Type} {o : Option α} {k : α → Prop} : GO o k ↔ ∃ a, o = some a ∧ k a := by
  unfold GO
  cases o with
  | none => with_unfolding_all exact ⟨fun z => z.elim, fun ⟨_, z, _⟩ => nomatch z⟩
  | some a => with_unfolding_all exact ⟨fun z => ⟨a, rfl, z⟩, fun ⟨_, z, w⟩ => by cases z; with_unfolding_all exact w⟩
/-! iterations -/
def ITM (d : D) (k : List D → Prop) : Prop := match itemsOf d with
  | some ds => k ds
  | none => False
theorem itm_l {ds : List D} {k : List D → Prop} : ITM (.lst ds) k ↔ k ds := by with_unfolding_all exact Iff.rfl
theorem itm_t {ds : List D} {k : List D → Prop} : ITM (.tup ds) k ↔ k ds := by with_unfolding_all exact Iff.rfl
def SEQ (env e : Env) (t : TV) (Q : List D × Option Nat → Env → Prop) : Prop := match t with
  | .fz d => ITM d fun ds => Q (ds, none) e
  | .ow _ d => ITM d fun ds => Q (ds, none) e
  | .sl i => match e[i]? with
    | some (.ow .l d) => ITM d fun ds => (match env[i]? with | some (.ow _ _) => True | _ => False) ∧ Q (ds, some i) (e.set i (.lk .l d))
    | some (.lk .l d) => ITM d fun ds => Q (ds, none) e
    | _ => False
theorem itq_fz : SEQ env e (.fz d) Q ↔ ITM d fun ds => Q (ds, none) e := by with_unfolding_all exact Iff.rfl
theorem itq_ow : SEQ env e (.ow κ d) Q ↔ ITM d fun ds => Q (ds, none) e := by with_unfolding_all exact Iff.rfl
def SEQ1 (s s' : Option SV) (i : Nat) (e : Env) (Q : List D × Option Nat → Env → Prop) : Prop := match s with
    | some (.ow .l d) => ITM d fun ds => (match s' with | some (.ow _ _) => True | _ => False) ∧ Q (ds, some i) (e.set i (.lk .l d))
    | some (.lk .l d) => ITM d fun ds => Q (ds, none) e
    | _ => False
theorem itq_sl : SEQ env e (.sl i) Q ↔ SEQ1 e[i]? env[i]? i e Q := by with_unfolding_all exact Iff.rfl
theorem itq1_ow {κ : Kd} {d' : D} : SEQ1 (some (.ow .l d)) (some (.ow κ d')) i e Q ↔ ITM d fun ds => Q (ds, some i) (e.set i (.lk .l d)) := by
  unfold SEQ1 ITM
  dsimp only
  cases itemsOf d with
  | none => with_unfolding_all exact Iff.rfl
  | some ds => with_unfolding_all exact ⟨fun z => z.2, fun z => ⟨trivial, z⟩⟩
theorem itq1_lk {s' : Option SV} : SEQ1 (some (.lk .l d)) s' i e Q ↔ ITM d fun ds => Q (ds, none) e := by with_unfolding_all exact Iff.rfl
theorem w_seq {f : M TV} : WR (cSeq f env) Q X ↔ WR (f env) (fun t e => SEQ env e t Q) X := by
  unfold cSeq
  rw [wr_bind]
  cases f env with
  | ok t e =>
    rw [wr_ok, wr_ok]
    unfold SEQ ITM
    cases t with
    | fz d => dsimp only; cases itemsOf d <;> with_unfolding_all exact Iff.rfl
    | ow κ d => dsimp only; cases itemsOf d <;> with_unfolding_all exact Iff.rfl
    | sl i =>
      dsimp only
      cases e[i]? with
      | none => with_unfolding_all exact Iff.rfl
      | some sv =>
        cases sv with
        | ow κ d =>
          cases κ with
          | l =>
            dsimp only
            cases itemsOf d with
            | none => with_unfolding_all exact Iff.rfl
            | some ds =>
              dsimp only
              cases env[i]? with
              | none => with_unfolding_all exact ⟨fun z => z.elim, fun z => z.1⟩
              | some sv' => cases sv' with
                | ow κ' d' => with_unfolding_all exact ⟨fun z => ⟨trivial, z⟩, fun z => z.2⟩
                | _ => with_unfolding_all exact ⟨fun z => z.elim, fun z => z.1⟩
          | _ => with_unfolding_all exact Iff.rfl
        | lk κ d =>
          cases κ with
          | l => dsimp only; cases itemsOf d <;> with_unfolding_all exact Iff.rfl
          | _ => with_unfolding_all exact Iff.rfl
        | _ => with_unfolding_all exact Iff.rfl
  | _ => with_unfolding_all exact Iff.rfl
theorem w_enum {f : M TV} : WR (cEnum f env) Q X ↔ WR (cSeq f env) (fun p e => Q (enumD p.1, p.2) e) X := by
  unfold cEnum
  rw [wr_bind]
  cases cSeq f env <;> with_unfolding_all exact Iff.rfl
theorem w_rng1 {f : M TV} : WR (cRng1 f env) Q X ↔ WR (f env) (fun t e => GV e t fun d => INT d fun j => rgOk 0 j = true ∧ Q (rangeD 0 j.toNat, none) e) X := by
  unfold cRng1
  rw [wr_bind]
  cases f env with
  | ok t e =>
    rw [wr_ok, wr_ok]
    unfold GV
    cases getV e t with
    | none => with_unfolding_all exact Iff.rfl
    | some d =>
      cases d with
      | int j =>
        dsimp only
        unfold INT
        dsimp only
        cases rgOk 0 j with
        | true => with_unfolding_all exact ⟨fun z => ⟨rfl, z⟩, fun z => z.2⟩
        | false => with_unfolding_all exact ⟨fun z => z.elim, fun z => nomatch z.1⟩
      | _ => with_unfolding_all exact Iff.rfl
  | _ => with_unfolding_all exact Iff.rfl
theorem w_rng2 {f g : M TV} : WR (cRng2 f g env) Q X ↔ WR (f env) (fun t e => WR (g e) (fun u e2 => GV e2 t fun d => GV e2 u fun d' => INT d fun i => INT d' fun j => rgOk i j = true ∧ Q (rangeD i (j - i).toNat, none) e2) X) X := by
  unfold cRng2
  rw [wr_bind]
  cases f env with
  | ok t e =>
    rw [wr_ok, wr_ok, wr_bind]
    cases g e with
    | ok u e2 =>
      rw [wr_ok, wr_ok]
      unfold GV
      cases getV e2 t with
      | none => with_unfolding_all exact Iff.rfl
      | some d =>
        cases getV e2 u with
        | none => cases d <;> with_unfolding_all exact Iff.rfl
        | some d' =>
          cases d with
          | int i =>
            cases d' with
            | int j =>
              dsimp only
              unfold INT
              dsimp only
              cases rgOk i j with
              | true => with_unfolding_all exact ⟨fun z => ⟨rfl, z⟩, fun z => z.2⟩
              | false => with_unfolding_all exact ⟨fun z => z.elim, fun z => nomatch z.1⟩
            | _ => with_unfolding_all exact Iff.rfl
          | _ => cases d' <;> with_unfolding_all exact Iff.rfl
    | _ => with_unfolding_all exact Iff.rfl
  | _ => with_unfolding_all exact Iff.rfl
/-! targets -/
theorem g_name {nio : Bool} (h : i < env.length) (h2 : i ≠ 0 ∨ nio = true) : gName' nio i d env = some (env.set i (.fz d)) := if_pos ⟨h, h2⟩
/-! comprehensions: with an invariant -/
theorem w_comp {own : List Nat} {fi : M (List D × Option Nat)} {gd : D → Env → Option Env} {ft : M Bool} {fe : M TV} :
    WR (cComp own fi gd ft fe env) QV X ↔ WR (fi env) (fun p e => WR (compL gd ft fe own p.1 e) (fun ys e2 => QV (.ow .l (.lst ys)) (lockE p.2 e2)) (fun _ _ => False)) X := by
  unfold cComp
  rw [wr_bind]
  cases fi env with
  | ok p e => rw [wr_ok, wr_ok, wr_bindN]; with_unfolding_all exact Iff.rfl
  | _ => with_unfolding_all exact Iff.rfl
theorem compL_inv {gd : D → Env → Option Env} {ft : M Bool} {fe : M TV} {own : List Nat} {XX : Exn → Env → Prop} (I : List D → List D → Env → Prop)
    (hs : ∀ d ds ys env, I (d :: ds) ys env → ownOk own env = true ∧ GO (gd d (wipeE own env)) fun e1 => WR (ft e1) (fun b e2 => IFB b (WR (fe e2) (fun t e3 => GF1 t fun y => I ds (ys ++ [y]) (restE own env e3)) (fun _ _ => False)) (I ds ys (restE own env e2))) (fun _ _ => False)) :
    ∀ (items ys : List D) (env : Env), I items ys env → WR (compL gd ft fe own items env) (fun zs e => I [] (ys ++ zs) e) XX
  | [], ys, env, h => by rw [compL, wr_ok, List.append_nil]; with_unfolding_all exact h
  | d :: ds, ys, env, h => by
    obtain ⟨ho, hw⟩ := hs d ds ys env h
    obtain ⟨e1, hg, hw⟩ := go_iff.1 hw
    rw [compL, if_pos ho]
    simp only [hg]
    rw [wr_bindN]
    cases h1 : ft e1 with
    | ok b e2 =>
      rw [h1, wr_ok] at hw
      rw [wr_ok]
      cases b with
      | false =>
        rw [ifb_f] at hw
        with_unfolding_all exact compL_inv I hs ds ys _ hw
      | true =>
        rw [ifb_t] at hw
        rw [if_pos rfl, wr_bindN]
        cases h2 : fe e2 with
        | ok t e3 =>
          rw [h2, wr_ok] at hw
          rw [wr_ok]
          unfold GF1 at hw
          cases h3 : frzV t with
          | none => rw [h3] at hw; with_unfolding_all exact hw.elim
          | some y =>
            rw [h3] at hw
            dsimp only
            rw [wr_bindN]
            refine (compL_inv I hs ds (ys ++ [y]) _ hw).mono (fun zs e z => ?_) fun _ _ z => z
            rw [wr_ok]
            rw [List.append_assoc] at z
            with_unfolding_all exact z
        | _ => rw [h2] at hw; with_unfolding_all exact hw.elim
    | _ => rw [h1] at hw; with_unfolding_all exact hw.elim
/-- a pure one: the environment is as it was, y = g d -/
theorem compL_pure {gd : D → Env → Option Env} {ft : M Bool} {fe : M TV} {own : List Nat} (g : D → Option D) (items : List D) (env : Env)
    (ho : ownOk own env = true) (hs : ∀ d, d ∈ items → GO (gd d (wipeE own env)) fun e1 => WR (ft e1) (fun b e2 => IFB b (WR (fe e2) (fun t e3 => GF1 t fun y => g d = some y ∧ restE own env e3 = env) (fun _ _ => False)) (g d = none ∧ restE own env e2 = env)) (fun _ _ => False)) :
    compL gd ft fe own items env = .ok (items.filterMap g) env := by
  induction items with
  | nil => rfl
  | cons d ds ih =>
    obtain ⟨e1, hg, hw⟩ := go_iff.1 (hs d List.mem_cons_self)
    have ih := ih fun d' z => hs d' (List.mem_cons_of_mem _ z)
    rw [compL, if_pos ho]
    simp only [hg]
    cases h1 : ft e1 with
    | ok b e2 =>
      rw [h1, wr_ok] at hw
      cases b with
      | false =>
        rw [ifb_f] at hw
        dsimp only [Res.bindN]
        rw [if_neg (by decide), hw.2, ih, List.filterMap_cons_none hw.1]
      | true =>
        rw [ifb_t] at hw
        dsimp only [Res.bindN]
        rw [if_pos rfl]
        cases h2 : fe e2 with
        | ok t e3 =>
          rw [h2, wr_ok] at hw
          unfold GF1 at hw
          cases h3 : frzV t with
          | none => rw [h3] at hw; with_unfolding_all exact hw.elim
          | some y =>
            rw [h3] at hw
            dsimp only
            rw [hw.2, ih, List.filterMap_cons_some hw.1, h3]
        | _ => rw [h2] at hw; with_unfolding_all exact hw.elim
    | _ => rw [h1] at hw; with_unfolding_all exact hw.elim
/-! statements -/
theorem ws_seq : WS (sSeq f g env) N T B C X ↔ WS (f env) (fun e => WS (g e) N T B C X) T B C X := by
  unfold sSeq
  cases f env <;> with_unfolding_all exact Iff.rfl
theorem ws_vn : WS (.nx e) N T B C X ↔ N e := by with_unfolding_all exact Iff.rfl
theorem ws_vc : WS (.ct e) N T B C X ↔ C e := by with_unfolding_all exact Iff.rfl
theorem ws_nx : WS (sNx env) N T B C X ↔ N env := by with_unfolding_all exact Iff.rfl
theorem ws_if : WS (sIf c f g env) N T B C X ↔ WR (c env) (fun b e => IFB b (WS (f e) N T B C X) (WS (g e) N T B C X)) X := by
  unfold sIf bindT
  cases c env with
  | ok b e => rw [wr_ok]; cases b with
    | true => with_unfolding_all exact ifb_t.symm
    | false => with_unfolding_all exact ifb_f.symm
  | _ => with_unfolding_all exact Iff.rfl
theorem ws_drop : WS (sDrop fe env) N T B C X ↔ WR (fe env) (fun _ e => N e) X := by
  unfold sDrop bindE
  cases fe env <;> with_unfolding_all exact Iff.rfl
def RTV (tv : TV) (k : TV → Prop) : Prop := match tv with
  | .sl _ => False
  | tv => k tv
theorem rtv_fz {k : TV → Prop} : RTV (.fz d) k ↔ k (.fz d) := by with_unfolding_all exact Iff.rfl
theorem rtv_ow {k : TV → Prop} : RTV (.ow κ d) k ↔ k (.ow κ d) := by with_unfolding_all exact Iff.rfl
theorem ws_ret : WS (sRet fe env) N T B C X ↔ WR (fe env) (fun t e => RTV t fun t => T t e) X := by
  unfold sRet
  cases fe env with
  | ok t e => cases t <;> with_unfolding_all exact Iff.rfl
  | _ => with_unfolding_all exact Iff.rfl
theorem ws_retN : WS (sRetN env) N T B C X ↔ T (.fz .non) env := by with_unfolding_all exact Iff.rfl
theorem ws_set {nio : Bool} : WS (sSet nio i fe env) N T B C X ↔ WR (fe env) (fun t e => SV1 t fun sv => (i < e.length ∧ (i ≠ 0 ∨ nio = true)) ∧ N (e.set i sv)) X := by
  unfold sSet
  cases fe env with
  | ok t e =>
    rw [wr_ok]
    cases t with
    | sl j => with_unfolding_all exact Iff.rfl
    | fz d =>
      dsimp only
      rw [sv1_fz]
      by_cases h : i < e.length ∧ (i ≠ 0 ∨ nio = true)
      · rw [if_pos h]; with_unfolding_all exact ⟨fun z => ⟨h, z⟩, fun z => z.2⟩
      · rw [if_neg h]; with_unfolding_all exact ⟨fun z => z.elim, fun z => h z.1⟩
    | ow κ d =>
      dsimp only
      rw [sv1_ow]
      by_cases h : i < e.length ∧ (i ≠ 0 ∨ nio = true)
      · rw [if_pos h]; with_unfolding_all exact ⟨fun z => ⟨h, z⟩, fun z => z.2⟩
      · rw [if_neg h]; with_unfolding_all exact ⟨fun z => z.elim, fun z => h z.1⟩
  | _ => with_unfolding_all exact Iff.rfl
theorem ws_asg {gd : D → Env → Option Env} : WS (sAsg gd fe env) N T B C X ↔ WR (fe env) (fun t e => GF1 t fun d => GO (gd d e) N) X := by
  unfold sAsg bindE
  cases fe env with
  | ok t e =>
    rw [wr_ok]
    dsimp only
    unfold GF1
    cases frzV t with
    | none => with_unfolding_all exact Iff.rfl
    | some d =>
      dsimp only
      unfold GO
      cases gd d e <;> with_unfolding_all exact Iff.rfl
  | _ => with_unfolding_all exact Iff.rfl
def SVs (ts : List TV) (k : List SV → Prop) : Prop := GO (svAll ts) k
theorem svs_nil {k : List SV → Prop} : SVs [] k ↔ k [] := by with_unfolding_all exact Iff.rfl
theorem svs_cons {ts : List TV} {k : List SV → Prop} : SVs (t :: ts) k ↔ SV1 t fun s => SVs ts fun ss => k (s :: ss) := by
  unfold SVs
  rw [svAll]
  cases t with
  | sl i => with_unfolding_all exact Iff.rfl
  | fz d => dsimp only [svOf]; rw [sv1_fz]; cases svAll ts <;> with_unfolding_all exact Iff.rfl
  | ow κ d => dsimp only [svOf]; rw [sv1_ow]; cases svAll ts <;> with_unfolding_all exact Iff.rfl
theorem ws_par {nio : Bool} {is : List Nat} {fs : List (M TV)} : WS (sPar nio is fs env) N T B C X ↔ WR (cArgs fs env) (fun ts e => SVs ts fun svs => GO (setAll nio is svs e) N) X := by
  unfold sPar
  cases cArgs fs env with
  | ok ts e =>
    rw [wr_ok]
    dsimp only
    unfold SVs GO
    cases svAll ts with
    | none => with_unfolding_all exact Iff.rfl
    | some svs =>
      dsimp only
      cases setAll nio is svs e <;> with_unfolding_all exact Iff.rfl
  | _ => with_unfolding_all exact Iff.rfl
theorem ws_raise {nm : Str} : WS (sRaise nm fe env) N T B C X ↔ WR (fe env) (fun t e => GF1 t fun d => X ⟨nm, d⟩ e) X := by
  unfold sRaise
  cases fe env with
  | ok t e =>
    rw [wr_ok]
    dsimp only
    unfold GF1
    cases frzV t <;> with_unfolding_all exact Iff.rfl
  | _ => with_unfolding_all exact Iff.rfl
/-! try -/
theorem ws_try1 {j : Option Nat} {m : Str → Option Bool} {fb : SM} {fs : D → SM} : WS (sTry1 j m fb fs env) N T B C X ↔
    WS (fb env) N T B C (fun x e => GO (m x.nm) fun k => IFB k (WS (fs x.arg (match j with | some j => e.set j .no | none => e)) N T B C fun _ _ => False) (X x e)) := by
  unfold sTry1
  cases fb env with
  | ex x e =>
    dsimp only
    with_unfolding_all show _ ↔ GO (m x.nm) _
    cases m x.nm with
    | none => with_unfolding_all exact Iff.rfl
    | some k =>
      cases k with
      | true =>
        rw [go_some, ifb_t]
        dsimp only
        cases fs x.arg (match j with | some j => e.set j .no | none => e) <;> with_unfolding_all exact Iff.rfl
      | false => rw [go_some, ifb_f]; with_unfolding_all exact Iff.rfl
  | _ => with_unfolding_all exact Iff.rfl
theorem ws_tryAs {m : Str → Option Bool} {fb : SM} {fs : D → SM} : WS (sTryAs i m fb fs env) N T B C X ↔
    WS (fb env) N T B C (fun x e => GO (m x.nm) fun k => IFB k ((i < e.length ∧ i ≠ 0) ∧ WS (fs x.arg (e.set i .no)) (fun _ => False) T (fun _ => False) (fun _ => False) fun _ _ => False) (X x e)) := by
  unfold sTryAs
  cases fb env with
  | ex x e =>
    dsimp only
    with_unfolding_all show _ ↔ GO (m x.nm) _
    cases m x.nm with
    | none => with_unfolding_all exact Iff.rfl
    | some k =>
      cases k with
      | true =>
        rw [go_some, ifb_t]
        dsimp only
        by_cases h : i < e.length ∧ i ≠ 0
        · rw [if_pos h]
          refine Iff.trans ?_ (Iff.symm (and_iff_right h))
          cases fs x.arg (e.set i .no) <;> with_unfolding_all exact Iff.rfl
        · rw [if_neg h]; with_unfolding_all exact ⟨fun z => z.elim, fun z => h z.1⟩
      | false => rw [go_some, ifb_f]; with_unfolding_all exact Iff.rfl
  | _ => with_unfolding_all exact Iff.rfl
theorem ws_pair {txt : Str} : WS (sPair txt d env) N T B C X ↔ T (.fz (.tup [.str txt, d])) env := by with_unfolding_all exact Iff.rfl
/-! loops -/
theorem ws_for {nr : List (Nat × Bool)} {fi : M (List D × Option Nat)} {gd : D → Env → Option Env} {body : SM} : WS (sFor nr fi gd body env) N T B C X ↔
    WR (fi env) (fun p e => WS (forL nr gd body p.1 (nrm nr e)) (fun e => N (lockE p.2 e)) (fun t e => T t (lockE p.2 e)) (fun e => B (lockE p.2 e)) (fun e => C (lockE p.2 e)) (fun x e => X x (lockE p.2 e))) X := by
  unfold sFor
  cases fi env with
  | ok p e =>
    rw [wr_ok]
    dsimp only
    cases forL nr gd body p.1 (nrm nr e) <;> with_unfolding_all exact Iff.rfl
  | _ => with_unfolding_all exact Iff.rfl
theorem forL_inv {nr : List (Nat × Bool)} {gd : D → Env → Option Env} {body : SM} (I : List D → Env → Prop)
    (hs : ∀ d ds env, I (d :: ds) env → GO (gd d env) fun e1 => WS (body e1) (fun e => I ds (nrm nr e)) T N (fun e => I ds (nrm nr e)) X) (he : ∀ env, I [] env → N env) :
    ∀ (items : List D) (env : Env), I items env → WS (forL nr gd body items env) N T B C X
  | [], env, h => by with_unfolding_all exact he env h
  | d :: ds, env, h => by
    obtain ⟨e1, hg, hw⟩ := go_iff.1 (hs d ds env h)
    unfold forL
    simp only [hg]
    cases h1 : body e1 with
    | nx e => rw [h1] at hw; with_unfolding_all exact forL_inv I hs he ds _ hw
    | ct e => rw [h1] at hw; with_unfolding_all exact forL_inv I hs he ds _ hw
    | bk e => rw [h1] at hw; with_unfolding_all exact hw
    | rt t e => rw [h1] at hw; with_unfolding_all exact hw
    | ex t e => rw [h1] at hw; with_unfolding_all exact hw
    | stuck => rw [h1] at hw; with_unfolding_all exact hw.elim
theorem whileL_inv {nr : List (Nat × Bool)} {body : SM} (I : Nat → Env → Prop)
    (hs : ∀ n env, I n env → WR (c env) (fun b e1 => IFB b (WS (body e1) (fun e => ∃ n', n' < n ∧ I n' (nrm nr e)) T N (fun e => ∃ n', n' < n ∧ I n' (nrm nr e)) X) (N e1)) X) :
    ∀ (fuel n : Nat) (env : Env), n < fuel → I n env → WS (whileL nr c body fuel env) N T B C X
  | 0, n, env, hf, h => absurd hf (Nat.not_lt_zero _)
  | k + 1, n, env, hf, h => by
    have hw := hs n env h
    unfold whileL bindT
    cases h1 : c env with
    | ok b e1 =>
      rw [h1, wr_ok] at hw
      cases b with
      | false => rw [ifb_f] at hw; with_unfolding_all exact hw
      | true =>
        rw [ifb_t] at hw
        dsimp only
        rw [if_pos rfl]
        cases h2 : body e1 with
        | nx e => rw [h2, ws_vn] at hw; obtain ⟨n', hn, hi⟩ := hw; with_unfolding_all exact whileL_inv I hs k n' _ (by omega) hi
        | ct e => rw [h2, ws_vc] at hw; obtain ⟨n', hn, hi⟩ := hw; with_unfolding_all exact whileL_inv I hs k n' _ (by omega) hi
        | bk e => rw [h2] at hw; with_unfolding_all exact hw
        | rt t e => rw [h2] at hw; with_unfolding_all exact hw
        | ex t e => rw [h2] at hw; with_unfolding_all exact hw
        | stuck => rw [h2] at hw; with_unfolding_all exact hw.elim
    | ex x e => rw [h1] at hw; with_unfolding_all exact hw
    | stuck => rw [h1] at hw; with_unfolding_all exact hw.elim
theorem ws_while {fuel : Nat} {nr : List (Nat × Bool)} {body : SM} : WS (sWhile fuel nr c body env) N T B C X ↔ WS (whileL nr c body fuel (nrm nr env)) N T B C X := by with_unfolding_all exact Iff.rfl
/-! defs -/
theorem wf_run {n : Nat} {κio : Option Kd} {body : SM} {ds : List D} : WF (runF n κio body ds) QF XF ↔ WS (body (initE n κio ds)) (fun e => QF (.fz .non) (ioOf κio e)) (fun t e => QF t (ioOf κio e)) (fun _ => False) (fun _ => False) (fun x e => XF x (ioOf κio e)) := by
  unfold runF
  cases body (initE n κio ds) <;> with_unfolding_all exact Iff.rfl
theorem wf_eq {r : FRes} {tv : TV} {io : Option D} : r = .ok tv io ↔ WF r (fun t o => t = tv ∧ o = io) fun _ _ => False := by
  cases r with
  | ok t o => with_unfolding_all exact ⟨fun z => by cases z; with_unfolding_all exact ⟨rfl, rfl⟩, fun z => by rw [z.1, z.2]⟩
  | ex x o => with_unfolding_all exact ⟨(fun z => nomatch z), fun z => z.elim⟩
  | stuck => with_unfolding_all exact ⟨(fun z => nomatch z), fun z => z.elim⟩
theorem wf_exq {r : FRes} {x : Exn} {io : Option D} : r = .ex x io ↔ WF r (fun _ _ => False) fun t o => t = x ∧ o = io := by
  cases r with
  | ok t o => with_unfolding_all exact ⟨(fun z => nomatch z), fun z => z.elim⟩
  | ex x o => with_unfolding_all exact ⟨fun z => by cases z; with_unfolding_all exact ⟨rfl, rfl⟩, fun z => by rw [z.1, z.2]⟩
  | stuck => with_unfolding_all exact ⟨(fun z => nomatch z), fun z => z.elim⟩
/-! the draws -/
def MS (s : Option SV) (k : D → Prop) : Prop := match s with
  | some (.ow .m d) => k d
  | some (.lk .m d) => k d
  | _ => False
theorem ms_ow {k : D → Prop} : MS (some (.ow .m d)) k ↔ k d := by with_unfolding_all exact Iff.rfl
theorem ms_lk {k : D → Prop} : MS (some (.lk .m d)) k ↔ k d := by with_unfolding_all exact Iff.rfl
theorem w_mat {cd ld : List D} {a : Int} (h : env[i]? = some (.ow .m (mD cd a ld))) : WR (cMat i env) QV X ↔ QV (.fz (.int a)) env := by
  unfold cMat mSlot
  rw [h]; with_unfolding_all exact Iff.rfl
theorem w_mlen {cd ld : List D} {a : Int} (h : env[i]? = some (.ow .m (mD cd a ld)) ∨ env[i]? = some (.lk .m (mD cd a ld))) : WR (cMlen i b env) QV X ↔ QV (.fz (.int (if b then ld else cd).length)) env := by
  unfold cMlen mSlot
  rcases h with h | h <;> rw [h] <;> with_unfolding_all exact Iff.rfl
theorem w_tmne {cd ld : List D} {a : Int} (h : env[i]? = some (.ow .m (mD cd a ld))) : WR (tMne i b env) QB X ↔ pls 59 (if b then ld else cd) = true ∧ QB (!deq (.lst (if b then ld else cd)) (.lst [])) env := by
  unfold tMne mSlot
  rw [h]
  dsimp only [Option.bind, mD, mPart]
  cases h : pls 59 (if b then ld else cd) with
  | true => with_unfolding_all exact ⟨fun z => ⟨rfl, z⟩, fun z => z.2⟩
  | false => with_unfolding_all exact ⟨fun z => z.elim, fun z => nomatch z.1⟩
theorem w_msl {cd ld : List D} {a lo : Int} (h : env[i]? = some (.ow .m (mD cd a ld))) : WR (cMsl i b lo env) QV X ↔ QV (.ow .l (.lst (cutL (if b then ld else cd) (some lo) none))) env := by
  unfold cMsl mSlot
  rw [h]; with_unfolding_all exact Iff.rfl
theorem w_mix {fi : M TV} {cd ld : List D} {a : Int} (h : env[i]? = some (.ow .m (mD cd a ld))) : WR (cMix i b fi env) QV X ↔ WR (fi (env.set i (.lk .m (mD cd a ld)))) (fun t e => GV e t fun d => INT d fun j => GO (atI (if b then ld else cd) j) fun x => QV (.fz x) (lockE (some i) e)) (fun _ _ => False) := by
  unfold cMix
  rw [h]
  dsimp only [mD, mPart]
  rw [wr_bindN]
  cases fi (env.set i (.lk .m (.dct [.inl (mK "cells"), .inl (mK "at"), .inl (mK "left")] [.lst cd, .int a, .lst ld]))) with
  | ok t e =>
    rw [wr_ok, wr_ok]
    unfold GV
    cases getV e t with
    | none => with_unfolding_all exact Iff.rfl
    | some d =>
      cases d with
      | int j =>
        dsimp only
        unfold INT GO
        dsimp only
        cases atI (if b then ld else cd) j <;> with_unfolding_all exact Iff.rfl
      | _ => with_unfolding_all exact Iff.rfl
  | _ => with_unfolding_all exact Iff.rfl
end
end VL
namespace VL
open PySem PySem.Spec PyProof.Rows L2
section
variable {X : Exn → Env → Prop} {QV : TV → Env → Prop} {N : Env → Prop} {env e : Env} {d d1 d2 : D} {κ : Kd} {i j : Nat} {b : Bool} {x y : Int} {xs ys : List D} {k : D → Prop}
/-! environments -/
def LKE (s : Option SV) (i : Nat) (env : Env) : Env := match s with
  | some (.lk κ d) => env.set i (.ow κ d)
  | _ => env
theorem lke_none : lockE none env = env := rfl
theorem lke_some : lockE (some i) env = LKE env[i]? i env := rfl
theorem lke_lk : LKE (some (.lk κ d)) i env = env.set i (.ow κ d) := rfl
theorem lke_ow : LKE (some (.ow κ d)) i env = env := rfl
theorem lke_fz : LKE (some (.fz d)) i env = env := rfl
theorem lke_no : LKE (some .no) i env = env := rfl
theorem wipe_nil : wipeE [] env = env := rfl
theorem wipe_cons {v : Nat} {vs : List Nat} : wipeE (v :: vs) env = (wipeE vs env).set v .no := rfl
theorem rest_nil {env0 : Env} : restE [] env0 env = env := by
  unfold restE
  refine List.ext_getElem? fun j => ?_
  rw [List.getElem?_mapIdx]
  cases env[j]? <;> simp
theorem rest_cons {env0 : Env} {v : Nat} {vs : List Nat} : restE (v :: vs) env0 env = (restE vs env0 env).set v (env0.getD v .no) := by
  unfold restE
  refine List.ext_getElem? fun j => ?_
  rw [List.getElem?_mapIdx, List.getElem?_set, List.getElem?_mapIdx, List.length_mapIdx]
  by_cases h : v = j
  · subst h
    rw [if_pos rfl]
    by_cases hl : v < env.length
    · rw [if_pos hl, List.getElem?_eq_getElem hl]
      simp
    · rw [if_neg hl, List.getElem?_eq_none (by omega)]; rfl
  · rw [if_neg h]
    cases env[j]? with
    | none => rfl
    | some sv =>
      simp only [Option.map_some, Option.some.injEq, List.mem_cons]
      have : ¬ j = v := fun z => h z.symm
      simp only [this, false_or]
def OK1 (v : Nat) (s : Option SV) : Bool := match s with
  | some .no => v != 0
  | some (.fz _) => v != 0
  | _ => false
theorem own_nil : ownOk [] env = true := rfl
theorem own_cons {v : Nat} {vs : List Nat} : ownOk (v :: vs) env = (OK1 v env[v]? && ownOk vs env) := by
  unfold ownOk OK1
  rw [List.all_cons]
  congr 1
  cases env[v]? with
  | none => with_unfolding_all exact Bool.and_false _
  | some sv => cases sv <;> first | with_unfolding_all exact Bool.and_true _ | with_unfolding_all exact Bool.and_false _
theorem ok1_no {v : Nat} : OK1 v (some .no) = (v != 0) := rfl
theorem ok1_fz {v : Nat} : OK1 v (some (.fz d)) = (v != 0) := rfl
def NRM (s : Option SV) (i : Nat) (b : Bool) (env : Env) : Env := match s with
  | some (.ow κ d) => if b then env.set i (.fz d) else env.set i .no
  | some (.fz d) => if b then env else env.set i .no
  | _ => env
theorem nrm_nil : nrm [] env = env := rfl
theorem nrm_cons {l : List (Nat × Bool)} : nrm ((i, b) :: l) env = nrm l (NRM env[i]? i b env) := rfl
theorem nrm_no : NRM (some .no) i b env = env := rfl
theorem nrm_lk : NRM (some (.lk κ d)) i b env = env := rfl
theorem nrm_owt : NRM (some (.ow κ d)) i true env = env.set i (.fz d) := rfl
theorem nrm_owf : NRM (some (.ow κ d)) i false env = env.set i .no := rfl
theorem nrm_fzt : NRM (some (.fz d)) i true env = env := rfl
theorem nrm_fzf : NRM (some (.fz d)) i false env = env.set i .no := rfl
theorem inite_io {n : Nat} {d0 : D} {ds : List D} : initE n (some κ) (d0 :: ds) = .ow κ d0 :: ((ds.map SV.fz) ++ List.replicate (n - (d0 :: ds).length) .no) := rfl
theorem inite_no {n : Nat} {ds : List D} : initE n none ds = (ds.map SV.fz) ++ List.replicate (n - ds.length) .no := by cases ds <;> rfl
theorem ioof_none : ioOf none env = none := rfl
theorem ioof_m : ioOf (some .m) (.ow .m d :: env) = some d := rfl
theorem ioq_fz {v : D} {io : D} : IoQ i κ e QV (.fz v) (some io) ↔ QV (.fz v) (e.set i (.ow κ io)) := by with_unfolding_all exact Iff.rfl
theorem ioq_ow {v : D} {io : D} {κ' : Kd} : IoQ i κ e QV (.ow κ' v) (some io) ↔ QV (.ow κ' v) (e.set i (.ow κ io)) := by with_unfolding_all exact Iff.rfl
/-! targets -/
theorem go_bind {α β : Type} {o : Option α} {f : α → Option β} {k : β → Prop} : GO (o.bind f) k ↔ GO o fun a => GO (f a) k := by cases o <;> with_unfolding_all exact Iff.rfl
theorem gt_tup {gs : List D → Env → Option Env} : gTup' gs (.tup xs) env = gs xs env := rfl
theorem gt_cons {g : D → Env → Option Env} {gs : List D → Env → Option Env} : gCons' g gs (d :: xs) env = (g d env).bind (gs xs) := rfl
theorem gt_nil : gNil' [] env = some env := rfl
theorem gt_name {nio : Bool} : GO (gName' nio i d env) N ↔ (i < env.length ∧ (i ≠ 0 ∨ nio = true)) ∧ N (env.set i (.fz d)) := by
  unfold gName' GO
  by_cases h : i < env.length ∧ (i ≠ 0 ∨ nio = true)
  · rw [if_pos h]; with_unfolding_all exact ⟨fun z => ⟨h, z⟩, fun z => z.2⟩
  · rw [if_neg h]; with_unfolding_all exact ⟨fun z => z.elim, fun z => h z.1⟩
theorem gt_ix {s : Nat} {fi : M TV} : GO (gIx s fi d env) N ↔ GW env[s]? fun _ _ => WR (fi env) (fun t e => GW e[s]? fun κ o => GV e t fun i => GO (putIx κ o i d) fun o' => N (e.set s (.ow κ o'))) (fun _ _ => False) := by
  unfold gIx isOw GW
  cases env[s]? with
  | none => with_unfolding_all exact Iff.rfl
  | some sv =>
    cases sv with
    | ow κ0 d0 =>
      dsimp only
      rw [if_pos rfl]
      cases fi env with
      | ok t e =>
        rw [wr_ok]
        dsimp only
        cases e[s]? with
        | none => with_unfolding_all exact Iff.rfl
        | some sv =>
          cases sv with
          | ow κ o =>
            dsimp only
            unfold GV
            cases getV e t with
            | none => with_unfolding_all exact Iff.rfl
            | some i => dsimp only; cases putIx κ o i d <;> with_unfolding_all exact Iff.rfl
          | _ => with_unfolding_all exact Iff.rfl
      | _ => with_unfolding_all exact Iff.rfl
    | _ => with_unfolding_all exact Iff.rfl
def ROWS (κ : Kd) (o : D) (k : List D → Prop) : Prop := match κ, o with
  | .l2, .lst rows => k rows
  | _, _ => False
theorem rows_ {k : List D → Prop} : ROWS .l2 (.lst xs) k ↔ k xs := by with_unfolding_all exact Iff.rfl
def GL (s : Option SV) (k : Kd → D → Prop) : Prop := match s with
  | some (.lk κ d) => k κ d
  | _ => False
theorem gl_lk {k : Kd → D → Prop} : GL (some (.lk κ d)) k ↔ k κ d := by with_unfolding_all exact Iff.rfl
theorem gt_ix2 {s : Nat} {fi fj : M TV} : GO (gIx2 s fi fj d env) N ↔ GW env[s]? fun _ _ => WR (fi env) (fun t e => GW e[s]? fun κ o => ROWS κ o fun rows => GV e t fun i => INT i fun i =>
    WR (fj (e.set s (.lk .l2 (.lst rows)))) (fun u e2 => GL e2[s]? fun κ o => ROWS κ o fun rows' => GV e2 u fun j => INT j fun j => rows'.length = rows.length ∧ GO (put2 rows' i j d) fun rows2 => N (e2.set s (.ow .l2 (.lst rows2)))) (fun _ _ => False)) (fun _ _ => False) := by
  unfold gIx2 isOw GW
  cases env[s]? with
  | none => with_unfolding_all exact Iff.rfl
  | some sv =>
    cases sv with
    | ow κ0 d0 =>
      dsimp only
      rw [if_pos rfl]
      cases fi env with
      | ok t e =>
        rw [wr_ok]
        dsimp only
        cases e[s]? with
        | none => with_unfolding_all exact Iff.rfl
        | some sv =>
          cases sv with
          | ow κ o =>
            dsimp only
            unfold ROWS
            cases κ with
            | l2 =>
              cases o with
              | lst rows =>
                dsimp only
                unfold GV
                cases getV e t with
                | none => with_unfolding_all exact Iff.rfl
                | some i =>
                  cases i with
                  | int i =>
                    dsimp only
                    unfold INT
                    dsimp only
                    cases fj (e.set s (.lk .l2 (.lst rows))) with
                    | ok u e2 =>
                      rw [wr_ok]
                      unfold GL
                      dsimp only
                      cases e2[s]? with
                      | none => with_unfolding_all exact Iff.rfl
                      | some sv =>
                        cases sv with
                        | lk κ o =>
                          dsimp only
                          cases κ with
                          | l2 =>
                            cases o with
                            | lst rows' =>
                              dsimp only
                              cases getV e2 u with
                              | none => with_unfolding_all exact Iff.rfl
                              | some j =>
                                cases j with
                                | int j =>
                                  dsimp only
                                  by_cases h : rows'.length = rows.length
                                  · rw [if_pos h]
                                    refine Iff.trans ?_ (Iff.symm (and_iff_right h))
                                    cases put2 rows' i j d <;> with_unfolding_all exact Iff.rfl
                                  · rw [if_neg h]; with_unfolding_all exact ⟨fun z => z.elim, fun z => h z.1⟩
                                | _ => with_unfolding_all exact Iff.rfl
                            | _ => cases getV e2 u <;> with_unfolding_all exact Iff.rfl
                          | _ => cases getV e2 u <;> with_unfolding_all exact Iff.rfl
                        | _ => with_unfolding_all exact Iff.rfl
                    | _ => with_unfolding_all exact Iff.rfl
                  | _ => with_unfolding_all exact Iff.rfl
              | _ => cases getV e t <;> with_unfolding_all exact Iff.rfl
            | _ => cases getV e t <;> with_unfolding_all exact Iff.rfl
          | _ => with_unfolding_all exact Iff.rfl
      | _ => with_unfolding_all exact Iff.rfl
    | _ => with_unfolding_all exact Iff.rfl
theorem w_ix2 {s : Nat} {fi fj : M TV} : WR (cIx2 s fi fj env) QV X ↔ GW env[s]? fun _ _ => WR (fi env) (fun t e => GW e[s]? fun κ o => ROWS κ o fun rows => GV e t fun i => INT i fun i =>
    GO (atI rows i) fun row => match row with
      | .lst row => WR (fj (e.set s (.lk .l2 (.lst rows)))) (fun u e2 => GV e2 u fun j => INT j fun j => GO (atI row j) fun d => QV (.fz d) (lockE (some s) e2)) (fun _ _ => False)
      | _ => False) (fun _ _ => False) := by
  unfold cIx2 isOw GW
  cases env[s]? with
  | none => with_unfolding_all exact Iff.rfl
  | some sv =>
    cases sv with
    | ow κ0 d0 =>
      dsimp only
      rw [if_pos rfl, wr_bindN]
      cases fi env with
      | ok t e =>
        rw [wr_ok, wr_ok]
        cases e[s]? with
        | none => with_unfolding_all exact Iff.rfl
        | some sv =>
          cases sv with
          | ow κ o =>
            dsimp only
            unfold ROWS
            cases κ with
            | l2 =>
              cases o with
              | lst rows =>
                dsimp only
                unfold GV
                cases getV e t with
                | none => with_unfolding_all exact Iff.rfl
                | some i =>
                  cases i with
                  | int i =>
                    dsimp only
                    unfold INT GO
                    dsimp only
                    cases atI rows i with
                    | none => with_unfolding_all exact Iff.rfl
                    | some row =>
                      cases row with
                      | lst row =>
                        dsimp only
                        rw [wr_bindN]
                        cases fj (e.set s (.lk .l2 (.lst rows))) with
                        | ok u e2 =>
                          rw [wr_ok, wr_ok]
                          cases getV e2 u with
                          | none => with_unfolding_all exact Iff.rfl
                          | some j =>
                            cases j with
                            | int j => dsimp only; cases atI row j <;> with_unfolding_all exact Iff.rfl
                            | _ => with_unfolding_all exact Iff.rfl
                        | _ => with_unfolding_all exact Iff.rfl
                      | _ => with_unfolding_all exact Iff.rfl
                  | _ => with_unfolding_all exact Iff.rfl
              | _ => cases getV e t <;> with_unfolding_all exact Iff.rfl
            | _ => cases getV e t <;> with_unfolding_all exact Iff.rfl
          | _ => with_unfolding_all exact Iff.rfl
      | _ => with_unfolding_all exact Iff.rfl
    | _ => with_unfolding_all exact Iff.rfl
/-! operations on numbers -/
theorem o_add : oAdd (.int x) (.int y) = .val (.int (x + y)) := rfl
theorem o_sub : oSub (.int x) (.int y) = .val (.int (x - y)) := rfl
theorem o_mul : oMul (.int x) (.int y) = if x.natAbs.log2 + y.natAbs.log2 < 1000000 then .val (.int (x * y)) else .stuck := rfl
theorem o_fdiv : oFdiv (.int x) (.int y) = if 0 < y ∧ y.natAbs.log2 < 9000 then .val (.int (x / y)) else .stuck := rfl
theorem o_mod (h : 0 < y) : oMod (.int x) (.int y) = .val (.int (x % y)) := by unfold oMod; with_unfolding_all exact if_pos h
theorem o_pow : oPow (.int x) (.int y) = if 0 ≤ y ∧ y ≤ 1000000 ∧ x.natAbs < 2 ^ 64 then .val (.int (x ^ y.toNat)) else .stuck := rfl
theorem o_neg : oNeg (.int x) = .val (.int (-x)) := rfl
theorem o_not : oNot (.bl b) = .val (.bl (!b)) := rfl
theorem o_lt : oLt (.int x) (.int y) = .val (.bl (decide (x < y))) := rfl
theorem o_le : oLe (.int x) (.int y) = .val (.bl (decide (x ≤ y))) := rfl
theorem o_gt : oGt (.int x) (.int y) = .val (.bl (decide (y < x))) := rfl
theorem o_ge : oGe (.int x) (.int y) = .val (.bl (decide (y ≤ x))) := rfl
theorem o_eq : oEq d1 d2 = if (pl 60 d1 && pl 60 d2) = true then .val (.bl (deq d1 d2)) else .stuck := rfl
theorem o_ne : oNe d1 d2 = if (pl 60 d1 && pl 60 d2) = true then .val (.bl (!deq d1 d2)) else .stuck := rfl
theorem o_isN : oIsN d .non = .val (.bl (nonD d)) := rfl
theorem o_notN : oNotN d .non = .val (.bl (!nonD d)) := rfl
theorem nond_n : nonD .non = true := rfl
theorem nond_i : nonD (.int x) = false := rfl
theorem nond_t : nonD (.tup xs) = false := rfl
theorem nond_l : nonD (.lst xs) = false := rfl
theorem nond_b : nonD (.bl b) = false := rfl
theorem o_lenl : oLen [.lst xs] = .val (.int xs.length) := rfl
theorem o_lent : oLen [.tup xs] = .val (.int xs.length) := rfl
theorem o_lend {ks : List DK} : oLen [.dct ks xs] = .val (.int ks.length) := rfl
theorem o_addl : oAdd (.lst xs) (.lst ys) = if xs.length + ys.length ≤ sizeLine then .new .l (.lst (xs ++ ys)) else .stuck := rfl
theorem o_addt : oAdd (.tup xs) (.tup ys) = if xs.length + ys.length ≤ sizeLine then .val (.tup (xs ++ ys)) else .stuck := rfl
theorem o_inti : oInt [.int x] = .val (.int x) := rfl
theorem o_listl : oList [.lst xs] = .new .l (.lst xs) := rfl
theorem o_listt : oList [.tup xs] = .new .l (.lst xs) := rfl
theorem o_tupl : oTuple [.lst xs] = .val (.tup xs) := rfl
theorem o_tupt : oTuple [.tup xs] = .val (.tup xs) := rfl
theorem o_sll {lo hi : Option Int} : oSl (.lst xs) lo hi = .new .l (.lst (cutL xs lo hi)) := rfl
theorem o_slt {lo hi : Option Int} : oSl (.tup xs) lo hi = .val (.tup (cutL xs lo hi)) := rfl
theorem o_revl : oRev (.lst xs) = .new .l (.lst xs.reverse) := rfl
theorem o_revt : oRev (.tup xs) = .val (.tup xs.reverse) := rfl
theorem w_ixt {i : Int} : WR (fin (oIx (.tup xs) (.int i)) env) QV X ↔ GO (atI xs i) fun d => QV (.fz d) env := by
  show WR (fin (match atI xs i with | some d => .val d | none => .stuck) env) QV X ↔ _
  cases atI xs i <;> with_unfolding_all exact Iff.rfl
theorem w_ixl {i : Int} : WR (fin (oIx (.lst xs) (.int i)) env) QV X ↔ GO (atI xs i) fun d => QV (.fz d) env := by
  show WR (fin (match atI xs i with | some d => .val d | none => .stuck) env) QV X ↔ _
  cases atI xs i <;> with_unfolding_all exact Iff.rfl
theorem pl_int {n : Nat} : pl n (.int x) = true := by cases n <;> rfl
theorem pl_non {n : Nat} : pl n .non = true := by cases n <;> rfl
theorem pl_bl {n : Nat} : pl n (.bl b) = true := by cases n <;> rfl
theorem pl_tup {n : Nat} : pl (n + 1) (.tup xs) = pls n xs := rfl
theorem pl_lst {n : Nat} : pl (n + 1) (.lst xs) = pls n xs := rfl
theorem pls_nil {n : Nat} : pls n [] = true := by cases n <;> rfl
theorem pls_cons {n : Nat} : pls n (d :: xs) = (pl n d && pls n xs) := by cases n <;> rfl
theorem pls_all {n : Nat} : ∀ {xs : List D}, (∀ d ∈ xs, pl n d = true) → pls n xs = true
  | [], _ => pls_nil
  | d :: ds, h => by rw [pls_cons, h d List.mem_cons_self, pls_all fun z hz => h z (List.mem_cons_of_mem _ hz)]; rfl
theorem pls_ints {n : Nat} {ns : List Int} : pls n (ns.map D.int) = true := pls_all fun d h => by
  obtain ⟨i, _, rfl⟩ := List.mem_map.1 h
  with_unfolding_all exact pl_int
/-! indices -/
theorem atI_nat {α : Type} {l : List α} {k : Nat} : atI l (k : Int) = l[k]? := by
  unfold atI ixN
  rw [if_pos (Int.natCast_nonneg k)]
  by_cases h : (k : Int) < (l.length : Nat)
  · rw [if_pos h]; rfl
  · rw [if_neg h]
    with_unfolding_all exact (List.getElem?_eq_none (by omega)).symm
theorem atI_of {α : Type} {l : List α} {i : Int} (h0 : 0 ≤ i) : atI l i = l[i.toNat]? := by
  obtain ⟨k, rfl⟩ := Int.eq_ofNat_of_zero_le h0
  with_unfolding_all exact atI_nat
theorem ixN_nat {n k : Nat} (h : k < n) : ixN n (k : Int) = some k := by
  unfold ixN
  rw [if_pos (Int.natCast_nonneg k), if_pos (by omega)]; rfl
/-- the draws: at most n so far -/
def MW (n : Nat) (m : D) : Prop := ∃ (cs : List Int) (i : Nat) (ls : List Int), m = mD (cs.map .int) i (ls.map .int) ∧ i ≤ n
end
end VL
namespace VL
open PySem PySem.Spec PyProof.Rows L2
section
variable {X : Exn → Env → Prop} {QV : TV → Env → Prop} {QB : Bool → Env → Prop} {N B C : Env → Prop} {T : TV → Env → Prop} {env e : Env} {d d1 d2 : D} {κ : Kd} {i j : Nat} {b : Bool} {x y : Int} {xs ys : List D} {k : D → Prop}
/-! the draws, for simp -/
def MD (d : D) (k : List D → Int → List D → Prop) : Prop := ∃ c i l, d = mD c i l ∧ k c i l
theorem md_ {c l : List D} {a : Int} {k : List D → Int → List D → Prop} : MD (mD c a l) k ↔ k c a l := by
  constructor
  · rintro ⟨c', i', l', h, hk⟩
    simp only [mD, D.dct.injEq, List.cons.injEq, D.lst.injEq, D.int.injEq, and_true, true_and] at h
    obtain ⟨rfl, rfl, rfl⟩ := h
    with_unfolding_all exact hk
  · intro h; with_unfolding_all exact ⟨_, _, _, rfl, h⟩
def MSo (s : Option SV) (k : D → Prop) : Prop := match s with
  | some (.ow .m d) => k d
  | _ => False
theorem mso_ {k : D → Prop} : MSo (some (.ow .m d)) k ↔ k d := by with_unfolding_all exact Iff.rfl
theorem mso_of {s : Option SV} {k : D → Prop} (h : MSo s k) : ∃ d, s = some (.ow .m d) ∧ k d := by
  unfold MSo at h
  cases s with
  | none => with_unfolding_all exact h.elim
  | some sv =>
    cases sv with
    | ow κ d => cases κ with
      | m => with_unfolding_all exact ⟨d, rfl, h⟩
      | _ => with_unfolding_all exact h.elim
    | _ => with_unfolding_all exact h.elim
theorem ms_of {s : Option SV} {k : D → Prop} (h : MS s k) : ∃ d, (s = some (.ow .m d) ∨ s = some (.lk .m d)) ∧ k d := by
  unfold MS at h
  cases s with
  | none => with_unfolding_all exact h.elim
  | some sv =>
    cases sv with
    | ow κ d => cases κ with
      | m => with_unfolding_all exact ⟨d, .inl rfl, h⟩
      | _ => with_unfolding_all exact h.elim
    | lk κ d => cases κ with
      | m => with_unfolding_all exact ⟨d, .inr rfl, h⟩
      | _ => with_unfolding_all exact h.elim
    | _ => with_unfolding_all exact h.elim
theorem m_mat (h : MSo env[i]? fun d => MD d fun _ a _ => QV (.fz (.int a)) env) : WR (cMat i env) QV X := by
  obtain ⟨d, h1, c, a, l, rfl, h2⟩ := mso_of h
  with_unfolding_all exact (w_mat h1).2 h2
theorem m_mlen (h : MS env[i]? fun d => MD d fun c _ l => QV (.fz (.int (if b then l else c).length)) env) : WR (cMlen i b env) QV X := by
  obtain ⟨d, h1, c, a, l, rfl, h2⟩ := ms_of h
  with_unfolding_all exact (w_mlen h1).2 h2
theorem m_tmne (h : MSo env[i]? fun d => MD d fun c _ l => pls 59 (if b then l else c) = true ∧ QB (!deq (.lst (if b then l else c)) (.lst [])) env) : WR (tMne i b env) QB X := by
  obtain ⟨d, h1, c, a, l, rfl, h2⟩ := mso_of h
  with_unfolding_all exact (w_tmne h1).2 h2
theorem m_msl {lo : Int} (h : MSo env[i]? fun d => MD d fun c _ l => QV (.ow .l (.lst (cutL (if b then l else c) (some lo) none))) env) : WR (cMsl i b lo env) QV X := by
  obtain ⟨d, h1, c, a, l, rfl, h2⟩ := mso_of h
  with_unfolding_all exact (w_msl h1).2 h2
theorem m_mix {fi : M TV} (h : MSo env[i]? fun d => MD d fun c a l => WR (fi (env.set i (.lk .m (mD c a l)))) (fun t e => GV e t fun d => INT d fun j => GO (atI (if b then l else c) j) fun x => QV (.fz x) (lockE (some i) e)) (fun _ _ => False)) : WR (cMix i b fi env) QV X := by
  obtain ⟨d, h1, c, a, l, rfl, h2⟩ := mso_of h
  with_unfolding_all exact (w_mix h1).2 h2
theorem m_gmat {j : Int} (h : MSo env[i]? fun d => MD d fun c _ l => N (env.set i (.ow .m (mD c j l)))) : GO (gMat i (.int j) env) N := by
  obtain ⟨d, h1, c, a, l, rfl, h2⟩ := mso_of h
  unfold gMat
  rw [h1]; with_unfolding_all exact h2
theorem m_gmleft {j : Int} {v : D} (h : MSo env[i]? fun d => MD d fun c a l => GO (ixN l.length j) fun q => N (env.set i (.ow .m (mD c a (l.set q v))))) : GO (gMleft i j v env) N := by
  obtain ⟨d, h1, c, a, l, rfl, h2⟩ := mso_of h
  obtain ⟨q, hq, h2⟩ := go_iff.1 h2
  unfold gMleft
  rw [h1]
  dsimp only [mParts, mD]
  rw [hq]; with_unfolding_all exact h2
theorem m_sleft {fe : M TV} (h : WR (fe env) (fun t e => match t with | .ow .l (.lst ld) => MSo e[i]? fun d => MD d fun c a _ => N (e.set i (.ow .m (mD c a ld))) | _ => False) X) : WS (sMleft i fe env) N T B C X := by
  unfold sMleft
  cases h1 : fe env with
  | ok t e =>
    rw [h1, wr_ok] at h
    cases t with
    | ow κ d =>
      cases κ with
      | l =>
        cases d with
        | lst ld =>
          obtain ⟨d, h1, c, a, l, rfl, h2⟩ := mso_of h
          dsimp only
          rw [h1]; with_unfolding_all exact h2
        | _ => with_unfolding_all exact h.elim
      | _ => with_unfolding_all exact h.elim
    | _ => with_unfolding_all exact h.elim
  | ex x e => rw [h1] at h; with_unfolding_all exact h
  | stuck => rw [h1] at h; with_unfolding_all exact h.elim
theorem deq_nil {xs : List D} : deq (.lst xs) (.lst []) = decide (xs = []) := by cases xs <;> rfl
theorem deq_int {x y : Int} : deq (.int x) (.int y) = decide (x = y) := rfl
theorem log_le {x : Int} {k : Nat} (h : x.natAbs < 2 ^ k) (hk : 0 < k) : x.natAbs.log2 < k := by
  by_cases h0 : x.natAbs = 0
  · rw [h0]; simpa using hk
  · with_unfolding_all exact (Nat.log2_lt h0).2 h
theorem log_lt' {x y : Int} (hx : x.natAbs < 2 ^ 10000) (hy : y.natAbs < 2 ^ 10000) : x.natAbs.log2 + y.natAbs.log2 < 1000000 := by
  have := log_le hx (by decide)
  have := log_le hy (by decide)
  omega
end
end VL
namespace VL
open PySem PySem.Spec PyProof.Rows L2
/-! a merge sort that the kernel can run -/
def mrgF {α : Type} (le : α → α → Bool) : Nat → List α → List α → List α
  | 0, _, _ => []
  | _ + 1, [], ys => ys
  | _ + 1, xs, [] => xs
  | n + 1, x :: xs, y :: ys => if le x y then x :: mrgF le n xs (y :: ys) else y :: mrgF le n (x :: xs) ys
theorem mrgF_eq {α : Type} (le : α → α → Bool) : ∀ (n : Nat) (xs ys : List α), xs.length + ys.length < n → mrgF le n xs ys = xs.merge ys le
  | 0, _, _, h => by omega
  | n + 1, [], ys, _ => by rw [List.merge.eq_def]; simp [mrgF]
  | n + 1, x :: xs, [], _ => by rw [List.merge.eq_def]; simp [mrgF]
  | n + 1, x :: xs, y :: ys, h => by
    rw [List.merge.eq_def]
    simp only [List.length_cons] at h
    simp only [mrgF]
    rw [mrgF_eq le n xs (y :: ys) (by simp only [List.length_cons]; omega), mrgF_eq le n (x :: xs) ys (by simp only [List.length_cons]; omega)]
def msF {α : Type} (le : α → α → Bool) : Nat → List α → List α
  | 0, _ => []
  | _ + 1, [] => []
  | _ + 1, [a] => [a]
  | n + 1, a :: b :: xs => mrgF le (xs.length + 3) (msF le n ((a :: b :: xs).take ((xs.length + 3) / 2))) (msF le n ((a :: b :: xs).drop ((xs.length + 3) / 2)))
theorem msF_eq {α : Type} (le : α → α → Bool) : ∀ (n : Nat) (xs : List α), xs.length < n → msF le n xs = xs.mergeSort le
  | 0, _, h => by omega
  | n + 1, [], _ => by rw [List.mergeSort.eq_def]; rfl
  | n + 1, [a], _ => by rw [List.mergeSort.eq_def]; rfl
  | n + 1, a :: b :: xs, h => by
    rw [List.mergeSort.eq_def]
    simp only [List.length_cons] at h
    simp only [msF]
    have h1 : ((a :: b :: xs).take ((xs.length + 3) / 2)).length < n := by rw [List.length_take, List.length_cons, List.length_cons]; omega
    have h2 : ((a :: b :: xs).drop ((xs.length + 3) / 2)).length < n := by rw [List.length_drop, List.length_cons, List.length_cons]; omega
    rw [msF_eq le n _ h1, msF_eq le n _ h2, mrgF_eq]
    · simp only [List.MergeSort.Internal.splitInTwo, List.splitAt_eq, List.length_cons]
    · rw [List.length_mergeSort, List.length_mergeSort, List.length_take, List.length_drop, List.length_cons, List.length_cons]; omega
def oSortedF : List D → ORes
  | [d] => match colD d with
    | some ds => if sortOk ds then .new .l (.lst (msF dle (ds.length + 1) ds)) else .stuck
    | none => .stuck
  | _ => .stuck
theorem oSorted_eq : oSorted = oSortedF := by
  funext l
  match l with
  | [] => rfl
  | [d] =>
    simp only [oSorted, oSortedF]
    cases colD d with
    | none => rfl
    | some ds => simp only [srt, msF_eq dle (ds.length + 1) ds (by omega)]
  | _ :: _ :: _ => rfl
/-! slices -/
theorem cut_lo {α : Type} {xs : List α} {k : Nat} : cutL xs (some (k : Int)) none = xs.drop k := by
  unfold cutL
  rw [HT.sIx_nat, HT.sIx_none]
  by_cases h : k ≤ xs.length
  · rw [Nat.min_eq_left h, List.take_of_length_le (by rw [List.length_drop]; omega)]
  · rw [Nat.min_eq_right (by omega), List.drop_of_length_le (by omega), List.drop_of_length_le (by omega)]; simp
theorem cut_hi {α : Type} {xs : List α} {k : Nat} : cutL xs none (some (k : Int)) = xs.take k := by
  unfold cutL
  rw [HT.sIx_nat, HT.sIx_none, Nat.sub_zero, List.drop_zero]
  by_cases h : k ≤ xs.length
  · rw [Nat.min_eq_left h]
  · rw [Nat.min_eq_right (by omega), List.take_of_length_le (by omega), List.take_of_length_le (by omega)]
/-! numbers and tables as values -/
abbrev nD (k : Nat) : D := .int (k : Int)
abbrev nL (ks : List Nat) : List D := ks.map nD
abbrev rowD (r : List Nat) : D := .tup (nL r)
abbrev tabD (t : List (List Nat)) : D := .tup (t.map rowD)
theorem nD_inj {a b : Nat} (h : nD a = nD b) : a = b := by
  simp only [D.int.injEq] at h; omega
theorem nL_inj {xs ys : List Nat} (h : nL xs = nL ys) : xs = ys := (List.map_inj_right fun a b h => nD_inj h).1 h
theorem atI_nL {xs : List Nat} {k : Nat} (h : k < xs.length) : atI (nL xs) (k : Int) = some (nD (xs.getD k 0)) := by
  rw [atI_nat, List.getElem?_map, List.getElem?_eq_getElem h, M0.getD_lt h]; rfl
theorem atI_tab {t : List (List Nat)} {k : Nat} (h : k < t.length) : atI (t.map rowD) (k : Int) = some (rowD (t.getD k [])) := by
  rw [atI_nat, List.getElem?_map, List.getElem?_eq_getElem h, M0.getD_lt h]; rfl
theorem deq_nD {a b : Nat} : deq (nD a) (nD b) = decide (a = b) := by
  show decide ((a : Int) = b) = _
  by_cases h : a = b
  · rw [h]; simp
  · rw [decide_eq_false h, decide_eq_false (by omega)]
theorem deqs_nL : ∀ {xs ys : List Nat}, deqs (nL xs) (nL ys) = decide (xs = ys)
  | [], [] => rfl
  | [], _ :: _ => by simp [deqs, nL]
  | _ :: _, [] => by simp [deqs, nL]
  | x :: xs, y :: ys => by
    show (deq (nD x) (nD y) && deqs (nL xs) (nL ys)) = _
    rw [deq_nD, deqs_nL]
    by_cases h1 : x = y <;> by_cases h2 : xs = ys <;> simp [h1, h2]
theorem deq_row {xs ys : List Nat} : deq (rowD xs) (rowD ys) = decide (xs = ys) := deqs_nL
theorem deq_lnL {xs ys : List Nat} : deq (.lst (nL xs)) (.lst (nL ys)) = decide (xs = ys) := deqs_nL
theorem pls_nL {n : Nat} {xs : List Nat} : pls n (nL xs) = true := pls_all fun d h => by
  obtain ⟨i, _, rfl⟩ := List.mem_map.1 h
  exact pl_int
theorem pl_row {n : Nat} {xs : List Nat} : pl (n + 1) (rowD xs) = true := by rw [pl_tup]; exact pls_nL
theorem pls_tab {n : Nat} {t : List (List Nat)} : pls (n + 1) (t.map rowD) = true := pls_all fun d h => by
  obtain ⟨i, _, rfl⟩ := List.mem_map.1 h
  exact pl_row
theorem rangeD_nL {n : Nat} : rangeD 0 n = nL (List.range n) := by
  unfold rangeD nL
  refine List.map_congr_left fun a _ => ?_
  rw [Int.zero_add]
theorem enumD_get {xs : List D} {p : D} (h : p ∈ enumD xs) : ∃ i, ∃ d, xs[i]? = some d ∧ p = .tup [nD i, d] := by
  unfold enumD at h
  obtain ⟨i, hi⟩ := List.mem_iff_getElem?.1 h
  rw [List.getElem?_mapIdx] at hi
  cases hx : xs[i]? with
  | none => rw [hx] at hi; cases hi
  | some d => rw [hx] at hi; cases hi; exact ⟨i, d, hx, rfl⟩
theorem inD_nL {b : Bool} {x : Nat} {xs : List Nat} : inD b (nD x) (.lst (nL xs)) = .val (.bl (b != decide (x ∈ xs))) := by
  show (if (pl 60 (nD x) && pls 59 (nL xs)) = true then ORes.val (.bl (b != (nL xs).any fun z => deq z (nD x))) else .stuck) = _
  rw [pls_nL, pl_int, Bool.and_self, if_pos rfl]
  congr 3
  induction xs with
  | nil => rfl
  | cons y ys ih =>
    show (deq (nD y) (nD x) || _) = _
    rw [ih, deq_nD]
    by_cases h1 : y = x
    · subst h1; simp
    · have h3 : ¬ x = y := fun z => h1 z.symm
      simp [h1, h3]
theorem dle_int {a b : Int} : dle (.int a) (.int b) = decide (a ≤ b) := by
  unfold dle
  rw [PySem.W.dataLe_eq]
  have h := congrFun (congrFun (PySem.W.dataLe_int (β := Int) id) a) b
  rw [PySem.W.dataLe_eq] at h
  exact h
theorem srt_nL {xs : List Nat} : srt (nL xs) = nL (xs.mergeSort fun a b => decide (a ≤ b)) := by
  unfold srt nL
  rw [List.map_mergeSort (s := dle)]
  intro a _ b _
  rw [dle_int]
  by_cases h : a ≤ b
  · rw [decide_eq_true h, decide_eq_true (by omega)]
  · rw [decide_eq_false h, decide_eq_false (by omega)]
end VL
namespace VL
open PySem PySem.Spec PyProof.Rows L2
section
variable {X : Exn → Env → Prop} {QV : TV → Env → Prop} {QB : Bool → Env → Prop} {N B C : Env → Prop} {T : TV → Env → Prop} {env e : Env} {d d1 d2 : D} {κ : Kd} {i j : Nat} {b : Bool} {x y : Int} {xs ys : List D} {k : D → Prop}
theorem w_lrg {f : M TV} : WR (cLRg1 b f env) QV X ↔ WR (f env) (fun t e => GV e t fun d => WR (fin (oLRg b (.int 0) d) e) QV X) X := w_un
theorem w_olrg_t : WR (fin (oLRg true (.int x) (.int y)) env) QV X ↔ rgOk2 x y = true ∧ QV (.ow .l (.lst (rangeD x (y - x).toNat))) env := by
  show WR (fin (if rgOk2 x y then (if true = true then .new .l (.lst (rangeD x (y - x).toNat)) else .val (.tup (rangeD x (y - x).toNat))) else .stuck) env) QV X ↔ _
  rw [wr_fin_if, if_pos rfl, wr_fin_new]
theorem w_olrg_f : WR (fin (oLRg false (.int x) (.int y)) env) QV X ↔ rgOk2 x y = true ∧ QV (.fz (.tup (rangeD x (y - x).toNat))) env := by
  show WR (fin (if rgOk2 x y then (if false = true then .new .l (.lst (rangeD x (y - x).toNat)) else .val (.tup (rangeD x (y - x).toNat))) else .stuck) env) QV X ↔ _
  rw [wr_fin_if, if_neg (by decide), wr_fin_val]
theorem go_set0 {nio : Bool} : GO (setAll nio [] [] env) N ↔ N env := by with_unfolding_all exact Iff.rfl
theorem go_set1 {nio : Bool} {is : List Nat} {s : SV} {ss : List SV} : GO (setAll nio (i :: is) (s :: ss) env) N ↔ (i < env.length ∧ (i ≠ 0 ∨ nio = true) ∧ i ∉ is) ∧ GO (setAll nio is ss (env.set i s)) N := by
  rw [setAll]
  by_cases h : i < env.length ∧ (i ≠ 0 ∨ nio = true) ∧ i ∉ is
  · rw [if_pos h]; with_unfolding_all exact ⟨fun z => ⟨h, z⟩, fun z => z.2⟩
  · rw [if_neg h]; with_unfolding_all exact ⟨fun z => z.elim, fun z => h z.1⟩
theorem w_meth {t : String} {op : D → List D → ORes} {fo : M TV} {fs : List (M TV)} : WR (cMeth t op fo fs env) QV X ↔ WR (fo env) (fun t0 e0 => GV e0 t0 fun d0 => tyD t d0 = true ∧ WR (cArgs fs e0) (fun ts e1 => GV e1 t0 fun d => GVs e1 ts fun ds => WR (fin (op d ds) e1) QV X) X) X := by
  unfold cMeth
  rw [wr_bind]
  cases fo env with
  | ok t0 e0 =>
    rw [wr_ok, wr_ok]
    unfold GV
    cases getV e0 t0 with
    | none => with_unfolding_all exact Iff.rfl
    | some d0 =>
      dsimp only
      by_cases h : tyD t d0 = true
      · rw [if_pos h, wr_bind]
        refine Iff.trans ?_ (Iff.symm (and_iff_right h))
        cases cArgs fs e0 with
        | ok ts e1 =>
          rw [wr_ok, wr_ok]
          unfold GVs
          cases getV e1 t0 with
          | none => with_unfolding_all exact Iff.rfl
          | some d => cases getVs e1 ts <;> with_unfolding_all exact Iff.rfl
        | _ => with_unfolding_all exact Iff.rfl
      · rw [if_neg h]; with_unfolding_all exact ⟨fun z => z.elim, fun z => h z.1⟩
  | _ => with_unfolding_all exact Iff.rfl
theorem tyd_l : tyD "list" (.lst xs) = true := rfl
/-! dicts -/
def FZ (t : TV) (k : D → Prop) : Prop := match t with
  | .fz d => k d
  | _ => False
theorem fz_ : FZ (.fz d) k ↔ k d := by with_unfolding_all exact Iff.rfl
theorem w_dnil : WR (cDnil env) QV X ↔ QV (.ow .dk (.dct [] [])) env := by with_unfolding_all exact Iff.rfl
theorem w_done {fk fv : M TV} : WR (cDone fk fv env) QV X ↔ WR (fk env) (fun t e => FZ t fun y => GO (kOf y) fun q => WR (fv e) (fun t2 e2 => FZ t2 fun z => QV (.ow .dk (.dct [.inl q] [z])) e2) (fun _ _ => False)) (fun _ _ => False) := by
  unfold cDone
  rw [wr_bindN]
  cases fk env with
  | ok t e =>
    rw [wr_ok, wr_ok]
    cases t with
    | fz y =>
      rw [fz_]
      dsimp only
      cases kOf y with
      | none => with_unfolding_all exact Iff.rfl
      | some q =>
        dsimp only
        rw [wr_bindN, go_some]
        cases fv e with
        | ok t2 e2 => cases t2 <;> with_unfolding_all exact Iff.rfl
        | _ => with_unfolding_all exact Iff.rfl
    | _ => with_unfolding_all exact Iff.rfl
  | _ => with_unfolding_all exact Iff.rfl
theorem w_dc {own : List Nat} {fi : M (List D × Option Nat)} {gd : D → Env → Option Env} {ft : M Bool} {fk fv : M TV} :
    WR (cDc own fi gd ft fk fv env) QV X ↔ WR (fi env) (fun p e => WR (dcL gd ft fk fv own p.1 [] [] e) (fun q e2 => QV (.ow .dk (.dct q.1 q.2)) (lockE p.2 e2)) (fun _ _ => False)) X := by
  unfold cDc
  rw [wr_bind]
  cases fi env with
  | ok p e => rw [wr_ok, wr_ok, wr_bindN]; with_unfolding_all exact Iff.rfl
  | _ => with_unfolding_all exact Iff.rfl
theorem dcL_inv {gd : D → Env → Option Env} {ft : M Bool} {fk fv : M TV} {own : List Nat} {XX : Exn → Env → Prop} (I : List D → List DK → List D → Env → Prop)
    (hs : ∀ d ds ks vs env, I (d :: ds) ks vs env → ownOk own env = true ∧ GO (gd d (wipeE own env)) fun e1 => WR (ft e1) (fun b e2 => IFB b (WR (fk e2) (fun t e3 => FZ t fun y => GO (kOf y) fun q => WR (fv e3) (fun t2 e4 => GF1 t2 fun z => I ds (dPutK ks vs (.inl q) z).1 (dPutK ks vs (.inl q) z).2 (restE own env e4)) (fun _ _ => False)) (fun _ _ => False)) (I ds ks vs (restE own env e2))) (fun _ _ => False)) :
    ∀ (items : List D) (ks : List DK) (vs : List D) (env : Env), I items ks vs env → WR (dcL gd ft fk fv own items ks vs env) (fun q e => I [] q.1 q.2 e) XX
  | [], ks, vs, env, h => by rw [dcL, wr_ok]; with_unfolding_all exact h
  | d :: ds, ks, vs, env, h => by
    obtain ⟨ho, hw⟩ := hs d ds ks vs env h
    obtain ⟨e1, hg, hw⟩ := go_iff.1 hw
    rw [dcL, if_pos ho]
    simp only [hg]
    rw [wr_bindN]
    cases h1 : ft e1 with
    | ok b e2 =>
      rw [h1, wr_ok] at hw
      rw [wr_ok]
      cases b with
      | false =>
        rw [ifb_f] at hw
        with_unfolding_all exact dcL_inv I hs ds _ _ _ hw
      | true =>
        rw [ifb_t] at hw
        rw [if_pos rfl, wr_bindN]
        cases h2 : fk e2 with
        | ok t e3 =>
          rw [h2, wr_ok] at hw
          rw [wr_ok]
          cases t with
          | fz y =>
            rw [fz_] at hw
            obtain ⟨q, hq, hw⟩ := go_iff.1 hw
            dsimp only
            simp only [hq]
            rw [wr_bindN]
            cases h3 : fv e3 with
            | ok t2 e4 =>
              rw [h3, wr_ok] at hw
              rw [wr_ok]
              unfold GF1 at hw
              cases h4 : frzV t2 with
              | none => rw [h4] at hw; with_unfolding_all exact hw.elim
              | some z =>
                rw [h4] at hw
                with_unfolding_all exact dcL_inv I hs ds _ _ _ hw
            | _ => rw [h3] at hw; with_unfolding_all exact hw.elim
          | _ => with_unfolding_all exact hw.elim
        | _ => rw [h2] at hw; with_unfolding_all exact hw.elim
    | _ => rw [h1] at hw; with_unfolding_all exact hw.elim
/-! rows of rows -/
def OWL (t : TV) (k : List D → Prop) : Prop := match t with
  | .ow .l (.lst y) => k y
  | _ => False
theorem owl_ {k : List D → Prop} : OWL (.ow .l (.lst xs)) k ↔ k xs := by with_unfolding_all exact Iff.rfl
theorem w_comp2 {own : List Nat} {fi : M (List D × Option Nat)} {gd : D → Env → Option Env} {ft : M Bool} {fe : M TV} :
    WR (cComp2 own fi gd ft fe env) QV X ↔ WR (fi env) (fun p e => WR (compL2 gd ft fe own p.1 e) (fun ys e2 => QV (.ow .l2 (.lst (ys.map D.lst))) (lockE p.2 e2)) (fun _ _ => False)) X := by
  unfold cComp2
  rw [wr_bind]
  cases fi env with
  | ok p e => rw [wr_ok, wr_ok, wr_bindN]; with_unfolding_all exact Iff.rfl
  | _ => with_unfolding_all exact Iff.rfl
/-- a pure one: the environment is as it was, y = g d -/
theorem compL2_pure {gd : D → Env → Option Env} {ft : M Bool} {fe : M TV} {own : List Nat} (g : D → Option (List D)) (items : List D) (env : Env)
    (ho : ownOk own env = true) (hs : ∀ d, d ∈ items → GO (gd d (wipeE own env)) fun e1 => WR (ft e1) (fun b e2 => IFB b (WR (fe e2) (fun t e3 => OWL t fun y => g d = some y ∧ restE own env e3 = env) (fun _ _ => False)) (g d = none ∧ restE own env e2 = env)) (fun _ _ => False)) :
    compL2 gd ft fe own items env = .ok (items.filterMap g) env := by
  induction items with
  | nil => rfl
  | cons d ds ih =>
    obtain ⟨e1, hg, hw⟩ := go_iff.1 (hs d List.mem_cons_self)
    have ih := ih fun d' z => hs d' (List.mem_cons_of_mem _ z)
    rw [compL2, if_pos ho]
    simp only [hg]
    cases h1 : ft e1 with
    | ok b e2 =>
      rw [h1, wr_ok] at hw
      cases b with
      | false =>
        rw [ifb_f] at hw
        dsimp only [Res.bindN]
        rw [if_neg (by decide), hw.2, ih, List.filterMap_cons_none hw.1]
      | true =>
        rw [ifb_t] at hw
        dsimp only [Res.bindN]
        rw [if_pos rfl]
        cases h2 : fe e2 with
        | ok t e3 =>
          rw [h2, wr_ok] at hw
          cases t with
          | ow κ d' =>
            cases κ with
            | l =>
              cases d' with
              | lst y =>
                rw [owl_] at hw
                dsimp only
                rw [hw.2, ih, List.filterMap_cons_some hw.1]
              | _ => with_unfolding_all exact hw.elim
            | _ => with_unfolding_all exact hw.elim
          | _ => with_unfolding_all exact hw.elim
        | _ => rw [h2] at hw; with_unfolding_all exact hw.elim
    | _ => rw [h1] at hw; with_unfolding_all exact hw.elim
theorem iox_f {e : Env} : IoX i κ e (fun _ _ => False) = fun _ _ => False := by
  funext x io
  cases io <;> rfl
theorem rgOk_nat {n : Nat} (h : n ≤ 16777216) : rgOk 0 (n : Int) = true := by
  unfold rgOk
  refine decide_eq_true ⟨by omega, by omega, by omega, by omega, ?_⟩
  show ((n : Int) - 0).toNat ≤ 2 ^ 24
  omega
theorem rgOk2_nat {n : Nat} (h : n ≤ 16777216) : rgOk2 0 (n : Int) = true := by
  unfold rgOk2
  refine decide_eq_true ⟨by omega, by omega, by omega, by omega, ?_⟩
  omega
theorem sub0_toNat {n : Nat} : ((n : Int) - 0).toNat = n := by omega
end
end VL
namespace VL
open PySem PySem.Spec PyProof.Rows L2
theorem go_app {ds : List D} {d : D} {k : D × D → Prop} : GO (mApp (.lst ds) [d]) k ↔ ds.length < sizeLine ∧ k (.lst (ds ++ [d]), .non) := by
  show GO (if ds.length < sizeLine then some (.lst (ds ++ [d]), .non) else none) k ↔ _
  by_cases h : ds.length < sizeLine
  · rw [if_pos h]; with_unfolding_all exact ⟨fun z => ⟨h, z⟩, fun z => z.2⟩
  · rw [if_neg h]; with_unfolding_all exact ⟨fun z => z.elim, fun z => h z.1⟩
set_option exponentiation.threshold 2000 in
theorem pop_i {ds : List D} {j : Nat} (h : j < ds.length) (hb : ds.length < 2 ^ 62) : mPopI (.lst ds) [.int (j : Int)] = some (.lst (ds.eraseIdx j), ds[j]) := by
  have hc : -(2 ^ 63) ≤ (j : Int) ∧ (j : Int) < 2 ^ 63 := ⟨by omega, by omega⟩
  simp only [mPopI, if_pos hc, ixN_nat h]
  rw [List.getElem?_eq_getElem h]
theorem pop_0 {ds : List D} {d : D} : mPop0 (.lst (ds ++ [d])) [] = some (.lst ds, d) := by
  show (match (ds ++ [d])[(ds ++ [d]).length - 1]? with
    | some z => some (D.lst (ds ++ [d]).dropLast, z)
    | none => none) = _
  rw [show (ds ++ [d]).length - 1 = ds.length by simp, List.getElem?_concat_length, List.dropLast_concat]
theorem sizeLine_lt {n : Nat} (h : n < 16777216) : n < sizeLine := h
theorem sizeLine_le {n : Nat} (h : n ≤ 16777216) : n ≤ sizeLine := h
end VL
namespace VL
open PySem PySem.Spec PyProof.Rows L2
section
variable {α : Type} {env : Env} {own : List Nat} {gd : D → Env → Option Env} {fe : M TV} {X : Exn → Env → Prop}
/-- a comprehension that maps -/
theorem compL_map (c h : α → D) (xs : List α) (ho : ownOk own env = true) (hs : ∀ x, x ∈ xs → GO (gd (c x) (wipeE own env)) fun e1 => WR (fe e1) (fun t e3 => GF1 t fun y => y = h x ∧ restE own env e3 = env) (fun _ _ => False)) :
    compL gd (fun env => .ok true env) fe own (xs.map c) env = .ok (xs.map h) env := by
  induction xs with
  | nil => rfl
  | cons x xs ih =>
    obtain ⟨e1, hg, hw⟩ := go_iff.1 (hs x List.mem_cons_self)
    have ih := ih fun d' z => hs d' (List.mem_cons_of_mem _ z)
    rw [List.map_cons, compL, if_pos ho]
    simp only [hg]
    dsimp only [Res.bindN]
    rw [if_pos rfl]
    cases h2 : fe e1 with
    | ok t e3 =>
      rw [h2, wr_ok] at hw
      unfold GF1 at hw
      cases h3 : frzV t with
      | none => rw [h3] at hw; with_unfolding_all exact hw.elim
      | some y =>
        rw [h3] at hw
        dsimp only
        rw [h3]
        dsimp only
        rw [hw.2, ih, hw.1]
        rfl
    | _ => rw [h2] at hw; with_unfolding_all exact hw.elim
theorem wr_comp_map {Q : List D → Env → Prop} (c h : α → D) {xs : List α} (ho : ownOk own env = true) (hs : ∀ x, x ∈ xs → GO (gd (c x) (wipeE own env)) fun e1 => WR (fe e1) (fun t e3 => GF1 t fun y => y = h x ∧ restE own env e3 = env) (fun _ _ => False)) (hq : Q (xs.map h) env) :
    WR (compL gd (fun env => .ok true env) fe own (xs.map c) env) Q X := by
  rw [compL_map c h xs ho hs]; with_unfolding_all exact hq
theorem wr_comp_fm {Q : List D → Env → Prop} {ft : M Bool} (c : α → D) (g : α → Option D) {xs : List α} (ho : ownOk own env = true) (hs : ∀ x, x ∈ xs → GO (gd (c x) (wipeE own env)) fun e1 => WR (ft e1) (fun b e2 => IFB b (WR (fe e2) (fun t e3 => GF1 t fun y => g x = some y ∧ restE own env e3 = env) (fun _ _ => False)) (g x = none ∧ restE own env e2 = env)) (fun _ _ => False)) (hq : Q (xs.filterMap g) env) :
    WR (compL gd ft fe own (xs.map c) env) Q X := by
  have e : compL gd ft fe own (xs.map c) env = .ok (xs.filterMap g) env := by
    clear hq
    induction xs with
    | nil => rfl
    | cons d ds ih =>
      obtain ⟨e1, hg, hw⟩ := go_iff.1 (hs d List.mem_cons_self)
      have ih := ih fun d' z => hs d' (List.mem_cons_of_mem _ z)
      rw [List.map_cons, compL, if_pos ho]
      simp only [hg]
      cases h1 : ft e1 with
      | ok b e2 =>
        rw [h1, wr_ok] at hw
        cases b with
        | false =>
          rw [ifb_f] at hw
          dsimp only [Res.bindN]
          rw [if_neg (by decide), hw.2, ih, List.filterMap_cons_none hw.1]
        | true =>
          rw [ifb_t] at hw
          dsimp only [Res.bindN]
          rw [if_pos rfl]
          cases h2 : fe e2 with
          | ok t e3 =>
            rw [h2, wr_ok] at hw
            unfold GF1 at hw
            cases h3 : frzV t with
            | none => rw [h3] at hw; with_unfolding_all exact hw.elim
            | some y =>
              rw [h3] at hw
              dsimp only
              rw [hw.2, ih, List.filterMap_cons_some hw.1, h3]
          | _ => rw [h2] at hw; with_unfolding_all exact hw.elim
      | _ => rw [h1] at hw; with_unfolding_all exact hw.elim
  rw [e]; with_unfolding_all exact hq
theorem wr_comp2_map {Q : List (List D) → Env → Prop} (c : α → D) (h : α → List D) {xs : List α} (ho : ownOk own env = true) (hs : ∀ x, x ∈ xs → GO (gd (c x) (wipeE own env)) fun e1 => WR (fe e1) (fun t e3 => OWL t fun y => y = h x ∧ restE own env e3 = env) (fun _ _ => False)) (hq : Q (xs.map h) env) :
    WR (compL2 gd (fun env => .ok true env) fe own (xs.map c) env) Q X := by
  have e : compL2 gd (fun env => .ok true env) fe own (xs.map c) env = .ok (xs.map h) env := by
    clear hq
    induction xs with
    | nil => rfl
    | cons x xs ih =>
      obtain ⟨e1, hg, hw⟩ := go_iff.1 (hs x List.mem_cons_self)
      have ih := ih fun d' z => hs d' (List.mem_cons_of_mem _ z)
      rw [List.map_cons, compL2, if_pos ho]
      simp only [hg]
      dsimp only [Res.bindN]
      rw [if_pos rfl]
      cases h2 : fe e1 with
      | ok t e3 =>
        rw [h2, wr_ok] at hw
        cases t with
        | ow κ d' =>
          cases κ with
          | l =>
            cases d' with
            | lst y =>
              rw [owl_] at hw
              dsimp only
              rw [hw.2, ih, hw.1]
              rfl
            | _ => with_unfolding_all exact hw.elim
          | _ => with_unfolding_all exact hw.elim
        | _ => with_unfolding_all exact hw.elim
      | _ => rw [h2] at hw; with_unfolding_all exact hw.elim
  rw [e]; with_unfolding_all exact hq
end
/-! tables by shape -/
structure Shape (n : Nat) (t : List (List Nat)) : Prop where
  len : t.length = n
  row : ∀ r ∈ t, r.length = n ∧ ∀ x ∈ r, x < n
theorem Shape.get {n : Nat} {t : List (List Nat)} (h : Shape n t) {a : Nat} (ha : a < n) : (t.getD a []).length = n ∧ ∀ x ∈ t.getD a [], x < n := by
  have hl := h.len
  refine h.row _ ?_
  rw [M0.getD_lt (by omega)]
  with_unfolding_all exact List.getElem_mem _
theorem Shape.el {n : Nat} {t : List (List Nat)} (h : Shape n t) {a b : Nat} (ha : a < n) (hb : b < n) : M0.el t a b < n := by
  obtain ⟨h1, h2⟩ := h.get ha
  refine h2 _ ?_
  unfold M0.el
  rw [M0.getD_lt (l := t.getD a []) (by omega)]
  with_unfolding_all exact List.getElem_mem _
theorem Shape.set {n : Nat} {t : List (List Nat)} (h : Shape n t) {a b v : Nat} (ha : a < n) (hv : v < n) : Shape n (t.set a ((t.getD a []).set b v)) := by
  refine ⟨by rw [List.length_set]; with_unfolding_all exact h.len, fun r hr => ?_⟩
  rcases List.mem_or_eq_of_mem_set hr with hr | rfl
  · with_unfolding_all exact h.row r hr
  · obtain ⟨h1, h2⟩ := h.get ha
    refine ⟨by rw [List.length_set]; with_unfolding_all exact h1, fun x hx => ?_⟩
    rcases List.mem_or_eq_of_mem_set hx with hx | rfl
    · with_unfolding_all exact h2 x hx
    · with_unfolding_all exact hv
/-- rows as lists -/
abbrev lrowD (r : List Nat) : D := .lst (nL r)
theorem put2_nat {t : List (List Nat)} {i j v : Nat} (hi : i < t.length) (hj : j < (t.getD i []).length) : put2 (t.map lrowD) (i : Int) (j : Int) (nD v) = some ((t.set i ((t.getD i []).set j v)).map lrowD) := by
  unfold put2
  rw [List.length_map, ixN_nat hi]
  dsimp only
  rw [List.getElem?_map, List.getElem?_eq_getElem hi]
  dsimp only [Option.map]
  rw [M0.getD_lt hi] at hj
  rw [List.length_map, ixN_nat hj]
  dsimp only
  rw [M0.getD_lt hi, List.map_set]
  rw [show (nL t[i]).set j (nD v) = nL (t[i].set j v) from List.map_set.symm]
theorem atI_lrow {t : List (List Nat)} {k : Nat} (h : k < t.length) : atI (t.map lrowD) (k : Int) = some (lrowD (t.getD k [])) := by
  rw [atI_nat, List.getElem?_map, List.getElem?_eq_getElem h, M0.getD_lt h]; rfl
end VL
namespace VL
open PySem PySem.Spec PyProof.Rows L2
theorem w_rep {env : Env} {Q : TV → Env → Prop} {X : Exn → Env → Prop} {d : D} {n : Nat} (h : n ≤ 16777216) (hq : Q (.ow .l (.lst (List.replicate n d))) env) : WR (fin (oMul (.lst [d]) (.int (n : Int))) env) Q X := by
  have hc : -(2 ^ 63) ≤ (n : Int) ∧ (n : Int) < 2 ^ 63 ∧ [d].length * (n : Int).toNat ≤ sizeLine := ⟨by omega, by omega, by simpa using sizeLine_le h⟩
  have e : oMul (.lst [d]) (.int (n : Int)) = .new .l (.lst (List.replicate n d)) := by
    simp only [oMul, if_pos hc]
    simp only [Int.toNat_natCast, List.flatten_replicate_singleton]
  rw [e]; with_unfolding_all exact hq
theorem nL_rep {n k : Nat} : nL (List.replicate n k) = List.replicate n (nD k) := List.map_replicate
end VL
namespace VL
open PySem PySem.Spec PyProof.Rows L2
theorem atI_0 {α : Type} {l : List α} : atI l 0 = l[0]? := atI_of (by decide)
theorem atI_1 {α : Type} {l : List α} : atI l 1 = l[1]? := atI_of (by decide)
theorem atI_2 {α : Type} {l : List α} : atI l 2 = l[2]? := atI_of (by decide)
theorem atI_3 {α : Type} {l : List α} : atI l 3 = l[3]? := atI_of (by decide)
theorem atI_4 {α : Type} {l : List α} : atI l 4 = l[4]? := atI_of (by decide)
theorem MW_le {n k : Nat} {m : D} (h : MW n m) (hk : n ≤ k) : MW k m := by
  obtain ⟨cs, i, ls, e, h⟩ := h; with_unfolding_all exact ⟨cs, i, ls, e, by omega⟩
/-- t * k, a tuple of one -/
theorem w_rept {env : Env} {Q : TV → Env → Prop} {X : Exn → Env → Prop} {d : D} {n : Nat} (h1 : 1 ≤ n) (h : n ≤ 1000) (hq : Q (.fz (.tup (List.replicate n d))) env) : WR (fin (oMul (.tup [d]) (.int (n : Int))) env) Q X := by
  have e : oMul (.tup [d]) (.int (n : Int)) = .val (.tup (List.replicate n d)) := by
    unfold oMul
    dsimp only
    by_cases h0 : n = 1
    · subst h0; rfl
    · have hc : [d] ≠ [] ∧ 2 ≤ (n : Int) ∧ (n : Int) ≤ 1000 ∧ [d].length ≤ 1000 := ⟨by simp, by omega, by omega, by simp⟩
      rw [if_neg (by omega), if_pos hc]
      simp only [Int.toNat_natCast, List.flatten_replicate_singleton]
  rw [e]; with_unfolding_all exact hq
end VL
namespace VL
open PySem PySem.Spec PyProof.Rows L2
/-! loops over a list, by place -/
theorem forL_ix {nr : List (Nat × Bool)} {gd : D → Env → Option Env} {body : SM} {N B C : Env → Prop} {T : TV → Env → Prop} {X : Exn → Env → Prop} (xs : List D) (I : Nat → Env → Prop)
    (hs : ∀ i d env, xs[i]? = some d → I i env → GO (gd d env) fun e1 => WS (body e1) (fun e => I (i + 1) (nrm nr e)) T N (fun e => I (i + 1) (nrm nr e)) X) (he : ∀ env, I xs.length env → N env) (env : Env) (h0 : I 0 env) :
    WS (forL nr gd body xs env) N T B C X := by
  refine forL_inv (fun items env => ∃ i, i ≤ xs.length ∧ items = xs.drop i ∧ I i env) ?_ ?_ xs env ⟨0, Nat.zero_le _, rfl, h0⟩
  · rintro d ds env ⟨i, hi, e, h⟩
    have hlt : i < xs.length := by
      rcases Nat.lt_or_ge i xs.length with h | h
      · with_unfolding_all exact h
      · rw [List.drop_of_length_le h] at e; cases e
    rw [List.drop_eq_getElem_cons hlt] at e
    cases e
    obtain ⟨e1, hg, hw⟩ := go_iff.1 (hs i _ env (List.getElem?_eq_getElem hlt) h)
    with_unfolding_all exact go_iff.2 ⟨e1, hg, hw.mono (fun e h => ⟨i + 1, hlt, rfl, h⟩) (fun _ _ h => h) (fun _ h => h) (fun e h => ⟨i + 1, hlt, rfl, h⟩) fun _ _ h => h⟩
  · rintro env ⟨i, hi, e, h⟩
    have : i = xs.length := by
      have := congrArg List.length e
      rw [List.length_drop] at this
      simp at this; omega
    with_unfolding_all exact he env (this ▸ h)
/-! kinds of values -/
def dTup : D → Bool
  | .tup _ => true
  | _ => false
def dInt : D → Bool
  | .int _ => true
  | _ => false
def dBl : D → Bool
  | .bl _ => true
  | _ => false
theorem isi_tup {d : D} (h : tyN d ≠ none) : oIsi [d, .ty "tuple"] = .val (.bl (dTup d)) := by
  cases d <;> first | rfl | with_unfolding_all exact absurd rfl h
theorem isi_int {d : D} (h : tyN d ≠ none) : oIsi [d, .ty "int"] = .val (.bl (dInt d || dBl d)) := by
  cases d <;> first | rfl | with_unfolding_all exact absurd rfl h
theorem isi_bl {d : D} (h : tyN d ≠ none) : oIsi [d, .ty "bool"] = .val (.bl (dBl d)) := by
  cases d <;> first | rfl | with_unfolding_all exact absurd rfl h
/-- a nice row, a nice thing: of the usual kinds -/
def Nr (d : D) : Prop := tyN d ≠ none ∧ ∀ xs, d = .tup xs → ∀ x ∈ xs, tyN x ≠ none
def Nice (d : D) : Prop := tyN d ≠ none ∧ ∀ rows, d = .tup rows → ∀ r ∈ rows, Nr r
theorem tyN_int {i : Int} : tyN (.int i) ≠ none := by simp [tyN]
theorem Nr_tup {xs : List D} (h : ∀ x ∈ xs, tyN x ≠ none) : Nr (.tup xs) := ⟨by simp [tyN], fun ys e => by cases e; with_unfolding_all exact h⟩
theorem Nr_row {r : List Nat} : Nr (rowD r) := Nr_tup fun x hx => by
  obtain ⟨_, _, rfl⟩ := List.mem_map.1 hx; with_unfolding_all exact tyN_int
theorem Nice_tup {xs : List D} (h : ∀ x ∈ xs, Nr x) : Nice (.tup xs) := ⟨by simp [tyN], fun ys e => by cases e; with_unfolding_all exact h⟩
theorem Nice_tab {t : List (List Nat)} : Nice (tabD t) := Nice_tup fun x hx => by
  obtain ⟨_, _, rfl⟩ := List.mem_map.1 hx; with_unfolding_all exact Nr_row
theorem Nr_nt {d : D} (h : tyN d ≠ none) (h2 : dTup d = false) : Nr d := ⟨h, fun xs e => by subst e; cases h2⟩
theorem Nice_nt {d : D} (h : tyN d ≠ none) (h2 : dTup d = false) : Nice d := ⟨h, fun xs e => by subst e; cases h2⟩
end VL
namespace VL
open PySem PySem.Spec PyProof.Rows L2
theorem wr_comp_mapD {env : Env} {own : List Nat} {gd : D → Env → Option Env} {fe : M TV} {X : Exn → Env → Prop} {Q : List D → Env → Prop} (h : D → D) {xs : List D} (ho : ownOk own env = true) (hs : ∀ x, x ∈ xs → GO (gd x (wipeE own env)) fun e1 => WR (fe e1) (fun t e3 => GF1 t fun y => y = h x ∧ restE own env e3 = env) (fun _ _ => False)) (hq : Q (xs.map h) env) :
    WR (compL gd (fun env => .ok true env) fe own xs env) Q X := by
  have e := compL_map (gd := gd) (fe := fe) (own := own) (env := env) (fun d : D => d) h xs ho hs
  rw [List.map_id'] at e
  rw [e]; with_unfolding_all exact hq
theorem cut_lo1 {α : Type} {xs : List α} {k : Nat} : cutL xs (some ((k : Int) + 1)) none = xs.drop (k + 1) := cut_lo (k := k + 1)
theorem cut_lo_1 {α : Type} {xs : List α} : cutL xs (some 1) none = xs.drop 1 := cut_lo (k := 1)
theorem cut_hi_1 {α : Type} {xs : List α} : cutL xs none (some 1) = xs.take 1 := cut_hi (k := 1)
theorem cut_hi1 {α : Type} {xs : List α} {k : Nat} : cutL xs none (some ((k : Int) + 1)) = xs.take (k + 1) := cut_hi (k := k + 1)
theorem putIx_l {xs : List D} {v : D} {j : Nat} (h : j < xs.length) : putIx .l (.lst xs) (nD j) v = some (.lst (xs.set j v)) := by
  simp only [putIx, ixN_nat h]
end VL
namespace VL
theorem nc_eq {a b : Nat} : ((a : Int) = (b : Int)) ↔ a = b := ⟨fun h => by omega, fun h => by omega⟩
end VL
namespace VL
open PySem PySem.Spec PyProof.Rows L2
theorem allBl_map {α : Type} {p : α → Bool} : ∀ {xs : List α}, allBl (xs.map fun x => D.bl (p x)) = some (xs.map p)
  | [] => rfl
  | x :: xs => by rw [List.map_cons, allBl, allBl_map]; rfl
theorem o_all {α : Type} {p : α → Bool} {xs : List α} : oAll [.lst (xs.map fun x => D.bl (p x))] = .val (.bl (xs.all p)) := by
  simp only [oAll, allBl_map]
  congr 2
  induction xs with
  | nil => rfl
  | cons x xs ih => simp only [List.map_cons, List.all_cons, ih, id]
theorem o_any {α : Type} {p : α → Bool} {xs : List α} : oAny [.lst (xs.map fun x => D.bl (p x))] = .val (.bl (xs.any p)) := by
  simp only [oAny, allBl_map]
  congr 2
  induction xs with
  | nil => rfl
  | cons x xs ih => simp only [List.map_cons, List.any_cons, ih, id]
/-! dicts with numbers as keys -/
abbrev kN (k : Nat) : DK := .inl (.inl (k : Int))
theorem kN_inj {a b : Nat} : (kN a = kN b) ↔ a = b := by
  constructor
  · intro h
    simp only [kN, Sum.inl.injEq] at h
    omega
  · intro h; rw [h]
theorem dHas_kN {ks : List Nat} {x : Nat} : dHas (ks.map kN) (kN x) = decide (x ∈ ks) := by
  unfold dHas
  induction ks with
  | nil => rfl
  | cons k ks ih =>
    rw [List.map_cons, List.any_cons, ih]
    by_cases h : k = x
    · subst h; simp
    · have h2 : ¬ x = k := fun z => h z.symm
      have h3 : ¬ kN k = kN x := fun z => h (kN_inj.1 z)
      rw [decide_eq_false h3]
      simp [h2]
theorem dPutK_kN {ks : List Nat} {vs : List D} {x : Nat} {d : D} : (dPutK (ks.map kN) vs (.inl (.inl (x : Int))) d).1 = (M0.putNew ks x).map kN := by
  unfold dPutK M0.putNew
  dsimp only
  rw [show (Sum.inl (Sum.inl (x : Int)) : DK) = kN x from rfl, dHas_kN]
  by_cases h : x ∈ ks
  · rw [decide_eq_true h, if_pos rfl, if_pos h]
  · rw [decide_eq_false h, if_neg (by decide), if_neg h, List.map_append]; rfl
theorem kOf_int {i : Int} : kOf (.int i) = some (.inl i) := rfl
theorem dkOf_int {i : Int} : dkOf (.int i) = some (.inl (.inl i)) := rfl
theorem dkD_kN {ks : List Nat} : (ks.map kN).map dkD = nL ks := by
  rw [List.map_map]; rfl
theorem colD_kN {ks : List Nat} {vs : List D} : colD (.dct (ks.map kN) vs) = some (nL ks) := by
  show some ((ks.map kN).map dkD) = _
  rw [dkD_kN]
theorem allK_kN : ∀ {ks : List Nat}, allK (ks.map kN) = true
  | [] => rfl
  | _ :: ks => allK_kN (ks := ks)
theorem dLook_kN : ∀ {ks : List Nat} {vs : List D} {x : Nat}, ks.length = vs.length → (dLook (ks.map kN) vs (kN x)).isSome = decide (x ∈ ks)
  | [], _, _, _ => rfl
  | k :: ks, [], _, h => by cases h
  | k :: ks, v :: vs, x, h => by
    rw [List.map_cons, dLook]
    by_cases h1 : k = x
    · subst h1; rw [if_pos rfl]; simp
    · have h2 : ¬ x = k := fun z => h1 z.symm
      rw [if_neg fun z => h1 (kN_inj.1 z), dLook_kN (by simpa using h)]
      simp [h2]
theorem inD_kN {b : Bool} {ks : List Nat} {vs : List D} {x : Nat} (h : ks.length = vs.length) : inD b (nD x) (.dct (ks.map kN) vs) = .val (.bl (b != decide (x ∈ ks))) := by
  show (match dkOf (nD x) with
    | some k => if kFits (ks.map kN) k then ORes.val (.bl (b != (dLook (ks.map kN) vs k).isSome)) else ORes.stuck
    | none => ORes.stuck) = _
  rw [show dkOf (nD x) = some (kN x) from rfl]
  dsimp only
  rw [show kFits (ks.map kN) (kN x) = true from allK_kN, if_pos rfl, dLook_kN h]
/-! sorting numbers -/
theorem alike_int {i j : Int} : PySem.W.alike (.int i) (.int j) = true := by
  first | rfl | decide | simp [PySem.W.alike]
theorem sortOk_nL {xs : List Nat} : sortOk (nL xs) = true := by
  unfold sortOk
  rw [pls_nL]
  simp only [Bool.true_and, Bool.and_eq_true, Bool.or_eq_true, List.all_eq_true]
  refine ⟨fun d hd e he => ?_, .inr fun d hd => ?_⟩
  · obtain ⟨_, _, rfl⟩ := List.mem_map.1 hd
    obtain ⟨_, _, rfl⟩ := List.mem_map.1 he
    exact alike_int
  · obtain ⟨_, _, rfl⟩ := List.mem_map.1 hd
    rfl
theorem o_sort {d : D} {xs : List Nat} (h : colD d = some (nL xs)) : oSorted [d] = .new .l (.lst (nL (xs.mergeSort fun a b => decide (a ≤ b)))) := by
  simp only [oSorted, h]
  rw [if_pos sortOk_nL, srt_nL]
theorem o_sortt {xs : List Nat} : oSorted [.tup (nL xs)] = .new .l (.lst (nL (xs.mergeSort fun a b => decide (a ≤ b)))) := o_sort rfl
theorem o_sortd {xs : List Nat} {vs : List D} : oSorted [.dct (xs.map kN) vs] = .new .l (.lst (nL (xs.mergeSort fun a b => decide (a ≤ b)))) := o_sort colD_kN
theorem immL_nL : ∀ {xs : List Nat}, immL (nL xs) = true
  | [] => rfl
  | _ :: xs => immL_nL (xs := xs)
theorem immIn_nL {xs : List Nat} : immIn (.lst (nL xs)) = true := immL_nL
end VL
namespace VL
open PySem PySem.Spec PyProof.Rows L2
theorem putIx_kN {ks : List Nat} {vs : List D} {x : Nat} {d : D} (h : x ∉ ks) (hl : ks.length < 16777216) : putIx .dk (.dct (ks.map kN) vs) (nD x) d = some (.dct ((ks ++ [x]).map kN) (vs ++ [d])) := by
  unfold putIx
  dsimp only
  rw [show kOf (nD x) = some (.inl (x : Int)) from rfl]
  dsimp only
  rw [if_pos (by rw [List.length_map]; exact sizeLine_lt hl), show (Sum.inl (Sum.inl (x : Int)) : DK) = kN x from rfl, dHas_kN, decide_eq_false h, if_neg (by decide), if_neg (by decide), List.map_append]
  rfl
theorem nL_concat {xs : List Nat} {x : Nat} : nL (xs ++ [x]) = nL xs ++ [nD x] := List.map_append
end VL
namespace VL
open PySem PySem.Spec PyProof.Rows L2
theorem wr_comp_fmD {env : Env} {own : List Nat} {gd : D → Env → Option Env} {fe : M TV} {X : Exn → Env → Prop} {Q : List D → Env → Prop} {ft : M Bool} (g : D → Option D) {xs : List D} (ho : ownOk own env = true) (hs : ∀ x, x ∈ xs → GO (gd x (wipeE own env)) fun e1 => WR (ft e1) (fun b e2 => IFB b (WR (fe e2) (fun t e3 => GF1 t fun y => g x = some y ∧ restE own env e3 = env) (fun _ _ => False)) (g x = none ∧ restE own env e2 = env)) (fun _ _ => False)) (hq : Q (xs.filterMap g) env) :
    WR (compL gd ft fe own xs env) Q X := by
  have e := wr_comp_fm (gd := gd) (fe := fe) (own := own) (env := env) (ft := ft) (X := X) (Q := Q) (fun d : D => d) g ho hs hq
  rw [List.map_id'] at e
  exact e
theorem eq_range {n : Nat} {xs : List Nat} (h : xs.length = n) : xs = List.range n ↔ ∀ a, a < n → xs.getD a 0 = a := by
  constructor
  · intro e a ha
    rw [M0.getD_lt (by omega)]
    subst e
    simp
  · intro hg
    refine List.ext_getElem (by rw [List.length_range]; exact h) fun i h1 h2 => ?_
    have := hg i (by omega)
    rw [M0.getD_lt h1] at this
    rw [this]; simp
theorem eq_rows {n : Nat} {xs ys : List Nat} (h : xs.length = n) (h' : ys.length = n) : xs = ys ↔ ∀ a, a < n → xs.getD a 0 = ys.getD a 0 := by
  constructor
  · intro e a ha; rw [e]
  · intro hg
    refine List.ext_getElem (by omega) fun i h1 h2 => ?_
    have := hg i (by omega)
    rwa [M0.getD_lt h1, M0.getD_lt h2] at this
end VL
namespace VL
open PySem PySem.Spec PyProof.Rows L2
/-! texts: how long, and of right signs -/
structure TX (k : Nat) (x : Str) : Prop where
  len : x.length ≤ k
  ok : PyData.strOk x = true
theorem strOk_app {x y : Str} : PyData.strOk (x ++ y) = (PyData.strOk x && PyData.strOk y) := by
  show (x.cps ++ y.cps).all _ = _
  unfold PyData.strOk
  with_unfolding_all exact Array.all_append
theorem TX.app {a b : Nat} {x y : Str} (h : TX a x) (h' : TX b y) : TX (a + b) (x ++ y) :=
  ⟨by rw [strLen_append]; have := h.len; have := h'.len; omega, by rw [strOk_app, h.ok, h'.ok]; rfl⟩
theorem TX.le {a b : Nat} {x : Str} (h : TX a x) (hl : a ≤ b) : TX b x := ⟨Nat.le_trans h.len hl, h.ok⟩
theorem TX.join {k : Nat} : ∀ {ts : List Str}, (∀ t ∈ ts, TX k t) → TX (ts.length * (k + 2)) (Str.join ", " ts)
  | [], _ => ⟨Nat.zero_le _, by decide +kernel⟩
  | [x], h => (h x List.mem_cons_self).le (by simp)
  | x :: y :: r, h => by
    have ih := TX.join (ts := y :: r) fun t z => h t (List.mem_cons_of_mem _ z)
    have hx := h x List.mem_cons_self
    have hc : TX 2 ((", " : String) : Str) := ⟨by decide +kernel, by decide +kernel⟩
    show TX _ (x ++ ", " ++ Str.join ", " (y :: r))
    refine ((hx.app hc).app ih).le ?_
    simp only [List.length_cons]
    have : (r.length + 1 + 1) * (k + 2) = (r.length + 1) * (k + 2) + (k + 2) := Nat.succ_mul _ _
    omega
theorem TX.tuple {k : Nat} {ts : List Str} (h : ∀ t ∈ ts, TX k t) : TX (ts.length * (k + 2) + 4) (tupleText ts) := by
  unfold tupleText
  have h1 : TX 1 ((("(" : String) : Str)) := ⟨by decide +kernel, by decide +kernel⟩
  have h2 : TX 2 (((if ts.length == 1 then ",)" else ")" : String) : Str)) := by split <;> with_unfolding_all exact ⟨by decide +kernel, by decide +kernel⟩
  with_unfolding_all exact ((h1.app (TX.join h)).app h2).le (by omega)
theorem shownAll_map : ∀ {ds : List PyData}, PyData.shownAll ds = ds.map PyData.shown
  | [] => by simp only [PyData.shownAll, List.map_nil]
  | d :: ds => by simp only [PyData.shownAll, List.map_cons, shownAll_map]
theorem toPs_mapT : ∀ {ds : List D}, toPs ds = ds.map toP
  | [] => by simp only [toPs, List.map_nil]
  | d :: ds => by simp only [toPs, List.map_cons, toPs_mapT]
theorem showAll_all : ∀ {ds : List PyData}, PyData.showableAll ds = ds.all PyData.showable
  | [] => by simp only [PyData.showableAll, List.all_nil]
  | d :: ds => by simp only [PyData.showableAll, List.all_cons, showAll_all]
theorem tx_int {i : Nat} (h : i < 100) : TX 2 (PyData.shown (.int (i : Int))) := by
  have key : ∀ j, j < 100 → (decide ((PyData.shown (.int ((j : Nat) : Int))).length ≤ 2) && PyData.strOk (PyData.shown (.int ((j : Nat) : Int)))) = true := by decide +kernel
  have := key i h
  rw [Bool.and_eq_true, decide_eq_true_eq] at this
  with_unfolding_all exact ⟨this.1, this.2⟩
theorem tx_tup {k n : Nat} {ds : List D} (h : ∀ d ∈ ds, TX k (toP d).shown) (hn : ds.length ≤ n) : TX (n * (k + 2) + 4) (toP (.tup ds)).shown := by
  have e : (toP (.tup ds)).shown = tupleText (ds.map fun d => (toP d).shown) := by
    simp only [toP, PyData.shown, shownAll_map, toPs_mapT, List.map_map]
    rfl
  rw [e]
  refine (TX.tuple (k := k) fun t ht => ?_).le ?_
  · obtain ⟨d, hd, rfl⟩ := List.mem_map.1 ht
    with_unfolding_all exact h d hd
  · rw [List.length_map]
    have := Nat.mul_le_mul_right (k + 2) hn
    omega
theorem sh_tup {ds : List D} (h : ∀ d ∈ ds, (toP d).showable = true) : (toP (.tup ds)).showable = true := by
  simp only [toP, PyData.showable, showAll_all, toPs_mapT, List.all_map, List.all_eq_true]
  with_unfolding_all exact h
theorem sh_int {i : Int} (h : i.natAbs < 2 ^ 200) : (toP (.int i)).showable = true := by
  simp only [toP, PyData.showable, decide_eq_true_eq]
  have := log_le h (by decide)
  omega
end VL
namespace VL
open PySem PySem.Spec PyProof.Rows L2
theorem pl_str {n : Nat} {x : Str} : pl n (.str x) = PyData.strOk x := by cases n <;> rfl
theorem deq_str {x : Str} : deq (.str x) (.str x) = true := by
  show (x == x) = true
  with_unfolding_all exact beq_self_eq_true x
end VL
namespace VL
open PySem PySem.Spec PyProof.Rows L2
theorem w_begun {f1 f2 f3 : M TV} {env : Env} {QV : TV → Env → Prop} {X : Exn → Env → Prop} : WR (cBegun f1 f2 f3 env) QV X ↔ WR (f1 env) (fun t1 e1 => OWL t1 fun cd => WR (f2 e1) (fun t2 e2 => FZ t2 fun d => INT d fun i => WR (f3 e2) (fun t3 e3 => OWL t3 fun ld => QV (.ow .m (mD cd i ld)) e3) fun _ _ => False) fun _ _ => False) fun _ _ => False := by
  unfold cBegun
  rw [wr_bindN]
  cases f1 env with
  | ok t1 e1 =>
    rw [wr_ok, wr_ok]
    cases t1 with
    | ow κ d =>
      cases κ with
      | l =>
        cases d with
        | lst cd =>
          rw [owl_]
          dsimp only
          rw [wr_bindN]
          cases f2 e1 with
          | ok t2 e2 =>
            rw [wr_ok, wr_ok]
            cases t2 with
            | fz d =>
              cases d with
              | int i =>
                rw [fz_, int_]
                dsimp only
                rw [wr_bindN]
                cases f3 e2 with
                | ok t3 e3 =>
                  rw [wr_ok, wr_ok]
                  cases t3 with
                  | ow κ d =>
                    cases κ with
                    | l => cases d <;> with_unfolding_all exact Iff.rfl
                    | _ => with_unfolding_all exact Iff.rfl
                  | _ => with_unfolding_all exact Iff.rfl
                | _ => with_unfolding_all exact Iff.rfl
              | _ => with_unfolding_all exact Iff.rfl
            | _ => with_unfolding_all exact Iff.rfl
          | _ => with_unfolding_all exact Iff.rfl
        | _ => with_unfolding_all exact Iff.rfl
      | _ => with_unfolding_all exact Iff.rfl
    | _ => with_unfolding_all exact Iff.rfl
  | _ => with_unfolding_all exact Iff.rfl
theorem o_1018 : oPow (.int 10) (.int 18) = .val (.int 1000000000000000000) := by rfl
end VL
namespace VL
open PySem PySem.Spec PyProof.Rows L2
variable [tt : TabList]
/-! several except clauses, with names or without -/
abbrev Cl := Value × Option Nat × (Addr → Value → Option Addr → TS)
def endsNo (j : Nat) (D : Ends) : Ends := { nx := fun ρ G => D.nx (ρ.set j none) G, rt := D.rt, bk := fun ρ G => D.bk (ρ.set j none) G, ct := fun ρ G => D.ct (ρ.set j none) G }
def clGo (j : Option Nat) (ts : Addr → Value → Option Addr → TS) (D : Ends) (cls : Value) (d : Option Addr) (ρ : L2.St) (G : Hp) : Prop := ∀ a, G a = none → match j with
  | none => ts a cls d D ρ G
  | some j => ts a cls d (endsNo j D) (ρ.set j (some (.ref a))) G
def wTrys (K : PySem.W.Frag) (W : WX) (D : Ends) : List Cl → WX
  | [] => W
  | (c, j, ts) :: r => fun cls d ρ G => ∃ b, PySem.W.exmOne K cls c = some b ∧ (b = true → clGo j ts D cls d ρ G) ∧ (b = false → wTrys K W D r cls d ρ G)
inductive Cls (X : Cx) : List ExceptHandler → List Cl → Prop
  | nil : Cls X [] []
  | no {x : Str} {c : Value} {ts : Addr → Value → Option Addr → TS} {st : Stmt} {sts : List Stmt} {np ps : Pos} {hds : List ExceptHandler} {l : List Cl} : Names X x c →
      (∀ (a : Addr) (ob : Obj) (cls : Value) (d : Option Addr) (pn : List (Addr × Obj)), Zc cls d ob → (∃ fs, ob.data = .fields fs) → PSs (X.suite a ((a, ob) :: pn)) (st :: sts) (ts a cls d)) → Cls X hds l →
      Cls X (.ExceptHandler (some (.Name x np)) none (st :: sts) ps :: hds) ((c, none, ts) :: l)
  | as {x n : Str} {j : Nat} {c : Value} {ts : Addr → Value → Option Addr → TS} {st : Stmt} {sts : List Stmt} {np ps : Pos} {hds : List ExceptHandler} {l : List Cl} : Names X x c → X.N[j]? = some n → X.env.kindOf n = some .local →
      (∀ (a : Addr) (ob : Obj) (cls : Value) (d : Option Addr) (pn : List (Addr × Obj)), Zc cls d ob → (∃ fs, ob.data = .fields fs) → PSs (X.suite a ((a, ob) :: pn)) (st :: sts) (ts a cls d)) → Cls X hds l →
      Cls X (.ExceptHandler (some (.Name x np)) (some n) (st :: sts) ps :: hds) ((c, some j, ts) :: l)
section
variable {X : Cx} {body : List Stmt} {hd₀ : ExceptHandler} {hds₀ : List ExceptHandler} {l₀ : List Cl} {pos : Pos} {tb : WX → TS} {W : WX}
theorem ps_trys (hst : X.stack = X.env :: X.outer) (hfr : X.env.frame = some X.env.locals) (nd : X.N.Nodup) (tk : Takes X W)
    (hbo : ∀ (W' : WX) (pn : List (Addr × Obj)) (xe : Value → Shared → Prop), Takes (X.tr pn xe) W' → PSs (X.tr pn xe) body (tb W'))
    (hcl : Cls X (hd₀ :: hds₀) l₀) : PS X (.Try body (hd₀ :: hds₀) [] [] pos) (fun D σ H => tb (wTrys X.K W D l₀) D σ H) := by
  refine ⟨fun pins s σ H D I h => ?_⟩
  have okX := I.ok
  have fra : X.A.frames = some (X.env :: X.outer) := okX.frames.trans (congrArg some hst)
  refine wpAny_Try_except (wpAny_mono ((hbo (wTrys X.K W D l₀) (X.pn ++ pins) (fun e t1 => wpAny (model X.prog X.w) X.A (noteFrame e X.env) (fun _ t2 => wpAny (model X.prog X.w) X.A (setFlight e none) (fun _ t3 => wpAny (model X.prog X.w) X.A (handleBy e X.env (hd₀ :: hds₀)) (SP X pins D) X.xe t3) X.xe t2) X.xe t1) fun u t xx => ?_).run [] s σ H D (I.toTry _) h) (fun f t1 hsp => ?_) fun e t1 he => he)
  · obtain ⟨a, B, sJ, pins2, ρ, G, cls, d, rfl, Jt, nb, up, sky, na, hos, ag, w⟩ := xx
    have J : Inv X pins ρ G sJ := Jt.ofTry okX
    have sky2 : Sky B (X.env :: X.outer) a (Zc cls d) X.env.locals t.heap := hst ▸ sky
    show wpAny (model X.prog X.w) X.A (noteFrame (.ref a) X.env) _ _ _
    refine Sky.land Zc.steady fra hfr sky2 fun g3 fl upg => ?_
    have Jg : Inv X pins ρ G { t with heap := g3 } := J.landed nb fl.1 (up.trans upg) hos ag
    obtain ⟨ob, fs, hob, zob, dob⟩ := fl.there
    have aNo : a ∉ frs (X.env :: X.outer) := fun hm => by
      obtain ⟨_, o2, e2, nf⟩ := fl.2.2.1.mem hm
      cases hob.symm.trans e2
      exact nf _ dob
    have aL : a ≠ X.env.locals := fun z => aNo (List.mem_filterMap.mpr ⟨X.env, List.mem_cons_self, z ▸ hfr⟩)
    have aF : a ∉ X.fs := fun hm => by
      obtain ⟨e, he, q⟩ := List.mem_filterMap.mp hm
      exact aNo (List.mem_filterMap.mpr ⟨e, .tail _ he, q⟩)
    have Sg := Jg.suite hob dob na aL aF
    have tyA : PySem.W.Looks (model X.prog X.w) g3 (typeOf (.ref a)) cls := fun _ _ _ _ k q => wpAny_typeOf_ref (k _ _ hob) (zob.1.symm ▸ q)
    have nameIs : ∀ {x : Str} {c : Value} {np : Pos}, Names X x c → ∀ {Q E : Value → Shared → Prop}, Q c { t with heap := g3 } →
        wpAny (model X.prog X.w) (X.A.mark (some (.ref a))) (eval (.Name x np) X.env) Q E { t with heap := g3 } := fun {x c np} nm {Q E} q =>
      match nm with
      | ⟨n1, n2, .inl n3⟩ => ld_glob (X := X.suite a ((a, ob) :: (X.pn ++ pins))) Sg n1 n3 q n2
      | ⟨n1, n2, .inr ⟨n3, n4, n5⟩⟩ => ld_blt (X := X.suite a ((a, ob) :: (X.pn ++ pins))) Sg n1 n3 n4 q n5 n2
    have walk : ∀ {hs : List ExceptHandler} {l : List Cl}, Cls X hs l → wTrys X.K W D l cls d ρ G → wpAny (model X.prog X.w) X.A (handleBy (.ref a) X.env hs) (SP X pins D) X.xe { t with heap := g3 } := by
      intro hs l hk
      induction hk with
      | nil =>
        intro wo
        refine wpAny_handleBy_nil ?_
        obtain ⟨_, _, _, _, _, Tr, _, _, hx, _, dx, h1x, _⟩ := id fl
        unfold PySem.passOn
        refine wpAny_bind (wpAny_field hx dx h1x ?_)
        rw [if_neg (show (Value.ref Tr == Value.none) ≠ true from by simp)]
        have away : wpAny (model X.prog X.w) X.A (setFlight (.ref a) X.env.frame) (fun _ t4 => wpAny (model X.prog X.w) X.A (throw (.ref a) : Sem Flow) (SP X pins D) X.xe t4) X.xe { t with heap := g3 } := hfr.symm ▸
          HandSPX.setFlight_upZ fl fun g4 sky4 up4 => wpAny_throw (tk _ _ ⟨a, B, sJ, pins, ρ, G, cls, d, rfl, J, nb, (up.trans upg).trans up4, .inr (.inr (hst.symm ▸ sky4)), na, hos, ag, wo⟩)
        first
          | exact wpAny_bind (wpAny_pure (wpAny_bind away))
          | exact wpAny_bind away
      | @no x c ts st sts np ps hds l nm su _ ih =>
        rintro ⟨b, eb, yes, nope⟩
        refine wpAny_handleBy_cons (codeAny_handlers_test (nameIs nm ((PySem.W.exm_one (M := model X.prog X.w) Jg.kIn tyA eb).here ?_))) (fun z => nomatch z)
        cases b with
        | false => exact ih (nope rfl)
        | true =>
          refine codeAny_handlers_suite (HandSPX.lands_againZ fl fun g4 fl4 up4 => ?_)
          obtain ⟨ob4, fs4, hob4, zob4, dob4⟩ := fl4.there
          have S4 := (J.landed nb fl4.1 ((up.trans upg).trans up4) hos ag : Inv X pins ρ G { t with heap := g4 }).suite hob4 dob4 na aL aF
          refine wpAny_mono ((su a ob4 cls d (X.pn ++ pins) zob4 ⟨_, dob4⟩).run [] _ _ G _ S4 (yes rfl a na)) (fun f t6 q6 => ?_) (fun _ _ z => False.elim z)
          cases f with
          | next => exact let ⟨_, _, S6, z⟩ := q6; ⟨_, _, S6.unsuite okX, z⟩
          | brk => exact let ⟨_, _, S6, z⟩ := q6; ⟨_, _, S6.unsuite okX, z⟩
          | cont => exact let ⟨_, _, S6, z⟩ := q6; ⟨_, _, S6.unsuite okX, z⟩
          | ret u => exact let ⟨_, _, _, S6, r6, z⟩ := q6; ⟨_, _, _, S6.unsuite okX, r6, z⟩
      | @as x n j c ts st sts np ps hds l nm hj kn su _ ih =>
        rintro ⟨b, eb, yes, nope⟩
        refine wpAny_handleBy_cons (codeAny_handlers_test (nameIs nm ((PySem.W.exm_one (M := model X.prog X.w) Jg.kIn tyA eb).here ?_))) (fun z => nomatch z)
        cases b with
        | false => exact ih (nope rfl)
        | true =>
          refine codeAny_handlers_suite_as (HandSPX.lands_againZ fl fun g4 fl4 up4 => ?_)
          obtain ⟨ob4, fs4, hob4, zob4, dob4⟩ := fl4.there
          have S4 := (J.landed nb fl4.1 ((up.trans upg).trans up4) hos ag : Inv X pins ρ G { t with heap := g4 }).suite hob4 dob4 na aL aF
          refine store_ok (X := X.suite a ((a, ob4) :: (X.pn ++ pins))) (v := .ref a) S4 nd hj (.inl kn) rfl (fun t5 S5 => ?_) (.inr kn)
          refine wpAny_mono ((su a ob4 cls d (X.pn ++ pins) zob4 ⟨_, dob4⟩).run [] t5 _ G _ S5 (yes rfl a na)) (fun f t6 q6 => ?_) (fun _ _ z => False.elim z)
          have bye : ∀ {ρ6 : L2.St} {G6 : Hp} {Q : Shared → Prop}, Inv (X.suite a ((a, ob4) :: (X.pn ++ pins))) [] ρ6 G6 t6 → (∀ t7, Inv X pins (ρ6.set j none) G6 t7 → Q t7) →
              wpAny (model X.prog X.w) X.A (do bindName X.env n .none; unbindBehindTheSuite X.env n ps) (fun _ t7 => Q t7) X.xe t6 := fun S6 z => gone_ok (S6.unsuite okX) nd hj kn z
          cases f with
          | next => exact let ⟨_, _, S6, z⟩ := q6; bye S6 fun t7 J7 => ⟨_, _, J7, z⟩
          | brk => exact let ⟨_, _, S6, z⟩ := q6; bye S6 fun t7 J7 => ⟨_, _, J7, z⟩
          | cont => exact let ⟨_, _, S6, z⟩ := q6; bye S6 fun t7 J7 => ⟨_, _, J7, z⟩
          | ret u => exact let ⟨_, _, _, S6, r6, z⟩ := q6; bye S6 fun t7 J7 => ⟨_, _, _, J7, r6, z⟩
    exact walk hcl w
  · cases f with
    | next => exact let ⟨ρ, G, J, q⟩ := hsp; wpAny_execs_nil ⟨ρ, G, J.ofTry okX, q⟩
    | brk => exact let ⟨ρ, G, J, q⟩ := hsp; ⟨ρ, G, J.ofTry okX, q⟩
    | cont => exact let ⟨ρ, G, J, q⟩ := hsp; ⟨ρ, G, J.ofTry okX, q⟩
    | ret u => exact let ⟨v, ρ, G, J, r, q⟩ := hsp; ⟨v, ρ, G, J.ofTry okX, r, q⟩
end
abbrev CD := Option Nat × (Str → Option Bool) × (D → SM)
theorem R.gone {B : Bas} {E T : Addr → Prop} {io : Option V} {fp : Nat → Addr → Prop} {env : Env} {σ : L2.St} {H : Hp} {j : Nat} (r : R B E T io fp env σ H) (h : env[j]? = some .no) (h0 : j ≠ 0) : R B E T io fp env (σ.set j none) H :=
  ⟨by rw [List.length_set]; exact r.len, fun i sv x h1 h2 => by
    by_cases hi : j = i
    · subst hi
      rw [h] at h1; cases h1
      have hl : j < σ.length := by rw [← r.len]; exact (List.getElem?_eq_some_iff.mp h).1
      have q := r.slot j .no _ h (List.getElem?_eq_getElem hl)
      exact q
    · rw [List.getElem?_set_ne hi] at h2; exact r.slot i sv x h1 h2, r.out, r.dis, r.offT, r.all, r.new, fun v e => by rw [List.getElem?_set_ne h0]; exact r.io0 v e, r.old, r.hb, r.tabs⟩
/-- a named clause's suite: behind it the name is gone -/
def namedR (j : Nat) : SRes → SRes
  | .rt tv e => .rt tv e
  | .nx e => match e[j]? with
    | some .no => .nx e
    | _ => .stuck
  | _ => .stuck
def trysGo : List CD → Exn → Env → SRes
  | [], e, env => .ex e env
  | (j, m, fs) :: r, e, env => match m e.nm with
    | some true => match j with
      | none => noEx (fs e.arg env)
      | some j => if j < env.length ∧ j ≠ 0 then namedR j (fs e.arg (env.set j .no)) else .stuck
    | some false => trysGo r e env
    | none => .stuck
def sTrys (l : List CD) (fb : SM) : SM := fun env => match fb env with
  | .ex e env1 => trysGo l e env1
  | r => r
inductive DCls (X : Cx) (nio : Bool) : List ExceptHandler → List CD → Prop
  | nil : DCls X nio [] []
  | no {x : Str} {c : Value} {m : Str → Option Bool} {fs : D → SM} {st : Stmt} {sts : List Stmt} {np ps : Pos} {hds : List ExceptHandler} {l : List CD} : Names X x c → SuiteOk X nio none m (st :: sts) fs → MatchOk X c m → DCls X nio hds l →
      DCls X nio (.ExceptHandler (some (.Name x np)) none (st :: sts) ps :: hds) ((none, m, fs) :: l)
  | as {x n : Str} {j : Nat} {c : Value} {m : Str → Option Bool} {fs : D → SM} {st : Stmt} {sts : List Stmt} {np ps : Pos} {hds : List ExceptHandler} {l : List CD} : Names X x c → X.N[j]? = some n → X.env.kindOf n = some .local → SuiteOk X nio (some j) m (st :: sts) fs → MatchOk X c m → DCls X nio hds l →
      DCls X nio (.ExceptHandler (some (.Name x np)) (some n) (st :: sts) ps :: hds) ((some j, m, fs) :: l)
section
variable {X : Cx} {nio : Bool} {W : WX} {pos : Pos}
theorem DCls.out {hds : List ExceptHandler} {l : List CD} (h : DCls X nio hds l) : ∃ cl, Cls X hds cl ∧ ∀ (E T : Addr → Prop) (io : Option V) (env env1 : Env) (fp fp1 : Nat → Addr → Prop) (H H1 : Hp) (σ σ1 : L2.St) (D : Ends) (e : Exn) (cls : Value) (dx : Option Addr),
    NioOk nio io → Ext env fp H env1 fp1 H1 → R (bas X) E T io fp1 env1 σ1 H1 → ExR (bas X) H1 (avOf T fp1) e cls dx → OKS (bas X) E T io env fp H D W (trysGo l e env1) → wTrys X.K W D cl cls dx σ1 H1 := by
  induction h with
  | nil => exact ⟨[], .nil, fun E T io env env1 fp fp1 H H1 σ σ1 D e cls dx hn x1 r1 ex k => k cls dx σ1 fp1 H1 x1 r1 ex⟩
  | @no x c m fs st sts np ps hds l nm su mo _ ih =>
    obtain ⟨cl, hc, go⟩ := ih
    refine ⟨(c, none, tSuite (bas X) nio none m fs) :: cl, .no nm (fun a oe cls d pn hz hfl => su.pss a oe cls d pn hz hfl) hc, fun E T io env env1 fp fp1 H H1 σ σ1 D e cls dx hn x1 r1 ex k => ?_⟩
    obtain ⟨C, dd, v, c1, c2, c3, c4, c5⟩ := id ex
    unfold trysGo at k
    cases e2 : m e.nm with
    | none => simp only [e2] at k; exact k.elim
    | some b =>
      simp only [e2] at k
      refine ⟨b, by rw [c1]; exact mo e.nm C b c2 e2, fun hb a ha => ?_, fun hb => ?_⟩
      · subst hb
        exact ⟨E, T, io, env1, fp1, e, hn, r1, (fun _ z => nomatch z), ex, e2, oks_noEx (OKS.after x1 k)⟩
      · subst hb
        exact go E T io env env1 fp fp1 H H1 σ σ1 D e cls dx hn x1 r1 ex k
  | @as x n j c m fs st sts np ps hds l nm hj kn su mo _ ih =>
    obtain ⟨cl, hc, go⟩ := ih
    refine ⟨(c, some j, tSuite (bas X) nio (some j) m fs) :: cl, .as nm hj kn (fun a oe cls d pn hz hfl => su.pss a oe cls d pn hz hfl) hc, fun E T io env env1 fp fp1 H H1 σ σ1 D e cls dx hn x1 r1 ex k => ?_⟩
    obtain ⟨C, dd, v, c1, c2, c3, c4, c5⟩ := id ex
    unfold trysGo at k
    cases e2 : m e.nm with
    | none => simp only [e2] at k; exact k.elim
    | some b =>
      simp only [e2] at k
      refine ⟨b, by rw [c1]; exact mo e.nm C b c2 e2, fun hb a ha => ?_, fun hb => ?_⟩
      · subst hb
        simp only at k
        split at k
        · rename_i hc'
          obtain ⟨hi1, hi0⟩ := hc'
          have hl : j < σ1.length := by rw [← r1.len]; exact hi1
          have hav : ∀ a, avOf T (setF fp1 j fun _ => False) a → avOf T fp1 a := fun a z => by
            rcases z with z | ⟨i, z⟩
            · exact .inl z
            · by_cases hj : i = j
              · subst hj; rw [setF_same] at z; exact z.elim
              · rw [setF_ne hj] at z; exact .inr ⟨i, z⟩
          have r2 : R (bas X) E T io (setF fp1 j fun _ => False) (env1.set j .no) (σ1.set j (some (.ref a))) H1 := r1.put (T := T) (q := fun _ => False) (sv := .no) (x := some (.ref a)) hi1 (fun _ z => z) (fun a z => z.elim) (fun a z => z.elim) (fun a z => z.elim) (fun a z => z.elim) (fun a o _ e _ => e) (fun _ _ z => z) (fun a o e q => ⟨o, e, q⟩) (fun _ z => z) (by rw [List.length_set])
            (fun i hj => by rw [List.getElem?_set_ne (Ne.symm hj)]) (List.getElem?_set_self hl) (fun v' e => by rw [List.getElem?_set_ne hi0]; exact r1.io0 v' e) r1.hb (fun _ z => z)
          have x2 : Ext env1 fp1 H1 (env1.set j .no) (setF fp1 j fun _ => False) H1 := Ext.put (fun a z => z.elim) (fun a o _ e _ => e) (fun _ _ z => z) (fun a o e q => ⟨o, e, q⟩) fun _ z => z
          refine ⟨E, T, io, _, _, e, hn, r2, (fun i ei => by cases ei; exact List.getElem?_set_self hl), ⟨C, dd, v, c1, c2, c3, c4, c5.weak hav⟩, e2, ?_⟩
          have k := OKS.after (x1.trans x2) k
          cases q : fs e.arg (env1.set j .no) with
          | rt tv ev =>
            rw [q] at k
            cases tv <;> exact k
          | ex _ _ => rw [q] at k; exact k.elim
          | nx e2 =>
            rw [q] at k
            unfold namedR at k
            cases q2 : e2[j]? with
            | none => simp only [q2] at k; exact k.elim
            | some sv =>
              cases sv with
              | no =>
                simp only [q2] at k
                exact fun σ' fp' H' x r => k (σ'.set j none) fp' H' x (r.gone q2 hi0)
              | fz _ => simp only [q2] at k; exact k.elim
              | ow _ _ => simp only [q2] at k; exact k.elim
              | lk _ _ => simp only [q2] at k; exact k.elim
          | bk _ => rw [q] at k; exact k.elim
          | ct _ => rw [q] at k; exact k.elim
          | stuck => rw [q] at k; exact k.elim
        · exact k.elim
      · subst hb
        exact go E T io env env1 fp fp1 H H1 σ σ1 D e cls dx hn x1 r1 ex k
/-- try: body; several clauses -/
theorem ds_trys {body : List Stmt} {h₀ : ExceptHandler} {hds : List ExceptHandler} {l : List CD} {fb : SM} (hs : X.stack = X.env :: X.outer) (hf : X.env.frame = some X.env.locals) (hN : X.N.Nodup) (tk : Takes X W)
    (hb : ∀ (W : WX) (pn : List (Addr × Obj)) (xe : Value → Shared → Prop), Takes (X.tr pn xe) W → DSs (X.tr pn xe) W nio body fb) (hd : DCls X nio (h₀ :: hds) l) :
    DS X W nio (.Try body (h₀ :: hds) [] [] pos) (sTrys l fb) := by
  obtain ⟨cl, hc, go⟩ := hd.out (W := W)
  refine .mk ⟨_, ps_trys (tb := fun W => cS (bas X) W nio fb) hs hf hN tk (fun W pn xe t => hb W pn xe t) hc, fun E T io env fp σ H D hn r h => ?_⟩
  refine ⟨E, T, io, env, fp, hn, r, ?_⟩
  unfold sTrys at h
  cases e1 : fb env with
  | ex e env1 =>
    rw [e1] at h
    intro cls dx σ' fp' H' x1 r1 ex
    exact go E T io env env1 fp fp' H H' σ σ' D e cls dx hn x1 r1 ex h
  | stuck => rw [e1] at h; exact h
  | nx e => rw [e1] at h; exact h
  | rt tv e => rw [e1] at h; cases tv <;> exact h
  | bk e => rw [e1] at h; exact h
  | ct e => rw [e1] at h; exact h
end
/-! W -/
omit [tt : TabList] in
theorem ws_trys {N B C : Env → Prop} {T : TV → Env → Prop} {X : Exn → Env → Prop} {env : Env} {l : List CD} {fb : SM} : WS (sTrys l fb env) N T B C X ↔ WS (fb env) N T B C (fun x e => WS (trysGo l x e) N T B C X) := by
  unfold sTrys
  cases fb env <;> with_unfolding_all exact Iff.rfl
omit [tt : TabList] in
theorem ws_go0 {N B C : Env → Prop} {T : TV → Env → Prop} {X : Exn → Env → Prop} {env : Env} {e : Exn} : WS (trysGo [] e env) N T B C X ↔ X e env := by with_unfolding_all exact Iff.rfl
omit [tt : TabList] in
theorem ws_go1 {N B C : Env → Prop} {T : TV → Env → Prop} {X : Exn → Env → Prop} {env : Env} {e : Exn} {j : Nat} {m : Str → Option Bool} {fs : D → SM} {r : List CD} : WS (trysGo ((some j, m, fs) :: r) e env) N T B C X ↔
    GO (m e.nm) fun k => IFB k ((j < env.length ∧ j ≠ 0) ∧ WS (fs e.arg (env.set j .no)) (fun e2 => e2[j]? = some .no ∧ N e2) T (fun _ => False) (fun _ => False) fun _ _ => False) (WS (trysGo r e env) N T B C X) := by
  rw [trysGo]
  cases m e.nm with
  | none => with_unfolding_all exact Iff.rfl
  | some k =>
    cases k with
    | false => rw [go_some, ifb_f]
    | true =>
      rw [go_some, ifb_t]
      dsimp only
      by_cases h : j < env.length ∧ j ≠ 0
      · rw [if_pos h]
        refine Iff.trans ?_ (Iff.symm (and_iff_right h))
        cases fs e.arg (env.set j .no) with
        | nx e2 =>
          unfold namedR
          cases q : e2[j]? with
          | none => simp only [q]; exact ⟨fun z => by with_unfolding_all exact z.elim, fun z => by
              have z : e2[j]? = some .no ∧ N e2 := by with_unfolding_all exact z
              rw [q] at z; cases z.1⟩
          | some sv =>
            cases sv with
            | no => simp only [q]; exact ⟨fun z => by with_unfolding_all exact ⟨q, z⟩, fun z => by
                have z : e2[j]? = some .no ∧ N e2 := by with_unfolding_all exact z
                with_unfolding_all exact z.2⟩
            | fz _ => simp only [q]; exact ⟨fun z => by with_unfolding_all exact z.elim, fun z => by
                have z : e2[j]? = some .no ∧ N e2 := by with_unfolding_all exact z
                rw [q] at z; cases z.1⟩
            | ow _ _ => simp only [q]; exact ⟨fun z => by with_unfolding_all exact z.elim, fun z => by
                have z : e2[j]? = some .no ∧ N e2 := by with_unfolding_all exact z
                rw [q] at z; cases z.1⟩
            | lk _ _ => simp only [q]; exact ⟨fun z => by with_unfolding_all exact z.elim, fun z => by
                have z : e2[j]? = some .no ∧ N e2 := by with_unfolding_all exact z
                rw [q] at z; cases z.1⟩
        | rt _ _ => with_unfolding_all exact Iff.rfl
        | ex _ _ => with_unfolding_all exact Iff.rfl
        | bk _ => with_unfolding_all exact Iff.rfl
        | ct _ => with_unfolding_all exact Iff.rfl
        | stuck => with_unfolding_all exact Iff.rfl
      · rw [if_neg h]; exact ⟨fun z => by with_unfolding_all exact z.elim, fun z => absurd z.1 h⟩
omit [tt : TabList] in
theorem ws_go2 {N B C : Env → Prop} {T : TV → Env → Prop} {X : Exn → Env → Prop} {env : Env} {e : Exn} {m : Str → Option Bool} {fs : D → SM} {r : List CD} : WS (trysGo ((none, m, fs) :: r) e env) N T B C X ↔
    GO (m e.nm) fun k => IFB k (WS (fs e.arg env) N T B C fun _ _ => False) (WS (trysGo r e env) N T B C X) := by
  rw [trysGo]
  cases m e.nm with
  | none => with_unfolding_all exact Iff.rfl
  | some k =>
    cases k with
    | false => rw [go_some, ifb_f]
    | true =>
      rw [go_some, ifb_t]
      dsimp only
      cases fs e.arg env <;> with_unfolding_all exact Iff.rfl
end VL
namespace VL
open PySem PySem.Spec PyProof.Rows L2
variable [tt : TabList]
section
variable {X : Cx} {pins : List (Addr × Obj)} {σ : L2.St} {H : Hp} {s : Shared}
/-- makeTail: the code object is new, or found in the table; the function object is laid -/
theorem lam_tail {T : List (Addr × Str)} {c P : Addr} {params : Arguments} {body : Expr} {scope : Scope} {pos : Pos} {t : Option Addr} {E : Value → Shared → Prop} {Q : Value → Shared → Prop} (I : Inv X pins σ H s) (TB : LamX.TabB X.base X.mg c P) (hcode : X.env.code = .ref c)
    (hm : (P, X.env.qual ++ "<lambda>") ∈ T) (hu : ∀ p ∈ T, p.1 = P → p.2 = X.env.qual ++ "<lambda>") (hT : LamX.Tabs T H) (hfree : ∀ y ∈ scope.names, y.2 = .free → ∃ c, X.env.cells.lookup y.1 = some c) (hd : DefO H params t)
    (h : ∀ (f c' : Addr) (H1 : Hp) (s' : Shared), Inv X pins σ H1 s' → LamX.ExtN H H1 → (∀ a, H a ≠ none → H1 a ≠ none) → LamX.Tabs T H1 → H f = none → f ∉ frs X.stack → H1 f = some (FnO f ⟨params, body, scope, X.env.qual ++ "<lambda>", cloFrom X.env.cells scope.names []⟩ c' t) → H1 c' = some (LamX.CodeO c' (X.env.qual ++ "<lambda>")) → DefO H1 params t → Q (.ref f) s') :
    wpAny (model X.prog X.w) X.A (makeTail "<lambda>" (X.env.qual ++ "<lambda>") params (.expr body) scope X.env (dvO t) .none none pos pos.line) Q E s := by
  obtain ⟨ps, hP, ht, ha⟩ := hT _ hm
  have bP : s.heap.BuiltinsAt X.mg P := TB.bm.keeps I.bk
  have hP' : s.heap.get? P = some { cls := .none, data := .fields ps } := I.hok P _ hP
  have nofr : ∀ f, s.heap.objs.size ≤ f → f ∉ frs X.stack := fun f hf z => by
    rcases List.mem_cons.mp (I.stkSub _ z) with e | e
    · have h1 := I.lt
      rw [← e] at h1
      exact Nat.lt_irrefl _ (Nat.lt_of_lt_of_le h1 hf)
    · exact I.nofs hf e
  -- the function object is laid behind all
  have lay : ∀ {H1 : Hp} {h' : Heap} {tk : Tok} {c' : Addr} {doc pm ctv : Value}, Inv X pins σ H1 { s with heap := h', toks := tk } → LamX.ExtN H H1 → (∀ a, H a ≠ none → H1 a ≠ none) → LamX.Tabs T H1 → s.heap.objs.size ≤ h'.objs.size → H1 c' = some (LamX.CodeO c' (X.env.qual ++ "<lambda>")) → c' < h'.objs.size → H1 h'.objs.size = none →
      Q (.ref h'.objs.size) { s with heap := h'.push (PySem.W.kdv_obj "<lambda>" (X.env.qual ++ "<lambda>") params (.expr body) scope (cloFrom X.env.cells scope.names []) (dvO t) doc pm c' ctv), toks := tk } := fun {H1 h' tk c' doc pm ctv} I1 e1 dm T1 hs hc hlt hn => by
    have I2 := I1.laid (t' := tk) (h' := h'.push (PySem.W.kdv_obj "<lambda>" (X.env.qual ++ "<lambda>") params (.expr body) scope (cloFrom X.env.cells scope.names []) (dvO t) doc pm c' ctv)) (a := h'.objs.size)
      (o := FnO h'.objs.size ⟨params, body, scope, X.env.qual ++ "<lambda>", cloFrom X.env.cells scope.names []⟩ c' t) (fun b o e => Heap.get?_push_of_some _ e) (Nat.le_refl _) (FnO.ok (Heap.get?_push_size _ rfl))
    have g : ∀ b o, H1 b = some o → upd H1 h'.objs.size (FnO h'.objs.size ⟨params, body, scope, X.env.qual ++ "<lambda>", cloFrom X.env.cells scope.names []⟩ c' t) b = some o := fun b o e => by rw [upd_ne (ne_of_none e hn)]; exact e
    have e2 : LamX.ExtN H _ := e1.trans (LamX.ExtN.of g)
    exact h _ c' _ _ I2 e2 (fun a z => grow_dom g a (dm a z)) (T1.ext g) (I.hok.fresh hs) (nofr _ hs) upd_same (g _ _ hc) (defO_ext e2 hd)
  cases hc : codeAmong pos ps.toList with
  | none =>
    refine PySem.W.kdv_makeTail (mg := X.mg) (c := c) (P := P) (ps := ps) (closure_ok hfree) I.ok.glob (I.mod.glob.keeps I.bk) hcode (TB.code.keeps I.bk) hP' ht hc TB.gP bP fun c' ctv doc h' tk hx hge hlt hrec htb => ?_
    obtain ⟨c2, oc, vs, t2, e2, hoc, hd2, hv⟩ := hrec
    cases e2
    have hsz : s.heap.objs.size ≤ h'.objs.size := Nat.le_trans hge (Nat.le_of_lt hlt)
    have nC : H c' = none := I.hok.fresh hge
    have I1 := LamX.inv_table (t' := tk) (more := #[rawInt pos.line, rawInt pos.col, .ref c']) (h' := h') I hP hx htb hge ⟨oc, vs, t2, hoc, hd2, hv⟩
    have hE : LamX.ExtN H (upd (upd H P (.tbl (ps ++ #[rawInt pos.line, rawInt pos.col, .ref c']))) c' (LamX.CodeO c' (X.env.qual ++ "<lambda>"))) := fun b o e n => by
      rw [upd_ne (ne_of_none e nC), upd_ne (fun z => n ps (Option.some.inj (e.symm.trans (by rw [z]; exact hP))))]
      exact e
    have eL : (ps ++ #[rawInt pos.line, rawInt pos.col, .ref c']).toList = ps.toList ++ [rawInt pos.line, rawInt pos.col, .ref c'] := by simp
    have nPh : P ≠ h'.objs.size := fun z => Nat.lt_irrefl P (Nat.lt_of_lt_of_le (Heap.lt_size hP') (by rw [z]; exact hsz))
    refine lay I1 hE (fun a z => ?_) (fun p hp => ?_) hsz upd_same hlt (by rw [upd_ne (Nat.ne_of_gt hlt), upd_ne (Ne.symm nPh)]; exact I.hok.fresh hsz)
    · by_cases h1 : a = c'
      · rw [h1, upd_same]; exact fun z => nomatch z
      · rw [upd_ne h1]
        by_cases h2 : a = P
        · rw [h2, upd_same]; exact fun z => nomatch z
        · rw [upd_ne h2]; exact z
    by_cases hb : p.1 = P
    · rw [hu p hp hb, hb]
      refine ⟨_, by rw [upd_ne (ne_of_none hP nC), upd_same], by rw [eL]; exact PySem.TriplesOk_snoc _ _ _ _ ht, fun p' cv hcv => ?_⟩
      rw [eL] at hcv
      rcases LamX.among_app _ ht hcv with z | z
      · obtain ⟨c0, e1, e2⟩ := ha p' cv z
        exact ⟨c0, e1, hE _ _ e2 LamX.codeO_ne⟩
      · exact ⟨c', z, upd_same⟩
    · obtain ⟨ps', a1, a2, a3⟩ := hT p hp
      refine ⟨ps', by rw [upd_ne (ne_of_none a1 nC), upd_ne hb]; exact a1, a2, fun p' cv hcv => ?_⟩
      obtain ⟨c0, e1, e2⟩ := a3 p' cv hcv
      exact ⟨c0, e1, hE _ _ e2 LamX.codeO_ne⟩
  | some cv =>
    obtain ⟨c', e, hco⟩ := ha pos cv hc
    subst e
    refine PySem.W.kdv_makeTailHit (mg := X.mg) (c := c) (P := P) (ps := ps) (closure_ok hfree) I.ok.glob (I.mod.glob.keeps I.bk) hcode (TB.code.keeps I.bk) hP' ht hc bP fun ctv doc h' tk hx hsz => ?_
    have I1 : Inv X pins σ H { s with heap := h', toks := tk } := I.kept hx
    have lt : c' < h'.objs.size := Nat.lt_of_lt_of_le (I.hok c' _ hco).lt hsz
    exact lay I1 (LamX.ExtN.refl H) (fun _ z => z) hT hsz hco lt (I1.hok.fresh (Nat.le_refl _))
/-- the default value of a parameter, if the lambda has one: one number -/
def DefE (params : Arguments) : Prop := params.kw_defaults = [] ∧ (params.defaults = [] ∨ ∃ (i : Int) (j : Nat) (p : Pos), params.defaults = [.Constant (.int i) j p])
/-- lambda ..: body -/
theorem lam_mk {T : List (Addr × Str)} {c P : Addr} {params : Arguments} {body : Expr} {scope : Scope} {pos : Pos} {E : Value → Shared → Prop} {Q : Value → Shared → Prop} (I : Inv X pins σ H s) (TB : LamX.TabB X.base X.mg c P) (hcode : X.env.code = .ref c)
    (hm : (P, X.env.qual ++ "<lambda>") ∈ T) (hu : ∀ p ∈ T, p.1 = P → p.2 = X.env.qual ++ "<lambda>") (hT : LamX.Tabs T H) (hfree : ∀ y ∈ scope.names, y.2 = .free → ∃ c, X.env.cells.lookup y.1 = some c) (hd : DefE params)
    (h : ∀ (f c' : Addr) (t : Option Addr) (H1 : Hp) (s' : Shared), Inv X pins σ H1 s' → LamX.ExtN H H1 → (∀ a, H a ≠ none → H1 a ≠ none) → LamX.Tabs T H1 → H f = none → f ∉ frs X.stack → H1 f = some (FnO f ⟨params, body, scope, X.env.qual ++ "<lambda>", cloFrom X.env.cells scope.names []⟩ c' t) → H1 c' = some (LamX.CodeO c' (X.env.qual ++ "<lambda>")) → DefO H1 params t → Q (.ref f) s') :
    wpAny (model X.prog X.w) X.A (eval (.Lambda params body scope pos) X.env) Q E s := by
  obtain ⟨hk, hd | ⟨i, j, p, hd⟩⟩ := hd
  · refine PySem.W.kla_eval (by rw [defaultsOf_eq, hd, hk]; rfl) ?_
    rw [makeFunction_eq]
    simp only [List.zip_nil_right, List.filterMap_nil, List.isEmpty_nil, if_true, pure_bind]
    exact lam_tail (t := none) I TB hcode hm hu hT hfree hd fun f c' H1 s' => h f c' none H1 s'
  · refine PySem.W.kdv_lam (by rw [hd]; rfl) hk ?_
    rw [hd]
    refine PySem.W.kdv_all1 ?_
    refine wpAny_Constant_int (PySem.W.kdv_all0 ?_)
    rw [makeFunction_eq]
    simp only [List.zip_nil_right, List.filterMap_nil, List.isEmpty_nil, if_true, pure_bind, List.isEmpty_cons, Bool.false_eq_true, if_false]
    refine wpAny_bind (wpAny_newTextTuple ?_)
    have I0 : Inv X pins σ H { s with toks := s.toks + 1 } := I.tok _
    have I1 := I0.laid (t' := s.toks + 1) (h' := s.heap.push { cls := .type "tuple", data := .seq #[.int i s.toks] }) (a := s.heap.objs.size) (o := .tup [V.int i]) (fun b o e => Heap.get?_push_of_some _ e) (Nat.le_refl _)
      ⟨(show 1 ≤ 2 ^ 24 by decide), [.int i s.toks], .cons ⟨_, rfl⟩ .nil, IsTup.new _ _⟩
    have nT : H s.heap.objs.size = none := I.hok.fresh (Nat.le_refl _)
    have g : ∀ b o, H b = some o → upd H s.heap.objs.size (.tup [V.int i]) b = some o := fun b o e => by rw [upd_ne (ne_of_none e nT)]; exact e
    refine lam_tail (t := some s.heap.objs.size) I1 TB hcode hm hu (hT.ext g) hfree ⟨by rw [hd]; simp, i, upd_same⟩ fun f c' H1 s' J e dm T1 nf nr hf hc hdf => ?_
    refine h f c' (some s.heap.objs.size) H1 s' J ((LamX.ExtN.of g).trans e) (fun a z => dm a (grow_dom g a z)) T1 ?_ nr hf hc hdf
    cases q : H f with
    | none => rfl
    | some o => rw [g f o q] at nf; cases nf
end
end VL
namespace VL
open PySem PySem.Spec PyProof.Rows L2 LamX
variable [tt : TabList]
/-! a lambda is run -/
/-- its names: captured ones, globals, parameters of its own -/
structure LamP (sc scope : Scope) : Prop where
  kind : scope.kind = .function
  co : scope.isCoroutine = false
  gen : scope.isGenerator = false
  noc : ∀ y ∈ scope.names, y.2 ≠ .cell
  fre : ∀ y ∈ scope.names, y.2 = .free → sc.names.lookup y.1 = some .cell ∨ sc.names.lookup y.1 = some .free
def lamPB (sc scope : Scope) : Bool := decide (scope.kind = .function) && !scope.isCoroutine && !scope.isGenerator && scope.names.all fun y => !decide (y.2 = .cell) && (!decide (y.2 = .free) || (decide (sc.names.lookup y.1 = some .cell) || decide (sc.names.lookup y.1 = some .free)))
theorem lamP_by {sc scope : Scope} (h : lamPB sc scope = true) : LamP sc scope := by
  unfold lamPB at h
  simp only [Bool.and_eq_true, Bool.or_eq_true, Bool.not_eq_true', decide_eq_true_eq, decide_eq_false_iff_not, List.all_eq_true] at h
  obtain ⟨⟨⟨k1, k2⟩, k3⟩, k4⟩ := h
  exact ⟨k1, k2, k3, fun y m => (k4 y m).1, fun y m q => (k4 y m).2.resolve_left fun z => z q⟩
theorem LamP.has {X : Cx} {scope : Scope} (L : LamP X.env.scope scope) (ok : X.Ok) (y : Str × NameKind) (m : y ∈ scope.names) (q : y.2 = .free) : ∃ c, X.env.cells.lookup y.1 = some c :=
  ok.has _ ((L.fre y m q).imp id id)
section
variable {X : Cx} {pins : List (Addr × Obj)} {σ σ' : L2.St} {H HZ : Hp} {s s1 : Shared}
theorem lam_in {A : Around} {outer : List PySem.Env} {E : XK} {scope : Scope} {f c' : Addr} {hp : Heap} {tk : Nat} {bs : List (Str × Value)} (I : Inv X pins σ H s) (L : LamP X.env.scope scope) (e0 : Env0 X.prog X.w X.K X.mg X.base A outer s1 HZ) (hd : A.handled = none)
    (un : Un (frs X.stack) [] H HZ s.heap s1.heap) (hns : hp.Ns s1.heap.objs.size fun y => bs.reverse.lookup y) (kp : ∀ b o, s1.heap.get? b = some o → hp.get? b = some o)
    (hσ : ∀ (i : Nat) (y : Str) (v : V), X.N[i]? = some y → σ'[i]? = some (some v) → scope.names.lookup y ≠ some .local ∧ σ[i]? = some (some v)) (hl : σ'.length = σ.length) :
    Inv (lamCx X A outer s1 HZ E scope f c') [] σ' HZ { s1 with heap := hp, toks := tk } := by
  have cap := L.has I.ok
  have back : ∀ {y : Str} {c : Addr}, (cloFrom X.env.cells scope.names []).lookup y = some c → X.env.cells.lookup y = some c := fun {y c} q => by
    rcases cloFrom_mem (PySem.mem_of_lookup q) with m | ⟨m1, m2⟩
    · cases m
    · obtain ⟨d, hd⟩ := cap _ m1 rfl
      have hd : X.env.cells.lookup y = some d := hd
      have : c = d := by rw [m2, hd]; rfl
      rw [this]; exact hd
  have seen : ∀ {y : Str}, scope.names.lookup y = some .free → ∃ c, (cloFrom X.env.cells scope.names []).lookup y = some c := fun {y} q =>
    mem_lookup (cloFrom_has (cells := X.env.cells) (acc := []) (show (y, NameKind.free) ∈ scope.names from PySem.mem_of_lookup q))
  have cellStay : ∀ {c : Addr} {v : Option Value}, H c = none → s.heap.IsCell c v → hp.IsCell c v := fun {c v} n ⟨o, ho, od⟩ => by
    obtain ⟨sl, q⟩ := un.any ho n (by simp)
    exact ⟨_, kp _ _ q, od⟩
  have none0 : ∀ b : Addr, b ∉ (lamCx X A outer s1 HZ E scope f c').ex := fun b z => absurd (show b ∈ ([] : List Addr) from z) (by simp)
  refine { ok := ?okk, os := rfl, bare := e0.bare, base := Un.kept kp, loc := ⟨_, hns, fun i y v q1 q2 vis => ?_⟩, cell := fun y c q => ?_, free := e0.hok.fresh (Nat.le_refl _), freeC := fun y c q => ?_, pin := fun q hq => absurd (show q ∈ ([] : List (Addr × Obj)) ++ [] from hq) (by simp), hok := e0.hok.kept kp, len := hl.trans I.len }
  case okk =>
    exact { mod := e0.mod, kind := L.kind, glob := rfl, blt := rfl, above := Nat.le_refl _, inj := fun y z c q1 q2 => I.ok.inj y z c (back q1) (back q2), has := fun y hy => (by
              have hy : scope.names.lookup y = some .cell ∨ scope.names.lookup y = some .free := hy
              rcases hy with hy | hy
              · exact absurd rfl (L.noc _ (PySem.mem_of_lookup hy))
              · exact seen hy), cab := fun y c z _ => (by have z : false = true := z; cases z), hd := fun _ => hd, frames := Around.frames_deeper e0.frames, stk := .inr ⟨rfl, rfl⟩, exf := fun b z => absurd z (none0 b), bs := e0.bs, bsz := e0.bsz, noex := fun b _ _ => none0 b, exfs := fun b z => absurd z (none0 b), funs := e0.funs, frf := e0.frf }
  · obtain ⟨noL, hv⟩ := hσ i y v q1 q2
    have vis : Vis scope y := vis
    rcases vis with k | k | k
    · exact absurd k noL
    · exact absurd rfl (L.noc _ (PySem.mem_of_lookup k))
    · obtain ⟨m, _, look⟩ := I.loc
      have k0 := L.fre _ (PySem.mem_of_lookup k) rfl
      obtain ⟨u, r, q⟩ := look i y v q1 hv (k0.elim (fun z => .inr (.inl z)) fun z => .inr (.inr z))
      obtain ⟨c2, h2⟩ := seen k
      refine ⟨u, r, .inr ⟨.inr k, c2, h2, ?_⟩⟩
      rcases q with ⟨w1, _⟩ | ⟨_, c3, w3, z⟩
      · have w1 : X.env.scope.names.lookup y = some .local := w1
        rcases k0 with z0 | z0 <;> rw [show X.env.scope.names.lookup y = _ from z0] at w1 <;> cases w1
      · rw [back h2] at w3
        cases w3
        exact cellStay (I.freeC y _ (back h2)) z
  · obtain ⟨u, z⟩ := I.cell y c (back q)
    exact ⟨u, cellStay (I.freeC y c (back q)) z⟩
  · obtain ⟨v, o, ho, od⟩ := I.cell y c (back q)
    exact un.free c o ho (I.freeC y c (back q)) (by simp)
end
end VL
namespace VL
open PySem PySem.Spec PyProof.Rows L2 LamX
variable [tt : TabList]
/-- how a lambda's parameters are bound at a call without arguments -/
structure LBind (params : Arguments) (body : Expr) (scope : Scope) (bn : List Str) : Prop where
  b0 : params.defaults = [] → bn = [] ∧ ∀ (qual : Str) (cl : List (Str × Addr)) (doc pm cv ct : Value), bindArgs (PySem.W.kdv_fn "<lambda>" qual params (.expr body) scope cl .none doc pm cv ct) ⟨[], []⟩ = pure []
  b1 : params.defaults ≠ [] → ∃ n, bn = [n] ∧ ∀ (t : Addr) (qual : Str) (cl : List (Str × Addr)) (doc pm cv ct : Value), ∃ k : Option (Array Value) → Sem (List (Str × Value)), bindArgs (PySem.W.kdv_fn "<lambda>" qual params (.expr body) scope cl (.ref t) doc pm cv ct) ⟨[], []⟩ = (seqItems? (.ref t) >>= k) ∧ ∀ v, k (some #[v]) = pure [(n, v)]
  loc : ∀ n ∈ bn, scope.names.lookup n = some .local
  own : ∀ y, scope.names.lookup y = some .local → y ∈ bn
section
variable {X : Cx} {pins : List (Addr × Obj)} {σ σ' : L2.St} {H HZ : Hp} {s s1 : Shared}
theorem lam_run {A : Around} {outer : List PySem.Env} {E : XK} {params : Arguments} {body : Expr} {scope : Scope} {f c' : Addr} {t : Option Addr} {bn : List Str} {k : Nat} {tb : TE} {Q : VK} (I : Inv X pins σ H s) (L : LamP X.env.scope scope) (BN : LBind params body scope bn)
    (e0 : Env0 X.prog X.w X.K X.mg X.base A outer s1 HZ) (lim : s1.heap.NoLimit) (hd : A.handled = none) (un : Un (frs X.stack) [] H HZ s.heap s1.heap) (hr : Room (k + 1) A)
    (hf : HZ f = some (FnO f ⟨params, body, scope, X.env.qual ++ "<lambda>", cloFrom X.env.cells scope.names []⟩ c' t)) (hc : HZ c' = some (CodeO c' (X.env.qual ++ "<lambda>"))) (hdf : DefO HZ params t)
    (hσ : ∀ (i : Nat) (y : Str) (v : V), X.N[i]? = some y → σ'[i]? = some (some v) → y ∉ bn ∧ σ[i]? = some (some v)) (hl : σ'.length = σ.length)
    (hbody : PE (lamCx X A outer s1 HZ E scope f c') body tb) (q : tb σ' HZ Q) :
    codeAny (model X.prog X.w) A (.call (.ref f) ⟨[], []⟩) (CR (L2.CX X.prog X.w) outer X.prog X.w HZ s1 Q E) s1 := by
  obtain ⟨⟨doc, pm, ctv, of1⟩, _, _⟩ := e0.hok f _ hf
  obtain ⟨⟨oc, vs, tq, hoc, hdc, hvc⟩, _, _⟩ := e0.hok c' _ hc
  have go : ∀ bs : List (Str × Value), (∀ y ∈ bs, scope.names.lookup y.1 = some .local) → BindsTo s1 (PySem.W.kdv_fn "<lambda>" (X.env.qual ++ "<lambda>") params (.expr body) scope (cloFrom X.env.cells scope.names []) (dvO t) doc pm (.ref c') ctv) ⟨[], []⟩ bs →
      codeAny (model X.prog X.w) A (.call (.ref f) ⟨[], []⟩) (CR (L2.CX X.prog X.w) outer X.prog X.w HZ s1 Q E) s1 := fun bs hloc hb => by
    refine PySem.W.kla_callFunE hr.depth of1 rfl L.co L.gen rfl ⟨c', oc, vs, tq, rfl, hoc, hdc, hvc⟩ (hb _ _ _ _ ?_)
    refine wpAny_newFunctionEnv L.noc hloc (fun hp hns hsb => ⟨lim.fresh _ hsb, ?_⟩) L.kind
    show codeAny _ _ (.expr body (lamEnv X scope s1.heap.objs.size f c')) _ _
    have kp : ∀ b o, s1.heap.get? b = some o → hp.get? b = some o := fun b o e => hsb.extBut b o (Nat.ne_of_lt (Heap.lt_size e)) (Heap.get?_push_of_some _ e)
    have J := lam_in (E := E) (f := f) (c' := c') (tk := s1.toks + bs.length) I L e0 hd un hns kp (fun i y v h1 h2 => ⟨fun z => (hσ i y v h1 h2).1 (BN.own y z), (hσ i y v h1 h2).2⟩) hl
    refine PySem.W.kla_codeExpr (wpAny_mono (hbody.run [] _ _ HZ Q J q) (fun v s' hq => ?_) fun e s' hq => hq)
    obtain ⟨u, H', J', rv, z⟩ := hq
    exact ⟨u, H', J'.os, J'.bare, J'.base, J'.hok, rv, z⟩
  cases t with
  | none =>
    obtain ⟨rfl, hb⟩ := BN.b0 hdf
    exact go [] (fun y hy => by cases hy) (.of_eq (hb _ _ _ _ _ _))
  | some t =>
    obtain ⟨hne, i, hT⟩ := hdf
    obtain ⟨n, rfl, hb⟩ := BN.b1 hne
    obtain ⟨kk, h1, h2⟩ := hb t (X.env.qual ++ "<lambda>") (cloFrom X.env.cells scope.names []) doc pm (.ref c') ctv
    obtain ⟨_, its, rv, o, ho, _, m, hs⟩ := e0.hok t _ hT
    cases rv with
    | cons r0 r1 =>
      cases r1
      refine go [(n, _)] (fun y hy => ?_) (BindsTo.of_defaults rfl ho hs h1 (h2 _))
      rw [List.mem_singleton.1 hy]
      exact BN.loc n List.mem_cons_self
end
end VL
namespace VL
open PySem PySem.Spec PyProof.Rows L2 LamX
variable [tt : TabList]
/-! lambdas as denotations -/
def cClo (n : Nat) (C : List (Str × Addr)) : M TV := fun env => .ok (.fz (.clo n C)) env
/-- what is asked of the maker: its code object at c, its table at P -/
structure LamTb (mg : Str → Option Value) (base : Heap) (fd : FuncData) (q : Str) where
  c : Addr
  P : Addr
  code : fd.code = .ref c
  tb : TabB base mg c P
  mem : (P, q ++ "<lambda>") ∈ tt.T
  uni : ∀ p ∈ tt.T, p.1 = P → p.2 = q ++ "<lambda>"
theorem tabs_fext {H H1 : Hp} (e : ExtN H H1) (dm : ∀ a, H a ≠ none → H1 a ≠ none) (T1 : Tabs tt.T H1) : Fext (fun _ => False) H H1 :=
  ⟨fun a o nt h _ => e a o h nt, fun a o h w => ⟨o, e a o h (own_nt w), w⟩, dm, fun p hp _ => T1 p hp⟩
section
variable {X : Cx} {W : WX}
theorem de_lam {n : Nat} {c P : Addr} {params : Arguments} {body : Expr} {scope : Scope} {pos : Pos} (TB : TabB X.base X.mg c P) (hcode : X.env.code = .ref c) (hm : (P, X.env.qual ++ "<lambda>") ∈ tt.T) (hu : ∀ p ∈ tt.T, p.1 = P → p.2 = X.env.qual ++ "<lambda>")
    (L : LamP X.env.scope scope) (hd : DefE params) (hn : tt.lam n = ⟨params, body, scope, X.env.qual⟩) : DE X W (.Lambda params body scope pos) (cClo n X.env.cells) := by
  refine .mk ⟨fun σ H Q => Tabs tt.T H ∧ ∀ (f c' : Addr) (t : Option Addr) (H1 : Hp), HB H1 → ExtN H H1 → (∀ a, H a ≠ none → H1 a ≠ none) → Tabs tt.T H1 → H f = none → H1 f = some (FnO f ⟨params, body, scope, X.env.qual ++ "<lambda>", cloFrom X.env.cells scope.names []⟩ c' t) → H1 c' = some (CodeO c' (X.env.qual ++ "<lambda>")) → DefO H1 params t → Q (.ref f) H1, ⟨fun pins s σ H Q I h => ?_⟩, fun E T io env fp σ H Q r h => ?_⟩
  · obtain ⟨hT, h⟩ := h
    refine lam_mk I TB hcode hm hu hT (L.has I.ok) hd fun f c' t H1 s' I1 e1 dm T1 nf nr hf hc hdf => ?_
    exact ⟨.ref f, H1, I1, rfl, h f c' t H1 (HB.of I1.hok) e1 dm T1 nf hf hc hdf⟩
  · refine ⟨r.tabs, fun f c' t H1 hb e1 dm T1 nf hf hc hdf => ?_⟩
    have fx := tabs_fext e1 dm T1
    have r1 := r.growT fx hb
    have off : ∀ a o, H1 a = some o → ¬ ownO o → ¬ avOf T fp a := fun a o h n z => by
      obtain ⟨o', h', w⟩ := r1.all a z
      rw [h] at h'; cases h'; exact n w
    refine h (.ref f) fp H1 (Ext.growT fx) r1 (.clo n X.env.cells (c' := c') (t := t) ?_ ?_ ?_ (off _ _ hf fun z => z) (off _ _ hc fun z => z) fun a ea => ?_)
    · show H1 f = some (FnO f ((tt.lam n).on X.env.cells) c' t)
      rw [hn]; exact hf
    · show H1 c' = some (CodeO c' ((tt.lam n).qual ++ "<lambda>"))
      rw [hn]; exact hc
    · show DefO H1 (tt.lam n).params t
      rw [hn]; exact hdf
    · subst ea
      obtain ⟨_, i, hi⟩ := hdf
      exact off _ _ hi fun z => z
/-- lambda n of the running def -/
structure LamOk (X : Cx) (k : Nat) (C : List (Str × Addr)) (n : Nat) (f : M TV) : Prop where
  cells : cloFrom X.env.cells (tt.lam n).scope.names [] = cloFrom C (tt.lam n).scope.names []
  qual : (tt.lam n).qual = X.env.qual
  P : LamP X.env.scope (tt.lam n).scope
  bn : ∃ bn, LBind (tt.lam n).params (tt.lam n).body (tt.lam n).scope bn ∧ ∀ y ∈ bn, y ∉ X.N
  body : ∀ (A : Around) (outer : List PySem.Env) (s : Shared) (H : Hp) (E : XK) (f0 c' : Addr), Room k (A.deeper (lamEnv X (tt.lam n).scope s.heap.objs.size f0 c')) → DE (lamCx X A outer s H E (tt.lam n).scope f0 c') (fun cls d _ H => E cls d H) (tt.lam n).body f
def cAsk (C : List (Str × Addr)) (fs : List (Nat × M TV)) (i : Nat) : M TV := fun env => match env[i]? with
  | some (.fz (.clo n C')) => if C' = C then (match fs.lookup n with
    | some f => f env
    | none => .stuck) else .stuck
  | _ => .stuck
/-- x() -/
theorem de_ask {C : List (Str × Addr)} {fs : List (Nat × M TV)} {k i : Nat} {a : Str} {p1 p2 : Pos} (L : ∀ n f, fs.lookup n = some f → LamOk X k C n f) (hr : Room (k + 1) X.A) (tk : Takes X W) (pv : ∀ pos, PE X (.Name a pos) (tVar i)) : DE X W (.Call (.Name a p1) [] [] p2) (cAsk C fs i) := by
  refine .mk ⟨fun σ H Q => ∃ (n : Nat) (f c' : Addr) (t : Option Addr) (fb : M TV), fs.lookup n = some fb ∧ σ[i]? = some (some (.ref f)) ∧ H f = some (FnO f ((tt.lam n).on X.env.cells) c' t) ∧ H c' = some (CodeO c' ((tt.lam n).qual ++ "<lambda>")) ∧ DefO H (tt.lam n).params t ∧ cE (bas X) (fun cls d _ H' => W cls d σ H') fb σ H Q, ⟨fun pins s σ H Q I h => ?_⟩, fun E T io env fp σ H Q r h => ?_⟩
  · obtain ⟨n, f, c', t, fb, hl, hs, hf, hc, hd, hb⟩ := h
    have K := L n fb hl
    refine wpAny_Call_Name_kw (thn ((pv p1).run pins s σ H (fun v H1 => v = .ref f ∧ H1 = H) I ⟨.ref f, hs, rfl, rfl⟩) fun u s1 ⟨v, H1, I1, r1, q1⟩ => ?_)
    obtain ⟨ev, eH⟩ := q1
    subst ev
    subst eH
    obtain rfl : u = Value.ref f := r1
    obtain ⟨⟨doc, pm, ctv, of1⟩, _, _⟩ := I1.hok f _ hf
    refine PySem.W.callWith_F0 ⟨_, _, _, _, of1⟩ ?_
    obtain ⟨bn, BN, hbn⟩ := K.bn
    have hq : (tt.lam n).on X.env.cells = ⟨(tt.lam n).params, (tt.lam n).body, (tt.lam n).scope, X.env.qual ++ "<lambda>", cloFrom X.env.cells (tt.lam n).scope.names []⟩ := by
      unfold VL.LamS.on; rw [K.qual]
    rw [hq] at hf
    rw [K.qual] at hc
    have rc := lam_run (E := fun cls d H' => W cls d σ H') (σ' := σ) (Q := Q) I1 K.P BN I1.env0 I1.nolimit hr.hd Un.refl hr hf hc hd (fun i y v h1 h2 => ⟨fun z => hbn y z (List.mem_of_getElem? h1), h2⟩) rfl (K.body _ _ s1 H1 _ f c' (hr.deeper _)) hb
    refine wpAny_call (codeAny_mono rc fun r s' hq => ?_)
    cases r with
    | error e => exact tk e s' (XE.of_call I1 (fun cls d H' h => h) hq)
    | ok fl =>
      cases fl with
      | ret u => exact I1.after hq
      | next => exact False.elim hq
      | brk => exact False.elim hq
      | cont => exact False.elim hq
  · unfold cAsk at h
    cases e0 : env[i]? with
    | none => simp only [e0] at h; exact h.elim
    | some sv =>
    cases sv with
    | no => simp only [e0] at h; exact h.elim
    | ow _ _ => simp only [e0] at h; exact h.elim
    | lk _ _ => simp only [e0] at h; exact h.elim
    | fz d =>
    cases d with
    | clo n C0 =>
      simp only [e0] at h
      by_cases hC : C0 = C
      · rw [if_pos hC] at h
        cases el : fs.lookup n with
        | none => rw [el] at h; exact h.elim
        | some fb =>
          rw [el] at h
          subst hC
          have hl : i < σ.length := by rw [← r.len]; exact (List.getElem?_eq_some_iff.mp e0).1
          obtain ⟨⟨v, ev, rp⟩, _⟩ := r.slot i _ _ e0 (List.getElem?_eq_getElem hl)
          cases rp with
          | clo _ _ h1 h2 h3 _ _ _ => exact ⟨n, _, _, _, fb, el, by rw [List.getElem?_eq_getElem hl, ev], by unfold VL.LamS.on; rw [(L n fb el).cells]; exact h1, h2, h3, E, T, io, env, fp, r, h⟩
      · rw [if_neg hC] at h; exact h.elim
    | _ => simp only [e0] at h; exact h.elim
end
end VL
namespace VL
open PySem PySem.Spec PyProof.Rows L2 LamX
variable [tt : TabList]
/-! defs that hold lambdas -/
open Classical in
/-- what does not hang on where the cells lie -/
noncomputable def unC (F : List (Str × Addr) → List D → FRes) : List D → FRes := fun ds => if ∀ C, F C ds = F [] ds then F [] ds else .stuck
theorem unC_or (F : List (Str × Addr) → List D → FRes) (C : List (Str × Addr)) (ds : List D) : unC F ds = F C ds ∨ unC F ds = .stuck := by
  unfold unC
  by_cases h : ∀ C, F C ds = F [] ds
  · rw [if_pos h]; exact .inl (h C).symm
  · rw [if_neg h]; exact .inr rfl
theorem unC_eq {F : List (Str × Addr) → List D → FRes} {ds : List D} {r : FRes} (h : ∀ C, F C ds = r) : unC F ds = r := by
  unfold unC
  rw [if_pos fun C => (h C).trans (h []).symm]; exact h []
theorem spF_imp {B : Bas} {n : Nat} {κio : Option Kd} {F G : List D → FRes} {vs : List V} {H : Hp} {Q : VK} {E : XK} (h : ∀ ds, F ds = G ds ∨ F ds = .stuck) (x : spF B n κio F vs H Q E) : spF B n κio G vs H Q E := by
  obtain ⟨hl, T, ds, a1, a2, a3, x⟩ := x
  refine ⟨hl, T, ds, a1, a2, a3, ?_⟩
  cases κio with
  | none =>
    obtain ⟨r, x⟩ := x
    rcases h ds with e | e
    · rw [e] at x; exact ⟨r, x⟩
    · rw [e] at x; exact x.elim
  | some κ =>
    obtain ⟨v0, vs', d0, ds', q0, e1, e2, o, q, r, x⟩ := x
    rcases h ds with e | e
    · rw [e] at x; exact ⟨v0, vs', d0, ds', q0, e1, e2, o, q, r, x⟩
    · rw [e] at x; exact x.elim
section
variable {P : Program} {w : World} {K : PySem.W.Frag} {mg : Str → Option Value} {base : Heap}
theorem Fun.code {x qual : Str} {st : Stmt} {f : Addr} {fd : FuncData} (F : Fun K x qual st f fd) : ∃ (oc : Value) (od : Option Addr) (kV doc pm : Value) (an : Option Addr) (ct : Value) (osl : Array (Option Value)),
    fd = PySem.W.fnOf x qual (defArgs st) (defBody st) (defScope st) .none kV doc pm an fd.code ct ∧ K.lookup f = some ⟨oc, od, .func fd, osl⟩ ∧ PySem.W.codeIn K fd.code qual = true := by
  obtain ⟨oc, od, kV, doc, pm, an, cdv, ct, osl, e, l, c⟩ := F.ex
  have ec : fd.code = cdv := by rw [e]
  exact ⟨oc, od, kV, doc, pm, an, ct, osl, by rw [ec]; exact e, l, by rw [ec]; exact c⟩
theorem fn_mkL {x qual : Str} {st : Stmt} {f : Addr} {fd : FuncData} {N ps : List Str} {k : Nat} {κio : Option Kd} {body : List (Str × Addr) → SM} (F : Fun K x qual st f fd) (S : FnScope N ps (defScope st))
    (hbody : ∀ (A : Around) (outer : List PySem.Env) (s : Shared) (H : Hp) (E : XK), Room k (A.deeper (envOfC qual (defScope st) s.heap.objs.size f fd.code)) →
      DSs (cxOf (L2.CX P w) P w K mg base N qual (defScope st) f fd.code A outer s H E) (fun cls d _ H => E cls d H) κio.isNone (defBody st) (body (cellsFrom (s.heap.objs.size + 1) (defScope st).names []))) :
    FnOk P w K mg base (L2.CX P w) (k + 1) f fd ps (spF (mkB K mg) ps.length κio (unC fun C => runF N.length κio (body C))) := by
  obtain ⟨oc, od, kV, doc, pm, an, ct, osl, e, l, c⟩ := Fun.code F
  have key := fn_of (CX := L2.CX P w) (P := P) (w := w) (mg := mg) (base := base) (k := k) (sp := spF (mkB K mg) ps.length κio (unC fun C => runF N.length κio (body C))) (by rw [e] at l; exact l) c S (fun vs H Q E h => h.1) fun A outer s H vs Q E hr h => fn_body S (hbody A outer s H E hr) (spF_imp (unC_or _ _) h)
  rw [← e] at key
  exact key
theorem fn_mkGL {x qual : Str} {st : Stmt} {f : Addr} {fd : FuncData} {N ps : List Str} {k : Nat} {κio : Option Kd} {body : List (Str × Addr) → SM} (F : Fun K x qual st f fd) (S : FnScope N ps (defScope st))
    (hbody : ∀ (A : Around) (outer : List PySem.Env) (s : Shared) (H : Hp) (E : XK), A.guards = some [] → Room k (A.deeper (envOfC qual (defScope st) s.heap.objs.size f fd.code)) →
      DSs (cxOf (L2.CX P w) P w K mg base N qual (defScope st) f fd.code A outer s H E) (fun cls d _ H => E cls d H) κio.isNone (defBody st) (body (cellsFrom (s.heap.objs.size + 1) (defScope st).names []))) :
    FnOkG P w K mg base (L2.CX P w) (k + 1) f fd ps (spF (mkB K mg) ps.length κio (unC fun C => runF N.length κio (body C))) := by
  refine fn_ofGc F S (fun vs H Q E h => h.1) fun A outer s H vs Q E hg hr h => fn_body S (hbody A outer s H E hg hr) (spF_imp (unC_or _ _) h)
end
/-! how a lambda's parameters are bound -/
theorem lb0 {body : Expr} {scope : Scope} (h : (scope.names.all fun y => !decide (y.2 = .local)) = true) : LBind ⟨[], [], none, [], [], none, []⟩ body scope [] where
  b0 := fun _ => ⟨rfl, fun _ _ _ _ _ _ => rfl⟩
  b1 := fun z => absurd rfl z
  loc := fun n z => by cases z
  own := fun y q => by
    have := List.all_eq_true.1 h _ (PySem.mem_of_lookup q)
    simp at this
theorem lb1 {n : Str} {p pos : Pos} {i : Int} {j : Nat} {body : Expr} {scope : Scope} (h : (scope.names.all fun y => !decide (y.2 = .local) || decide (y.1 = n)) = true) (hn : scope.names.lookup n = some .local)
    (hb : ∀ (t : Addr) (qual : Str) (cl : List (Str × Addr)) (doc pm cv ct : Value), ∃ k : Option (Array Value) → Sem (List (Str × Value)), bindArgs (PySem.W.kdv_fn "<lambda>" qual ⟨[], [⟨n, none, p⟩], none, [], [], none, [.Constant (.int i) j pos]⟩ (.expr body) scope cl (.ref t) doc pm cv ct) ⟨[], []⟩ = (seqItems? (.ref t) >>= k) ∧ ∀ v, k (some #[v]) = pure [(n, v)]) : LBind ⟨[], [⟨n, none, p⟩], none, [], [], none, [.Constant (.int i) j pos]⟩ body scope [n] where
  b0 := fun z => by simp at z
  b1 := fun _ => ⟨n, rfl, hb⟩
  loc := fun y z => by rw [List.mem_singleton.1 z]; exact hn
  own := fun y q => by
    have := List.all_eq_true.1 h _ (PySem.mem_of_lookup q)
    simp at this
    simp [this]
end VL
namespace VL
open PySem PySem.Spec PyProof.Rows L2 LamX
/-! the end for a law with lambdas -/
abbrev emT : Obj := { cls := .none, data := .fields #[] }
abbrev lsO (vs : List Value) : Obj := { cls := .type "list", data := .seq vs.toArray }
structure TabIn (K : PySem.W.Frag) (h : Heap) (cs : List (Addr × Addr)) : Prop where
  at_ : ∀ p ∈ cs, h.get? p.2 = some emT
  off : ∀ p ∈ cs, K.lookup p.2 = none
  hd : ∀ p ∈ cs, PySem.W.CodeHd h p.1 p.2
structure TopIn (mg : Str → Option Value) (h : Heap) : Prop where
  g : h.Ns mainGlobals mg
  b : ∃ mb, h.Ns builtinsNs mb ∧ ∀ x : Str, x ≠ "__name__" → mb x = bootBuiltins x
  l : h.NoLimit
  m : ∃ (bm : Addr) (ob : Obj), mg "__builtins__" = some (.ref bm) ∧ bm ≠ builtinsNs ∧ h.get? bm = some ob ∧ ob.cls = .type "module" ∧ ob.dict = some builtinsNs ∧ ob.data = .plain
section
variable {P : Program} {w : World} {K : PySem.W.Frag} {mg : Str → Option Value} {k : Nat} {fa a : Addr} {fd : FuncData} {x : Str} {s₁ : Shared} {vs : List Value} {H : Hp} {cs : List (Addr × Addr)}
/-- the base: the heap without what is watched -/
structure Watch (K : PySem.W.Frag) (h : Heap) (H : Hp) (a : Addr) (vs : List Value) (cs : List (Addr × Addr)) : Prop where
  lst : h.get? a = some (lsO vs)
  dom : ∀ b, H b ≠ none → (b = a ∧ K.lookup a = none) ∨ ∃ p ∈ cs, p.2 = b
  tab : ∀ p ∈ cs, H p.2 = some (.tbl #[])
  only : ∀ b, H b = none ∨ (∃ p ∈ cs, p.2 = b) ∨ ∃ o xs, H b = some (.frz o (.lst xs))
theorem Watch.free (W : Watch K s₁.heap H a vs cs) (TI : TabIn K s₁.heap cs) {b : Addr} {o : Obj} (e : s₁.heap.get? b = some o) (h1 : o ≠ lsO vs) (h2 : o ≠ emT) : H b = none := by
  by_cases q : H b = none
  · exact q
  · rcases W.dom b q with ⟨rfl, _⟩ | ⟨p, hp, rfl⟩
    · rw [W.lst] at e; cases e; exact absurd rfl h1
    · rw [TI.at_ p hp] at e; cases e; exact absurd rfl h2
theorem Watch.ns (W : Watch K s₁.heap H a vs cs) (TI : TabIn K s₁.heap cs) {b : Addr} {m : Str → Option Value} : s₁.heap.Ns b m → (hidT s₁.heap H).Ns b m := by
  rintro ⟨o, es, ep, e, d, r⟩
  refine ⟨o, es, ep, hidT_get e (W.free TI e (fun z => ?_) fun z => ?_), d, r⟩ <;> (subst z; cases d)
theorem Watch.kin (W : Watch K s₁.heap H a vs cs) (TI : TabIn K s₁.heap cs) (KX : K.In s₁.heap) : K.In (hidT s₁.heap H) := by
  intro b o e
  refine hidT_get (KX b o e) ?_
  by_cases q : H b = none
  · exact q
  · rcases W.dom b q with ⟨rfl, z⟩ | ⟨p, hp, rfl⟩
    · rw [z] at e; cases e
    · rw [TI.off p hp] at e; cases e
theorem Watch.mod (W : Watch K s₁.heap H a vs cs) (TI : TabIn K s₁.heap cs) (KX : K.In s₁.heap) (TT : TopIn mg s₁.heap) : L2.Mod K mg (hidT s₁.heap H) := by
  obtain ⟨mb, hb, hbb⟩ := TT.b
  obtain ⟨mc, l1, l2⟩ := TT.l
  exact ⟨W.kin TI KX, W.ns TI TT.g, ⟨mb, W.ns TI hb, hbb⟩, mc, W.ns TI l1, l2⟩
theorem Watch.tb (W : Watch K s₁.heap H a vs cs) (TI : TabIn K s₁.heap cs) (TT : TopIn mg s₁.heap) : ∀ p ∈ cs, TabB (hidT s₁.heap H) mg p.1 p.2 := by
  intro p hp
  have gP : mainGlobals ≠ p.2 := fun z => by
    obtain ⟨o, es, ep, e, d, _⟩ := TT.g
    rw [z, TI.at_ p hp] at e; cases e; cases d
  refine ⟨?_, ?_, gP⟩
  · obtain ⟨o, us, file, tf, flags, tg, inF, text, tt, e1, r1, r2, rest⟩ := TI.hd p hp
    refine ⟨o, us, file, tf, flags, tg, inF, text, tt, hidT_get e1 (W.free TI e1 (fun z => ?_) fun z => ?_), r1, r2, rest⟩
    · subst z; cases r2
    · subst z; cases r2
      obtain ⟨q, _⟩ := rest
      simp at q
  · obtain ⟨bm, ob, b1, b2, b3, b4, b5, b6⟩ := TT.m
    refine ⟨bm, ob, b1, b2, fun z => ?_, fun z => ?_, hidT_get b3 (W.free TI b3 (fun z => ?_) fun z => ?_), b4, b5, b6⟩
    · obtain ⟨o, es, ep, e, d, _⟩ := TT.g
      rw [z, e] at b3; cases b3
      rw [d] at b6; cases b6
    · rw [z, TI.at_ p hp] at b3; cases b3; cases b6
    · subst z; cases b6
    · subst z; cases b6
theorem head_runT {sp : Sp} (KX : K.In s₁.heap) (TT : TopIn mg s₁.heap) (TI : TabIn K s₁.heap cs) (W : Watch K s₁.heap H a vs cs) (hg : s₁.gens = #[]) (hr : Room k callerA)
    (F : ∀ base : Heap, K.In base → base.Ns mainGlobals mg → (∀ p ∈ cs, TabB base mg p.1 p.2) → FnOkG P w K mg base (L2.CX P w) k fa fd [x] sp) (hbind : ∀ (s : Shared) (u : Value), BindsTo s fd ⟨[u], []⟩ [(x, u)])
    (hsp : sp [.ref a] H (fun v _ => v = .bl true) fun _ _ _ => False) (hok : HOk P w H s₁.heap) :
    codeAny (model P w) callerA (.call (.ref fa) ⟨[.ref a], []⟩) (fun r s' => r = .ok (.ret (.bool true)) ∧ OldK s₁.heap s'.heap ∧ s'.os = s₁.os ∧ AllBare s'.gens) s₁ := by
  have M := W.mod TI KX TT
  have e0 : Env0 P w K mg (hidT s₁.heap H) callerA [] s₁ H :=
    ⟨rfl, M, fun b o e => of_hidT e, Nat.le_of_eq (hidT_size _ _), trivial, (fun b z => by have z' : b ∈ ([] : List Addr) := z; simp at z'), hok, .of_eq hg⟩
  refine codeAny_mono ((F _ M.kin (W.ns TI TT.g) (W.tb TI TT)).run callerA [] s₁ H ⟨[.ref a], []⟩ [.ref a] [.ref a] _ _ rfl hr e0 (hbind s₁ (.ref a)) (.cons rfl .nil) hsp) fun r s' h => ?_
  match r, h with
  | .error e, h =>
    obtain ⟨_, _, _, _, _, _, _, _, _, _, _, _, z⟩ := h
    exact z.elim
  | .ok .next, h => exact False.elim h
  | .ok .brk, h => exact False.elim h
  | .ok .cont, h => exact False.elim h
  | .ok (.ret u), ⟨v, H', os, bare, un, hok', ru, q⟩ =>
    have q' : v = .bl true := q
    subst q'
    obtain rfl : u = Value.bool true := ru
    have more : ∀ p ∈ cs, ∃ m : Array Value, s'.heap.get? p.2 = some { cls := .none, data := .fields m } := fun p hp => by
      obtain ⟨m, z⟩ := un.tbls p.2 #[] (W.tab p hp)
      exact ⟨_, hok' p.2 _ z⟩
    have keep : ∀ b o, (∀ p ∈ cs, p.2 ≠ b) → s₁.heap.get? b = some o → s'.heap.get? b = some o := fun b o n e => by
      rcases W.only b with z | ⟨p, hp, z⟩ | ⟨ob, xs, z⟩
      · exact un.keep b o e z (by intro t; have t' : b ∈ ([] : List Addr) := t; simp at t') (by simp)
      · exact absurd z (n p hp)
      · obtain ⟨e1, _⟩ := hok b _ z
        obtain ⟨e2, _⟩ := hok' b _ (un.frzs b ob _ z)
        rw [e] at e1; cases e1
        exact e2
    have dec : ∀ b, (∃ p ∈ cs, p.2 = b) ∨ ∀ p ∈ cs, p.2 ≠ b := fun b => by
      by_cases h : ∃ p ∈ cs, p.2 = b
      · exact .inl h
      · exact .inr fun p hp z => h ⟨p, hp, z⟩
    refine ⟨rfl, ⟨fun b o e => ?_, fun b o e => ?_⟩, os, bare⟩
    · rcases dec b with ⟨p, hp, rfl⟩ | n
      · obtain ⟨m, hm⟩ := more p hp
        rw [TI.at_ p hp] at e; cases e
        exact .inr (.inl ⟨((TI.hd p hp).tab (TI.at_ p hp)).isCodeTable, rfl, #[], m, rfl, by rw [Array.empty_append]; exact hm⟩)
      · exact .inl (keep b o n e)
    · rcases dec b with ⟨p, hp, rfl⟩ | n
      · obtain ⟨m, hm⟩ := more p hp
        exact ⟨_, hm⟩
      · exact ⟨o, keep b o n e⟩
open Classical in
theorem head_callT [tt : TabList] {F : List D → FRes} {ns : List Int} (KX : K.In s₁.heap) (TT : TopIn mg s₁.heap) (TI : TabIn K s₁.heap cs) (hg : s₁.gens = #[]) (hr : Room k callerA) (ha : s₁.heap.get? a = some (lsO vs)) (hi : IntsAre vs ns) (hl : ns.length ≤ sizeLine)
    (hK : ∀ b o, K.lookup b = some o → o.cls ≠ .type "list") (hT : ∀ p ∈ tt.T, ∃ q ∈ cs, q.2 = p.1)
    (hF : ∀ base : Heap, K.In base → base.Ns mainGlobals mg → (∀ p ∈ cs, TabB base mg p.1 p.2) → FnOkG P w K mg base (L2.CX P w) k fa fd [x] (spF (mkB K mg) 1 none F)) (hbind : ∀ (s : Shared) (u : Value), BindsTo s fd ⟨[u], []⟩ [(x, u)])
    (hlaw : F [.lst (ns.map D.int)] = .ok (.fz (.bl true)) none) :
    codeAny (model P w) callerA (.call (.ref fa) ⟨[.ref a], []⟩) (fun r s' => r = .ok (.ret (.bool true)) ∧ OldK s₁.heap s'.heap ∧ s'.os = s₁.os ∧ AllBare s'.gens) s₁ := by
  have rv := vals_ints hi
  have hk : K.lookup a = none := by
    cases e : K.lookup a with
    | none => rfl
    | some o =>
      have e' := KX a o e
      rw [ha] at e'; cases e'
      exact absurd rfl (hK _ _ e)
  have aT : ¬ ∃ p ∈ cs, p.2 = a := fun ⟨p, hp, z⟩ => by
    have q := TI.at_ p hp
    rw [z, ha] at q; cases q
  let H : Hp := fun b => if b = a then some (HO.frz (lsO vs) (.lst (ns.map V.int))) else if ∃ p ∈ cs, p.2 = b then some (.tbl #[]) else none
  have Ha : H a = some (HO.frz (lsO vs) (.lst (ns.map V.int))) := if_pos rfl
  have Hp_ : ∀ p ∈ cs, H p.2 = some (.tbl #[]) := fun p hp => (if_neg (show ¬ p.2 = a from fun z => aT ⟨p, hp, z⟩)).trans (if_pos ⟨p, hp, rfl⟩)
  have Hn : ∀ b, b ≠ a → (¬ ∃ p ∈ cs, p.2 = b) → H b = none := fun b h1 h2 => (if_neg h1).trans (if_neg h2)
  have W : Watch K s₁.heap H a vs cs := by
    refine ⟨ha, fun b z => ?_, Hp_, fun b => ?_⟩
    · by_cases h1 : b = a
      · exact .inl ⟨h1, hk⟩
      · by_cases h2 : ∃ p ∈ cs, p.2 = b
        · exact .inr h2
        · exact absurd (Hn b h1 h2) z
    · by_cases h1 : b = a
      · exact .inr (.inr ⟨_, _, by rw [h1]; exact Ha⟩)
      · by_cases h2 : ∃ p ∈ cs, p.2 = b
        · exact .inr (.inl h2)
        · exact .inl (Hn b h1 h2)
  have hok : HOk P w H s₁.heap := fun b u z => by
    by_cases h1 : b = a
    · subst h1
      rw [Ha] at z; cases z
      exact ⟨ha, by rw [List.length_map]; exact hl, vs, _, rv, ha⟩
    · by_cases h2 : ∃ p ∈ cs, p.2 = b
      · obtain ⟨p, hp, rfl⟩ := h2
        rw [Hp_ p hp] at z; cases z
        exact TI.at_ p hp
      · rw [Hn b h1 h2] at z; cases z
  refine head_runT KX TT TI W hg hr hF hbind ?_ hok
  refine ⟨rfl, fun _ => False, [.lst (ns.map D.int)], fun _ z => z.elim, HB.of hok, (fun p hp => ?_), .cons (.lst (.inr ⟨lsO vs, Ha⟩) (fun z => z) (Reps.ints ns)) .nil, ?_⟩
  · obtain ⟨q, hq, e⟩ := hT p hp
    refine TabS.nil ?_
    rw [← e]; exact Hp_ q hq
  rw [hlaw]
  exact fun v H' _ _ r => by cases r; rfl
end
/-- THE END -/
theorem walk_ofT {l : PySem.W.OpenLaw} {n k : Nat} {q : Program} {loose : List Str} {XP : (Str → Option Value) → Heap → Prop} {YP : World → Heap → Prop} {d : DefRec} {K : Params → PySem.W.Frag} {F : List D → FRes} {x : Str} {rs : List Str}
    (hn : l.most = some n) (hn2 : n ≤ sizeLine) (hdf : d.params.defaults = []) (hr : Room k callerA)
    (hY : ∀ (w : World) (h : Heap), YP w h → (K w.params).In h) (hrec : (rs.all fun x => (recsOf q).any fun e => e.name == x) = true)
    (hF : ∀ (w : World) (mg : Str → Option Value) (fa : Addr) (h : Heap), (K w.params).In h → h.Ns mainGlobals mg → mg d.name = some (.ref fa) → (∀ x ∈ rs, ∀ fx, mg x = some (.ref fx) → OwnTab (K w.params) fx h) →
      (∀ b o, (K w.params).lookup b = some o → o.cls ≠ .type "list") ∧ ∃ (tt : TabList) (cs : List (Addr × Addr)) (fd : FuncData), TabIn (K w.params) h cs ∧ (∀ p ∈ tt.T, ∃ q ∈ cs, q.2 = p.1) ∧ (∀ (s : Shared) (u : Value), BindsTo s fd ⟨[u], []⟩ [(x, u)]) ∧
        ∀ base : Heap, (K w.params).In base → base.Ns mainGlobals mg → (∀ p ∈ cs, TabB base mg p.1 p.2) → FnOkG l.prog w (K w.params) mg base (L2.CX l.prog w) k fa fd [x] (@spF tt (@mkB tt (K w.params) mg) 1 none F))
    (hlaw : ∀ ns : List Int, ns.length ≤ n → F [.lst (ns.map D.int)] = .ok (.fz (.bl true)) none) :
    PySem.W.WalkO q loose XP YP l.row.toRowW d [] (fun f vs => PySem.call f vs) := by
  refine Att.attach_callB hn hdf fun w s₀ s₁ mg mb fa o pm cd doc a vs ns G Y ho hd hcd hmg hobj hints hlen hbits hg => ?_
  have KX := hY w _ Y
  have own : ∀ x ∈ rs, ∀ fx, mg x = some (.ref fx) → OwnTab (K w.params) fx s₁.heap := fun x hx fx hfx c P o1 fd1 e dd vs1 sl k1 k2 k3 k4 k5 => by
    obtain ⟨dL, hm, hn1⟩ := List.any_eq_true.mp (List.all_eq_true.1 hrec x hx)
    obtain rfl : dL.name = x := beq_iff_eq.mp hn1
    obtain ⟨a', o', fd', c', P', h1, h2, h3, h4, _, ⟨oc, vc, e1, _, e3, e4⟩, hP⟩ := G.T.tab dL hm
    rw [hfx] at h1; cases h1
    rw [KX _ _ k1] at h2; cases h2
    rw [k2] at h3; cases h3
    rw [k3] at h4; cases h4
    rw [KX _ _ k4] at e1; cases e1
    cases e3
    rw [k5] at e4; cases e4
    exact hP
  obtain ⟨hK, tt, cs, fd, TI, hT, hb, hF⟩ := hF w mg fa _ KX G.T.g hmg own
  exact head_callT KX ⟨G.T.g, ⟨mb, G.T.b, G.T.builtins⟩, G.T.nolimit, G.T.bmain⟩ TI hg hr hobj hints (Nat.le_trans hlen hn2) hK hT hF hb (hlaw ns hlen)
end VL
namespace VL
open PySem PySem.Spec PyProof.Rows L2
variable [tt : TabList]
/-! a clause's suite that begins with a look at the exception's field -/
def XSt (X : Cx) (j : Nat) (a : Addr) (cls : Value) (d : Option Addr) (m : Str → Option Bool) (T : Addr → Prop) (fp : Nat → Addr → Prop) (σ : L2.St) (H : Hp) (x : D) : Prop :=
  σ[j]? = some (some (.ref a)) ∧ ∃ ex : Exn, ex.arg = x ∧ ExR (bas X) H (avOf T fp) ex cls d ∧ m ex.nm = some true
section
variable {X : Cx} {W : WX} {j : Nat} {a0 : Addr} {cls : Value} {d0 : Option Addr} {m : Str → Option Bool}
def DEX (X : Cx) (W : WX) (j : Nat) (a0 : Addr) (cls : Value) (d0 : Option Addr) (m : Str → Option Bool) (e : Expr) (f : D → M TV) : Prop :=
  ∃ t, PE X e t ∧ ∀ E T io env fp σ H Q x, R (bas X) E T io fp env σ H → XSt X j a0 cls d0 m T fp σ H x → OKE (bas X) E T io env fp H σ Q W (f x env) → t σ H Q
def DAX (X : Cx) (W : WX) (j : Nat) (a0 : Addr) (cls : Value) (d0 : Option Addr) (m : Str → Option Bool) (e : List Expr) (f : D → List (M TV)) : Prop :=
  ∃ t, PA X e t ∧ ∀ E T io env fp σ H Q x, R (bas X) E T io fp env σ H → XSt X j a0 cls d0 m T fp σ H x → OKA (bas X) E T io env fp H σ Q W (cArgs (f x) env) → t σ H Q
def DTX (X : Cx) (W : WX) (j : Nat) (a0 : Addr) (cls : Value) (d0 : Option Addr) (m : Str → Option Bool) (e : Expr) (f : D → M Bool) : Prop :=
  ∃ t, PT X e t ∧ ∀ E T io env fp σ H Q x, R (bas X) E T io fp env σ H → XSt X j a0 cls d0 m T fp σ H x → OKT (bas X) E T io env fp H σ Q W (f x env) → t σ H Q
theorem dx_attr {nm n fld : Str} {C : Addr} {oe : Obj} {pn : List (Addr × Obj)} {Y : Cx} {p3 p4 : Pos} (hX : X = Y.suite a0 ((a0, oe) :: pn)) (hz : Zc cls d0 oe) (hfl : ∃ vs, oe.data = .fields vs) (T : XfC X.K C) (hno : PySem.W.findIn X.K (.ref C) fld = some none) (hm : X.mg nm = some (.ref C)) (hf : fldOf nm = fld) (hme : ∀ z, m z = some true → z = nm)
    (hv : PE X (.Name n p3) (tVar j)) (hb : ∀ env : PySem.Env, attributeBase (.Name n p3) fld env (eval (.Name n p3) env) = eval (.Name n p3) env := by intro _; rfl) : DEX X W j a0 cls d0 m (.Attribute (.Name n p3) fld p4) (fun x => cC x) := by
  subst hX
  refine ⟨_, pe_xf (C := C) T hno hz hfl hv (hb _), fun E T' io env fp σ H Q x r hs h => ?_⟩
  obtain ⟨ev, ex, rfl, ⟨C', dd, v, e1, e2, e3, e4, e5⟩, hmt⟩ := hs
  have en := hme _ hmt
  have e2 : (Y.suite a0 ((a0, oe) :: pn)).mg ex.nm = some (.ref C') := e2
  rw [en, hm] at e2
  cases e2
  exact ⟨.ref a0, ev, rfl, e1, dd, _, v, e3, e4, by rw [en, hf]; simp [List.lookup], h v fp H Ext.refl r e5⟩
theorem dax_cons {e : Expr} {es : List Expr} {f : D → M TV} {fs : List (M TV)} (he : DEX X W j a0 cls d0 m e f) (hr : DA X W es fs) (hs : starEach (e :: es) X.env = (false, eval e X.env) :: starEach es X.env := by rfl) : DAX X W j a0 cls d0 m (e :: es) (fun x => f x :: fs) := by
  obtain ⟨t, p, s⟩ := he
  obtain ⟨t', p', s'⟩ := hr.out
  refine ⟨_, pa_cons p p' hs, fun E T io env fp σ H Q x r hx h => ?_⟩
  refine okea_bind (f := f x) (s E T io env fp σ H _ x r hx) h fun tv env1 v fp1 H1 x1 r1 h1 k1 => ?_
  refine okaa_bind (s' E T io env1 fp1 σ H1 _ r1) k1 fun ts env2 vs fp2 H2 x2 r2 h2 k2 => ?_
  exact k2 _ fp2 H2 Ext.refl r2 (.cons (h1.ext x2) h2)
theorem dx_callB {e : Expr} {es : List Expr} {fs : D → List (M TV)} {x : Str} {id : String} {r : List V → Hp → VK → Prop} {op : List D → ORes} {p pos : Pos} (hc : CallR X (.builtin id) r) (hs : OpNS X r op) (hg : Gl X x) (hm : X.mg x = none) (hv : bootBuiltins x = some (.builtin id)) (ha : DAX X W j a0 cls d0 m (e :: es) fs)
    (hn : x ≠ "__name__" := by decide) (hdb : (x == ("__debug__" : Str)) = false := by decide)
    (hss : starEach (e :: es) X.env = (false, eval e X.env) :: starEach es X.env := by rfl) (hp : (backTo pos (starEach es X.env)).any (·.1) = false := by rfl) : DEX X W j a0 cls d0 m (.Call (.Name x p) (e :: es) [] pos) (fun z => cCall op (fs z)) := by
  obtain ⟨t, pa, s⟩ := ha
  refine ⟨_, peHB (pe_callB hc hg hm hv pa hn hdb hss hp), fun E T io env fp σ H Q z r1 hx h => ?_⟩
  refine okae_bind (s E T io env fp σ H _ z r1 hx) h fun ts env1 vs fp1 H1 x1 r1 h1 k1 => ?_
  cases e : getVs env1 ts with
  | none => simp only [e] at k1; exact k1.elim
  | some ds =>
    simp only [e] at k1
    exact hs H1 _ vs ds _ (AvOk.of r1) (getVs_reps r1 h1 e) (oke_fin r1 k1)
theorem dx_call {k n : Nat} {f : Addr} {fd : FuncData} {ps : List Str} {x : Str} {e : Expr} {es : List Expr} {p pos : Pos} {F : List D → FRes} {fs : D → List (M TV)} (G : FnOk X.prog X.w X.K X.mg X.base (L2.CX X.prog X.w) k f fd ps (spF (bas X) n none F)) (hr : Room k X.A) (hg : Gl X x) (hm : X.mg x = some (.ref f)) (hk : PySem.W.keepIn X.K (.ref f) = true)
    (hb : Binds X.K fd ps []) (tk : Takes X W) (ha : DAX X W j a0 cls d0 m (e :: es) fs) (hn : ∀ z, (fs z).length = n) (hdb : (x == ("__debug__" : Str)) = false := by decide) (he : starEach (e :: es) X.env = (false, eval e X.env) :: starEach es X.env := by rfl) (hpl : (backTo pos (starEach es X.env)).any (·.1) = false := by rfl) :
    DEX X W j a0 cls d0 m (.Call (.Name x p) (e :: es) [] pos) (fun z => cFn F (fs z)) := by
  obtain ⟨t, pa, s⟩ := ha
  refine ⟨_, pe_callSD (E := fun σ cls d H' => W cls d σ H') (dvs := []) G hr hg hm hk hb .nil (fun σ pins H s' e s'' I c => tk e s'' (XE.of_call I (fun cls d H' h => h) c)) pa hdb he hpl, fun E T io env fp σ H Q z R0 hx h => ?_⟩
  unfold cFn at h
  dsimp only at h
  cases ec : cArgs (fs z) env with
  | stuck => rw [ec] at h; exact h.elim
  | ex e env' => exact s E T io env fp σ H _ z R0 hx (by rw [ec] at h ⊢; exact h)
  | ok ts env1 =>
    rw [ec] at h
    refine s E T io env fp σ H _ z R0 hx ?_
    rw [ec]
    intro vs fp1 H1 x1 r1 h1
    rw [List.append_nil]
    exact sound_fn r1 h1 (fun ds b e => by rw [argsB_len e, cArgs_len ec, hn]) (OKE.after x1 h)
theorem dtx_val {a : Expr} {fa : D → M TV} (ha : DEX X W j a0 cls d0 m a fa) (he : ∀ whole, isTrue a X.env whole = (do let v ← whole; standAt a.pos; holding [v] (truthy v)) := by intro _; rfl) : DTX X W j a0 cls d0 m a (fun x => tst (fa x)) := by
  obtain ⟨ta, pa, sa⟩ := ha
  refine ⟨_, pt_val pa he, fun E T io env fp σ H Q x R0 hx h => ?_⟩
  refine oket_bind (f := fa x) (sa E T io env fp σ H _ x R0 hx) h fun t1 env1 v1 fp1 H1 x1 R1 h1 k1 => ?_
  cases g1 : getV env1 t1 with
  | none => simp only [g1] at k1; exact k1.elim
  | some d1 =>
    simp only [g1] at k1
    have p := h1.get R1 g1
    cases d1 with
    | bl b => exact ⟨b, rep1_bl p, k1 fp1 H1 Ext.refl R1⟩
    | _ => exact False.elim k1
theorem dtx_not {a : Expr} {f : D → M Bool} {pos : Pos} (hf : DTX X W j a0 cls d0 m a f) : DTX X W j a0 cls d0 m (.UnaryOp .Not a pos) (fun x => tNotB (f x)) := by
  obtain ⟨t, p, s⟩ := hf
  refine ⟨_, pt_not p, fun E T io env fp σ H Q x R0 hx h => ?_⟩
  exact okt_bind (f := f x) (s E T io env fp σ H _ x R0 hx) h fun b env1 fp1 H1 x1 R1 k1 => k1 fp1 H1 Ext.refl R1
theorem dtx_cmp {op : CmpOp} {r : R2} {o : D → D → ORes} {a b : Expr} {fa : D → M TV} {fb : M TV} {pos : Pos} (ho : OpR X (compareOp op) r) (hs : Op2S X r o) (ha : DEX X W j a0 cls d0 m a fa) (hb : DE X W b fb) (hm : behindInMarks op b = false) : DTX X W j a0 cls d0 m (.Compare a [op] [b] pos) (fun x => tst (cBin o (fa x) fb)) := by
  obtain ⟨ta, pa, sa⟩ := ha
  obtain ⟨tb, pb, sb⟩ := hb.out
  refine ⟨_, pt_cmpH ho pa pb hm, fun E T io env fp σ H Q x R0 hx h => ?_⟩
  have key : ∀ Q', OKE (bas X) E T io env fp H σ Q' W (cBin o (fa x) fb env) → tHB (tOp r ta tb) σ H Q' := fun Q' h => by
    refine oke_bind (f := fa x) (sa E T io env fp σ H _ x R0 hx) h fun t1 env1 v1 fp1 H1 x1 R1 h1 k1 => ?_
    refine oke_bind (f := fb) (sb E T io env1 fp1 σ H1 _ R1) k1 fun t2 env2 v2 fp2 H2 x2 R2 h2 k2 => ?_
    have h1' := h1.ext x2
    cases g1 : getV env2 t1 with
    | none => simp only [g1] at k2; exact k2.elim
    | some d1 =>
      cases g2 : getV env2 t2 with
      | none => simp only [g1, g2] at k2; exact k2.elim
      | some d2 =>
        simp only [g1, g2] at k2
        exact hs H2 _ v1 v2 d1 d2 _ (AvOk.of R2) (h1'.get R2 g1) (h2.get R2 g2) (oke_fin R2 k2)
  refine oket_bind (f := cBin o (fa x) fb) (key _) h fun t1 env1 v1 fp1 H1 x1 R1 h1 k1 => ?_
  cases g1 : getV env1 t1 with
  | none => simp only [g1] at k1; exact k1.elim
  | some d1 =>
    simp only [g1] at k1
    have p := h1.get R1 g1
    cases d1 with
    | bl b => exact ⟨b, rep1_bl p, k1 fp1 H1 Ext.refl R1⟩
    | _ => exact False.elim k1
end
/-- if c: .. else: .. as a clause's suite -/
theorem suite_if {X : Cx} {nio : Bool} {j : Nat} {m : Str → Option Bool} {c : Expr} {a b : List Stmt} {pos : Pos} {fc : D → M Bool} {f g : SM}
    (hc : ∀ (a0 : Addr) (oe : Obj) (cls : Value) (d0 : Option Addr) (pn : List (Addr × Obj)), Zc cls d0 oe → (∃ vs, oe.data = .fields vs) → DTX (X.suite a0 ((a0, oe) :: pn)) W0 j a0 cls d0 m c fc ∧ DSs (X.suite a0 ((a0, oe) :: pn)) W0 nio a f ∧ DSs (X.suite a0 ((a0, oe) :: pn)) W0 nio b g) :
    SuiteOk X nio (some j) m [.If c a b pos] (fun x => sIf (fc x) f g) := fun a0 oe cls d0 pn hz hfl => by
  obtain ⟨⟨t, p, s⟩, ha, hb⟩ := hc a0 oe cls d0 pn hz hfl
  obtain ⟨t1, p1, s1⟩ := ha.out
  obtain ⟨t2, p2, s2⟩ := hb.out
  refine ⟨_, pss_one (ps_if p p1 p2), fun E T io env fp σ H D e hn r hj hx hm h => ?_⟩
  refine okts_bind (f := fc e.arg) (s E T io env fp σ H _ e.arg r ⟨hj j rfl, e, rfl, hx, hm⟩) h fun b env1 fp1 H1 x1 r1 k => ?_
  cases b with
  | true => exact iteT (s1 E T io env1 fp1 σ H1 D hn r1 k)
  | false => exact iteF (s2 E T io env1 fp1 σ H1 D hn r1 k)
end VL
namespace VL
open PySem PySem.Spec PyProof.Rows L2 LamX
variable [tt : TabList]
/-! for the printed texts -/
/-- where a lambda stands -/
def bodyOf : Stmt → List Stmt
  | .For _ _ b _ _ => b
  | .While _ b _ _ => b
  | .If _ b _ _ => b
  | .Try b _ _ _ _ => b
  | _ => []
def elseOf : Stmt → List Stmt
  | .If _ _ b _ => b
  | _ => []
def valOf : Stmt → Expr
  | .Assign _ v _ => v
  | .Expr v _ => v
  | .Return (some v) _ => v
  | .For _ it _ _ _ => it
  | _ => .Constant .none 0 ⟨0, 0, 0, 0⟩
def kids : Expr → List Expr
  | .List es _ => es
  | .Tuple es _ _ => es
  | .BinOp l _ r _ => [l, r]
  | .Call _ as _ _ => as
  | _ => []
def stAt (l : List Stmt) (i : Nat) : Stmt := l.getD i (.Pass ⟨0, 0, 0, 0⟩)
def exAt (l : List Expr) (i : Nat) : Expr := l.getD i (.Constant .none 0 ⟨0, 0, 0, 0⟩)
def toLam (e : Expr) (q : Str) : VL.LamS := match e with
  | .Lambda a b s _ => ⟨a, b, s, q⟩
  | _ => ⟨⟨[], [], none, [], [], none, []⟩, e, defScope (.Pass ⟨0, 0, 0, 0⟩), q⟩
section
variable {X : Cx} {k : Nat}
theorem LamOk.of {C : List (Str × Addr)} {n : Nat} {f : M TV} {L : VL.LamS} (h : tt.lam n = L) (hc : cloFrom X.env.cells L.scope.names [] = cloFrom C L.scope.names []) (q : L.qual = X.env.qual) (P : LamP X.env.scope L.scope) (bn : ∃ bn, LBind L.params L.body L.scope bn ∧ ∀ y ∈ bn, y ∉ X.N)
    (body : ∀ (A : Around) (outer : List PySem.Env) (s : Shared) (H : Hp) (E : XK) (f0 c' : Addr), Room k (A.deeper (lamEnv X L.scope s.heap.objs.size f0 c')) → DE (lamCx X A outer s H E L.scope f0 c') (fun cls d _ H => E cls d H) L.body f) : LamOk X k C n f := by
  subst h; exact ⟨hc, q, P, bn, body⟩
theorem la_nil {C : List (Str × Addr)} : ∀ n f, ([] : List (Nat × M TV)).lookup n = some f → LamOk X k C n f := fun n f h => by cases h
theorem la_cons {C : List (Str × Addr)} {n : Nat} {f : M TV} {fs : List (Nat × M TV)} (h : LamOk X k C n f) (t : ∀ m g, fs.lookup m = some g → LamOk X k C m g) : ∀ m g, ((n, f) :: fs).lookup m = some g → LamOk X k C m g := fun m g e => by
  rw [List.lookup_cons] at e
  split at e
  · rename_i q
    rw [beq_iff_eq.mp q]; cases e; exact h
  · exact t m g e
end
section
variable {K : PySem.W.Frag} {h : Heap} {mg : Str → Option Value} {base : Heap}
theorem tabIn_nil : TabIn K h [] := ⟨(fun p z => by cases z), (fun p z => by cases z), (fun p z => by cases z)⟩
theorem tabIn_cons {fx c P : Addr} {fd : FuncData} {oc : Value} {od : Option Addr} {osl : Array (Option Value)} {cs : List (Addr × Addr)} (KX : K.In h) (own : OwnTab K fx h) (lk : K.lookup fx = some ⟨oc, od, .func fd, osl⟩) (hc : fd.code = .ref c) (hh : PySem.W.codeHdIn K c P = true) (hn : (K.lookup P).isNone = true) (t : TabIn K h cs) : TabIn K h ((c, P) :: cs) := by
  have hd := PySem.W.codeHd_of_K KX hh
  have at_ : h.get? P = some emT := by
    have hh' := hh
    unfold PySem.W.codeHdIn at hh
    split at hh
    · rename_i vs sl hk
      simp only [Bool.and_eq_true] at hh
      obtain ⟨⟨⟨⟨⟨e1, _⟩, _⟩, _⟩, _⟩, _⟩ := hh
      split at e1
      · rename_i P' h11
        obtain rfl : P' = P := beq_iff_eq.mp e1
        exact own c _ _ fd _ _ vs _ lk rfl hc hk h11
      · cases e1
    · cases hh
  refine ⟨fun p z => ?_, fun p z => ?_, fun p z => ?_⟩
  · rcases List.mem_cons.1 z with rfl | z
    · exact at_
    · exact t.at_ p z
  · rcases List.mem_cons.1 z with rfl | z
    · exact Option.isNone_iff_eq_none.1 hn
    · exact t.off p z
  · rcases List.mem_cons.1 z with rfl | z
    · exact hd
    · exact t.hd p z
end
end VL
namespace VL
open PySem PySem.Spec PyProof.Rows L2
variable [tt : TabList]
/-! t.index(i), t a tuple of whole numbers -/
def rTupIx (K : PySem.W.Frag) : V → List V → Hp → VK → Prop := fun x xs H Q => ∃ (p : Addr) (ns : List Int) (i : Int) (j : Nat), x = .ref p ∧ xs = [.int i] ∧ SqT K H p (ns.map V.int) ∧ ns[j]? = some i ∧ (∀ m, m < j → ns[m]? ≠ some i) ∧ Q (.int (j : Nat)) H
section
variable {X : Cx}
theorem flat_int (ns : List Int) : (ns.map V.int).all flatV = true := by
  induction ns with
  | nil => rfl
  | cons n ns ih => rw [List.map_cons, List.all_cons, ih]; rfl
theorem mt_tupIx : MtR X "tuple.index" (rTupIx X.K) := by
  intro pins s σ H x xs v us Q I rx rs h
  obtain ⟨p, ns, i, j, rfl, rfl, hq, hi, hno, q⟩ := h
  cases rx
  obtain ⟨u, rfl, t, rfl⟩ := vals1 rs
  obtain ⟨its, rv, pl, _⟩ := I.tuple hq
  obtain ⟨⟨cl, dd, dt, sl⟩, ho, hc, n, hd⟩ := pl
  dsimp only at hc hd
  subst hc hd
  have hlen : its.length = ns.length := by rw [← rv.length, List.length_map]
  have look : ∀ (m : Nat) (hm : m < its.toArray.size), ∃ k t', ns[m]? = some k ∧ its.toArray[m] = Value.int k t' := fun m hm => by
    have hm1 : m < its.length := by simpa using hm
    have hm2 : m < ns.length := by rw [← hlen]; exact hm1
    obtain ⟨w, hw, t', hw'⟩ := rv.get (i := m) (x := .int ns[m]) (by simp [hm2])
    have e : its[m] = w := (List.getElem?_eq_some_iff.mp hw).2
    refine ⟨ns[m], t', List.getElem?_eq_getElem hm2, ?_⟩
    rw [← hw', ← e]; simp
  have hj : j < its.toArray.size := by
    have : j < ns.length := (List.getElem?_eq_some_iff.mp hi).1
    simpa [hlen] using this
  have hit : eqU (.int i) its.toArray[j] = true := by
    obtain ⟨k, t', h1, h2⟩ := look j hj
    rw [hi] at h1; cases h1
    rw [h2]
    show (i == i) = true
    simp
  have miss : ∀ m (hm : m < its.toArray.size), m < j → eqU (.int i) its.toArray[m] = false := fun m hm hmj => by
    obtain ⟨k, t', h1, h2⟩ := look m hm
    rw [h2]
    show (k == i) = false
    exact beq_eq_false_iff_ne.mpr fun e => hno m hmj (by rw [← e]; exact h1)
  have meets := TI.tuple_indexAt p its.toArray n dd sl (.int i t) (eqU (.int i)) j hj hit miss
  exact call_meets PySem.F.slot_tuple_index ⟨_, ho, rfl⟩ PySem.F.entry_tuple_index (PySem.F.args_tuple_index_2 _ _) meets ⟨ho, (fun w hw => mem_eqAt (x := .int i) ⟨t, rfl⟩ rfl rv (flat_int ns) w (by simpa using hw)), .int (j : Nat), H, I.tok _, ⟨_, rfl⟩, q⟩
def intD : D → Option Int
  | .int i => some i
  | _ => none
def intsD : List D → Option (List Int)
  | [] => some []
  | d :: ds => match intD d, intsD ds with
    | some i, some is => some (i :: is)
    | _, _ => none
theorem intsD_eq : ∀ {ds : List D} {ns : List Int}, intsD ds = some ns → ds = ns.map D.int
  | [], ns, e => by cases e; rfl
  | d :: ds, ns, e => by
    unfold intsD at e
    cases e1 : intD d with
    | none => rw [e1] at e; cases e
    | some i =>
      cases e2 : intsD ds with
      | none => rw [e1, e2] at e; cases e
      | some is =>
        rw [e1, e2] at e; cases e
        rw [intsD_eq e2]
        cases d <;> cases e1
        rfl
theorem intsD_map : ∀ {ns : List Int}, intsD (ns.map D.int) = some ns
  | [] => rfl
  | n :: ns => by rw [List.map_cons]; unfold intsD; rw [intsD_map]; rfl
def oTupIx : D → List D → ORes
  | .tup ds, [.int i] => match intsD ds with
    | some ns => match ns.findIdx? (· == i) with
      | some j => .val (.int (j : Nat))
      | none => .stuck
    | none => .stuck
  | _, _ => .stuck
theorem s_tupIx : OpMS X (rTupIx X.K) oTupIx := by
  intro H av x xs d ds Q ha r rs h
  unfold oTupIx at h
  split at h
  · rename_i es i
    split at h
    · rename_i ns hn
      split at h
      · rename_i j hj
        obtain ⟨y, rfl, ry⟩ := rep1s_1 rs
        cases ry
        have en := intsD_eq hn
        subst en
        cases r with
        | @tup a vs _ h1 h2 =>
          have ev := h2.map_int
          subst ev
          rw [List.findIdx?_eq_some_iff_getElem] at hj
          obtain ⟨hl, q1, q2⟩ := hj
          have q1 : ns[j] = i := by simpa using q1
          refine ⟨a, ns, i, j, rfl, rfl, .inl (.inl h1), by rw [List.getElem?_eq_getElem hl, q1], fun m hm e => ?_, opq0 h (.int _)⟩
          have q := q2 m hm
          have hml : m < ns.length := Nat.lt_trans hm hl
          rw [List.getElem?_eq_getElem hml] at e
          simp [Option.some.inj e] at q
      · exact h.elim
    · exact h.elim
  · exact h.elim
end
end VL
namespace VL
open PySem PySem.Spec PyProof.Rows L2 LamX
variable [tt : TabList]
/-! a lambda handed to a def that runs it in a try: try: return ("..", a()) / except X as e: return ("..", e.f) / .. -/
abbrev TC := Str × (Str → Option Bool)
def thGo : List TC → Exn → Option D
  | [], _ => none
  | (txt, m) :: r, e => match m e.nm with
    | some true => some (.tup [.str txt, e.arg])
    | some false => thGo r e
    | none => none
def thRes (txt : Str) (l : List TC) : Res TV → Res TV
  | .ok tv env2 => match frzV tv with
    | some d => .ok (.fz (.tup [.str txt, d])) env2
    | none => .stuck
  | .ex e env2 => match thGo l e with
    | some d => .ok (.fz d) env2
    | none => .stuck
  | .stuck => .stuck
def cThunk (txt : Str) (l : List TC) (C : List (Str × Addr)) (fs : List (Nat × M TV)) (fa : M TV) : M TV := fun env => (fa env).bind fun t env1 => match getV env1 t with
  | some (.clo n C') => if C' = C then (match fs.lookup n with
    | some fb => thRes txt l (fb env1)
    | none => .stuck) else .stuck
  | _ => .stuck
inductive TCl (Z : Cx) : List ExceptHandler → List TC → Prop
  | nil : TCl Z [] []
  | cons {nm n fld txt : Str} {j : Nat} {C : Addr} {m : Str → Option Bool} {p1 p2 p3 p4 p5 np ps : Pos} {k1 k2 : Nat} {hds : List ExceptHandler} {l : List TC} : Names Z nm (.ref C) → Z.N[j]? = some n → Z.env.kindOf n = some .local → XfC Z.K C → PySem.W.findIn Z.K (.ref C) fld = some none → Z.mg nm = some (.ref C) → fldOf nm = fld → (∀ z, m z = some true → z = nm) → MatchOk Z (.ref C) m →
      (∀ (a : Addr) (oe : Obj) (pn : List (Addr × Obj)), PE (Z.suite a ((a, oe) :: pn)) (.Name n p3) (tVar j)) → (∀ env : PySem.Env, starEach [.Constant (.str txt) k1 p2, .Attribute (.Name n p3) fld p4] env = (false, eval (.Constant (.str txt) k1 p2) env) :: starEach [.Attribute (.Name n p3) fld p4] env) →
      (∀ env : PySem.Env, starEach [.Attribute (.Name n p3) fld p4] env = (false, eval (.Attribute (.Name n p3) fld p4) env) :: starEach [] env) → (∀ env : PySem.Env, attributeBase (.Name n p3) fld env (eval (.Name n p3) env) = eval (.Name n p3) env) → TCl Z hds l →
      TCl Z (.ExceptHandler (some (.Name nm np)) (some n) [.Return (some (.Tuple [.Constant (.str txt) k1 p2, .Attribute (.Name n p3) fld p4] k2 p5)) p1] ps :: hds) ((txt, m) :: l)
section
variable {Z : Cx}
theorem TCl.out {hds : List ExceptHandler} {l : List TC} (h : TCl Z hds l) : ∃ cl, Cls Z hds cl ∧ ∀ (Y : Ends) (W : WX) (σ : L2.St) (H : Hp) (e : Exn) (cls : Value) (dx : Option Addr) (av : Addr → Prop) (d : D), σ.length = Z.N.length → ExR (mkB Z.K Z.mg) H av e cls dx → thGo l e = some d →
    (∀ txt v q, d = .tup [.str txt, e.arg] → Rep (mkB Z.K Z.mg) H av v e.arg → H q = none → HB (upd H q (.tup [.str txt, v])) → Y.rt (.ref q) (upd H q (.tup [.str txt, v]))) → wTrys Z.K W Y cl cls dx σ H := by
  induction h with
  | nil => exact ⟨[], .nil, fun D W σ H e cls dx av d hl ex k _ => by cases k⟩
  | @cons nm n fld txt j C m p1 p2 p3 p4 p5 np ps k1 k2 hds l nam hj kn T hno hm hf hme mo hv hs1 hs2 hb _ ih =>
    obtain ⟨cl, hc, go⟩ := ih
    refine ⟨_, .as nam hj kn (fun a oe cls d pn hz hfl => pss_cons (ps_ret (peHB (pe_tup (pa_cons pe_str (pa_cons (pe_xf (C := C) T hno hz hfl (hv a oe pn) (hb _)) pa_nil (hs2 _)) (hs1 _))))) pss_nil) hc, fun D W σ H e cls dx av d hl ex k w => ?_⟩
    obtain ⟨C', dd, v, c1, c2, c3, c4, c5⟩ := id ex
    unfold thGo at k
    cases e2 : m e.nm with
    | none => simp only [e2] at k; cases k
    | some b =>
      simp only [e2] at k
      refine ⟨b, by rw [c1]; exact mo e.nm C' b c2 e2, fun hb a ha => ?_, fun hb => ?_⟩
      · subst hb
        simp only at k
        have en := hme _ e2
        have c2 : Z.mg e.nm = some (.ref C') := c2
        rw [en, hm] at c2
        cases c2
        have hlj : j < σ.length := by rw [hl]; exact (List.getElem?_eq_some_iff.mp hj).1
        refine ⟨.ref a, List.getElem?_set_self hlj, rfl, c1, dd, _, v, c3, c4, by rw [en, hf]; simp [List.lookup], by show 2 ≤ sizeLine; decide, fun q hq hb2 => ?_⟩
        exact w txt v q (Option.some.inj k).symm c5 hq hb2
      · subst hb
        exact go D W σ H e cls dx av d hl ex k w
end
section
variable {X : Cx} {W : WX}
/-- a(), in the def that got the lambda, at the entry -/
theorem pe_act {C : List (Str × Addr)} {Z : Cx} {fb : M TV} {k n i : Nat} {a : Str} {f c' : Addr} {t : Option Addr} {pins : List (Addr × Obj)} {σ : L2.St} {H1 : Hp} {s1 : Shared} {WZ : WX} {p1 p2 : Pos} (I1 : Inv X pins σ H1 s1) (L : LamOk X k C n fb) (hpr : Z.prog = X.prog) (hw : Z.w = X.w) (hK : Z.K = X.K) (hmg : Z.mg = X.mg) (hbase : Z.base = X.base)
    (hf : H1 f = some (FnO f ((tt.lam n).on X.env.cells) c' t)) (hc : H1 c' = some (CodeO c' ((tt.lam n).qual ++ "<lambda>"))) (hd : DefO H1 (tt.lam n).params t)
    (hH : Z.H_0 = H1) (hs : Z.s_0 = s1) (hfs : Z.fs = frs X.stack) (hex : Z.ex = []) (hr : Room (k + 1) Z.A) (tk : Takes Z WZ) (pv : ∀ pos, PE Z (.Name a pos) (tVar i)) :
    PE Z (.Call (.Name a p1) [] [] p2) (fun σZ HZ Q => σZ[i]? = some (some (.ref f)) ∧ HZ = H1 ∧ cE (bas X) (fun cls d _ H' => WZ cls d σZ H') fb σ H1 Q) := by
  refine ⟨fun pinsZ sZ σZ HZ Q IZ h => ?_⟩
  obtain ⟨hs0, eH, hb⟩ := h
  refine wpAny_Call_Name_kw (thn ((pv p1).run pinsZ sZ σZ HZ (fun v H' => v = .ref f ∧ H' = HZ) IZ ⟨.ref f, hs0, rfl, rfl⟩) fun u s2 ⟨v, H', I2, r1, q1⟩ => ?_)
  obtain ⟨ev, eH2⟩ := q1
  subst ev
  rw [eH2, eH] at I2
  obtain rfl : u = Value.ref f := r1
  obtain ⟨⟨doc, pm, ctv, of1⟩, _, _⟩ := I2.hok f _ hf
  refine PySem.W.callWith_F0 ⟨_, _, _, _, of1⟩ ?_
  obtain ⟨bn, BN, hbn⟩ := L.bn
  have hq : (tt.lam n).on X.env.cells = ⟨(tt.lam n).params, (tt.lam n).body, (tt.lam n).scope, X.env.qual ++ "<lambda>", cloFrom X.env.cells (tt.lam n).scope.names []⟩ := by
    unfold VL.LamS.on; rw [L.qual]
  rw [hq] at hf
  rw [L.qual] at hc
  have un : Un (frs X.stack) [] H1 H1 s1.heap s2.heap := by
    have b := I2.base
    rw [hH, hs, hfs, hex] at b
    exact b
  have e0 : Env0 X.prog X.w X.K X.mg X.base Z.A Z.stack s2 H1 := by
    have e := I2.env0
    rw [hpr, hw, hK, hmg, hbase] at e
    exact e
  have rc := lam_run (E := fun cls d H' => WZ cls d σZ H') (σ' := σ) (Q := Q) I1 L.P BN e0 I2.nolimit hr.hd un hr hf hc hd (fun i y v h1 h2 => ⟨fun z => hbn y z (List.mem_of_getElem? h1), h2⟩) rfl (L.body _ _ s2 H1 _ f c' (hr.deeper _)) hb
  rw [← hpr, ← hw] at rc
  refine wpAny_call (codeAny_mono rc fun r s' hq => ?_)
  cases r with
  | error e => exact tk e s' (XE.of_call I2 (fun cls d H' h => h) hq)
  | ok fl =>
    cases fl with
    | ret u => exact I2.after hq
    | next => exact False.elim hq
    | brk => exact False.elim hq
    | cont => exact False.elim hq
end
end VL
namespace VL
open PySem PySem.Spec PyProof.Rows L2 LamX
variable [tt : TabList]
section
variable {X : Cx} {W : WX}
theorem th_ok {B : Bas} {E T : Addr → Prop} {io : Option V} {env env2 : Env} {fp : Nat → Addr → Prop} {σ : L2.St} {H : Hp} {Q : VK} {W W' : WX} {txt : Str} {l : List TC} {tv : TV} (k : OKE B E T io env fp H σ Q W (thRes txt l (.ok tv env2))) :
    OKE B E T io env fp H σ (fun v H2 => (2 ≤ sizeLine ∧ ∀ q, H2 q = none → HB (upd H2 q (.tup [.str txt, v])) → Q (.ref q) (upd H2 q (.tup [.str txt, v])))) W' (.ok tv env2) := by
  unfold thRes at k
  cases e : frzV tv with
  | none => simp only [e] at k; exact k.elim
  | some d =>
    simp only [e] at k
    refine oke_hold fun v fp' H' x r hh => ⟨by decide, fun q hq hb => ?_⟩
    have rv : Rep B H' (avOf T fp') v d := by
      cases tv with
      | sl i => cases e
      | fz d' => cases e; exact hh
      | ow κ d' => cases e; exact hh
    have g := grow_upd (o := .tup [.str txt, v]) hq
    exact k (.ref q) fp' _ (x.trans (Ext.grow g)) (r.grow g hb) (.tup upd_same (fun z => by obtain ⟨o, e, _⟩ := r.all q z; rw [hq] at e; cases e) (.cons (.str _) (.cons (rv.grow g) .nil)))
/-- f(e), e a lambda of the running def -/
theorem de_thunk {C : List (Str × Addr)} {fs : List (Nat × M TV)} {k : Nat} {a txt x : Str} {l : List TC} {g : Addr} {fd : FuncData} {st : Stmt} {N : List Str} {e : Expr} {fa : M TV} {p pos p1 p2 p3 p4 p5 p6 : Pos} {k1 k2 : Nat} {h₀ : ExceptHandler} {hds : List ExceptHandler}
    (F : Fun X.K x x st g fd) (S : FnScope N [a] (defScope st)) (hbs : Binds X.K fd [a] []) (hg : Gl X x) (hm : X.mg x = some (.ref g))
    (hbody : defBody st = [.Try [.Return (some (.Tuple [.Constant (.str txt) k1 p1, .Call (.Name a p2) [] [] p3] k2 p4)) p5] (h₀ :: hds) [] [] p6])
    (hcl : ∀ (A : Around) (outer : List PySem.Env) (s : Shared) (H : Hp) (E : XK), TCl (cxOf (L2.CX X.prog X.w) X.prog X.w X.K X.mg X.base N x (defScope st) g fd.code A outer s H E) (h₀ :: hds) l)
    (hv : Vis (defScope st) a) (hN : N[(0 : Nat)]? = some a) (L : ∀ n f, fs.lookup n = some f → LamOk X k C n f) (hr : Room (k + 2) X.A) (ha : DE X W e fa)
    (hd1 : (a == ("__debug__" : Str)) = false := by decide) (hd2 : (a == ("__classdict__" : Str)) = false := by decide) (hdb : (x == ("__debug__" : Str)) = false := by decide)
    (hs1 : ∀ env : PySem.Env, starEach [.Constant (.str txt) k1 p1, .Call (.Name a p2) [] [] p3] env = (false, eval (.Constant (.str txt) k1 p1) env) :: starEach [.Call (.Name a p2) [] [] p3] env := by intro _; rfl) (hs2 : ∀ env : PySem.Env, starEach [.Call (.Name a p2) [] [] p3] env = (false, eval (.Call (.Name a p2) [] [] p3) env) :: starEach [] env := by intro _; rfl)
    (hs : starEach [e] X.env = (false, eval e X.env) :: starEach [] X.env := by rfl) (hpl : (backTo pos (starEach [] X.env)).any (·.1) = false := by rfl) :
    DE X W (.Call (.Name x p) [e] [] pos) (cThunk txt l C fs fa) := by
  obtain ⟨ta, pa, sa⟩ := (da_cons (hs := hs) ha da_nil).out
  refine .mk ⟨fun σ H Q => ta σ H fun vs H1 => ∃ (n : Nat) (f c' : Addr) (t : Option Addr) (fb : M TV) (E T : Addr → Prop) (io : Option V) (env1 : Env) (fp1 : Nat → Addr → Prop), vs = [.ref f] ∧ R (bas X) E T io fp1 env1 σ H1 ∧ fs.lookup n = some fb ∧ H1 f = some (FnO f ((tt.lam n).on X.env.cells) c' t) ∧ H1 c' = some (CodeO c' ((tt.lam n).qual ++ "<lambda>")) ∧ DefO H1 (tt.lam n).params t ∧
      OKE (bas X) E T io env1 fp1 H1 σ Q W (thRes txt l (fb env1)), ⟨fun pins s σ H Q I h => ?_⟩, fun E T io env fp σ H Q r h => ?_⟩
  · obtain ⟨oc, od, kV, doc, pm, an, cdv, ct, osl, rfl, lk, hcd⟩ := F.ex
    refine wpAny_Call_Name_kw (ld_glob I hg hm ?_ hdb)
    refine PySem.W.callWith_K (h₀ := X.base) I.ok.mod.kin F.kp (thn (pa.run pos pins s σ H _ I h) fun us s1 ⟨vs, H1, I1, r, q⟩ => ⟨I1.kIn, ?_⟩) hs hpl
    obtain ⟨n, f, c', t, fb, E, T, io, env1, fp1, rfl, r1, el, hf, hc, hd, key⟩ := q
    have hl : us.length = [a].length := by rw [← r.length]; rfl
    have rc : codeAny (model X.prog X.w) X.A (.call (.ref g) ⟨us, []⟩) (CR (L2.CX X.prog X.w) X.stack X.prog X.w H1 s1 Q (fun _ _ _ => False)) s1 := by
      refine run_ofS (N := N) (ps := [a]) (us := us) (vs := [.ref f]) lk hcd S hr I1.env0 (by have b := hbs s1 us I1.kIn (by rw [List.append_nil]; exact hl); rw [List.append_nil] at b; exact b) r rfl fun hr' => ?_
      obtain ⟨cl, hcs, go⟩ := (hcl X.A X.stack s1 H1 (fun _ _ _ => False)).out
      have tk0 : Takes (cxOf (L2.CX X.prog X.w) X.prog X.w X.K X.mg X.base N x (defScope st) g cdv X.A X.stack s1 H1 (fun _ _ _ => False)) (fun _ _ _ _ => False) := L2.takes0
      have P := ps_trys (pos := p6) (X := cxOf (L2.CX X.prog X.w) X.prog X.w X.K X.mg X.base N x (defScope st) g cdv X.A X.stack s1 H1 (fun _ _ _ => False)) rfl rfl S.nd tk0
        (fun W' pn xe tk' => pss_one (ps_ret (pos := p5) (peHB (pe_tup (x1 := k2) (pos := p4) (pa_cons (pe_str (pos := p1)) (pa_cons (VL.pe_act (p1 := p2) (p2 := p3) (i := 0) I1 (L n fb el) rfl rfl rfl rfl rfl hf hc hd rfl rfl rfl rfl hr' tk' (fun _ => pe_var hN hv hd1 hd2)) pa_nil (hs2 _)) (hs1 _)))))) hcs
      rw [hbody]
      refine ⟨_, pss_one P, ?_⟩
      have h0 : (L2.start N [V.ref f])[(0 : Nat)]? = some (some (.ref f)) := by
        unfold L2.start; rfl
      have hlen : (L2.start N [V.ref f]).length = N.length := by
        have h1 : 1 ≤ N.length := by
          have := (List.getElem?_eq_some_iff.mp hN).1
          omega
        unfold L2.start
        simp only [List.length_append, List.length_map, List.length_replicate, List.length_cons, List.length_nil]; omega
      refine ⟨h0, rfl, E, T, io, env1, fp1, r1, ?_⟩
      cases ef : fb env1 with
      | stuck => rw [ef] at key; exact key.elim
      | ok tv env2 => rw [ef] at key; exact th_ok key
      | ex ee env2 =>
        rw [ef] at key
        unfold thRes at key
        dsimp only at key
        cases et : thGo l ee with
        | none => rw [et] at key; exact key.elim
        | some d =>
          rw [et] at key
          intro cls dx fp' H' x1 r2 ex
          refine go _ _ _ H' ee cls dx (avOf T fp') d hlen ex et fun txt' v q ed rv hq hb => ?_
          have gq := grow_upd (o := .tup [.str txt', v]) hq
          refine key (.ref q) fp' _ (x1.trans (Ext.grow gq)) (r2.grow gq hb) ?_
          rw [ed]
          exact .tup upd_same (fun z => by obtain ⟨o, e, _⟩ := r2.all q z; rw [hq] at e; cases e) (.cons (.str _) (.cons (rv.grow gq) .nil))
    refine wpAny_call (codeAny_mono rc fun r s' hq => ?_)
    cases r with
    | error e =>
      obtain ⟨_, _, _, _, _, _, _, _, _, _, _, _, z⟩ := hq
      exact z.elim
    | ok fl =>
      cases fl with
      | ret u => exact I1.after hq
      | next => exact False.elim hq
      | brk => exact False.elim hq
      | cont => exact False.elim hq
  · unfold cThunk at h
    have hA : OKA (bas X) E T io env fp H σ (fun vs H1 => ∃ (n : Nat) (f c' : Addr) (t : Option Addr) (fb : M TV) (E T : Addr → Prop) (io : Option V) (env1 : Env) (fp1 : Nat → Addr → Prop), vs = [.ref f] ∧ R (bas X) E T io fp1 env1 σ H1 ∧ fs.lookup n = some fb ∧ H1 f = some (FnO f ((tt.lam n).on X.env.cells) c' t) ∧ H1 c' = some (CodeO c' ((tt.lam n).qual ++ "<lambda>")) ∧ DefO H1 (tt.lam n).params t ∧
      OKE (bas X) E T io env1 fp1 H1 σ Q W (thRes txt l (fb env1))) W (cArgs [fa] env) := by
      unfold cArgs
      cases e1 : fa env with
      | stuck => rw [e1] at h; exact h.elim
      | ex ee env' => rw [e1] at h; exact h
      | ok tv env1 =>
        rw [e1] at h
        simp only [Res.bind] at h ⊢
        intro vs fp1 H1 x1 r1 hh
        cases hh with
        | cons h1 h2 =>
        cases h2
        cases g1 : getV env1 tv with
        | none => simp only [g1] at h; exact h.elim
        | some d1 =>
          simp only [g1] at h
          have rp := h1.get r1 g1
          cases d1 with
          | clo n C0 =>
            simp only at h
            by_cases hC : C0 = C
            · rw [if_pos hC] at h
              subst hC
              cases el : fs.lookup n with
              | none => rw [el] at h; exact h.elim
              | some fb =>
                rw [el] at h
                cases rp with
                | clo _ _ q1 q2 q3 _ _ => exact ⟨n, _, _, _, fb, E, T, io, env1, fp1, rfl, r1, el, by unfold VL.LamS.on; rw [(L n fb el).cells]; exact q1, q2, q3, OKE.after x1 h⟩
            · rw [if_neg hC] at h; exact h.elim
          | _ => exact False.elim h
    exact sa E T io env fp σ H _ r hA
end
end VL
namespace VL
open PySem PySem.Spec PyProof.Rows L2 LamX
variable [tt : TabList]
/-! a list comprehension whose block knows its cells -/
/-- the block's names -/
abbrev bEnv (X : Cx) (scope : Scope) (n : Nat) (C : Addr) : PySem.Env := compEnvC scope (cellsFrom n scope.names (cloFrom X.env.cells scope.names [])) C X.env
section
variable {X : Cx} {elt tg iter : Expr} {ifs : List Expr} {scope : Scope} {own : List (Str × Nat)} {pos : Pos} {wi : TI} {g : TG} {tt' : TT} {te : TE}
/-- where the walk stands between two turns -/
def AtTurn (Y : Cx) (σ0 : L2.St) (tn : Nat → Heap → Prop) (fp : List Addr) (W : Nat → Nat → Hp → Prop) (m : Nat) (s : Shared) : Prop :=
  ∃ (i : Nat) (G : Hp), Inv Y [] σ0 G s ∧ tn i s.heap ∧ (∀ b ∈ fp, G b = none) ∧ W i m G
theorem pe_lcL (calm : X.calm = true) (nd : X.N.Nodup) (walk : PI X tg iter wi) (bok : BlkOk X.N X.env.scope scope own)
    (store : ∀ (s : Shared) (G : Hp) (C : Addr) (n : Nat) (fp : List Addr), PG (X.blk s G scope (bEnv X scope n C) fp) tg g)
    (test : ∀ (s : Shared) (G : Hp) (C : Addr) (n : Nat) (fp : List Addr), PTs (X.blk s G scope (bEnv X scope n C) fp) ifs tt')
    (item : ∀ (s : Shared) (G : Hp) (C : Addr) (n : Nat) (fp : List Addr), PE (X.blk s G scope (bEnv X scope n C) fp) elt te)
    (plain : ∀ x, foldedSetIterable iter X.env x = pure x := by intro _; rfl) :
    PE X (.ListComp elt [⟨tg, iter, ifs, 0⟩] scope pos) (tLc wi g tt' te (own.map (·.2))) := by
  refine ⟨fun pins sa σ Ga Q Ia want => ?_⟩
  rw [eval_ListComp]
  have seen : ∀ y ∈ scope.names, y.2 = .free → ∃ c, X.env.cells.lookup y.1 = some c := fun y my ey => (bok.free y my ey).elim (fun k => Ia.ok.has _ (.inl k)) fun k => Ia.ok.has _ (.inr k)
  refine wpAny_comprehension_free (use := none) rfl plain (closure_ok seen) bok.kind (fun y my ey => by rw [bok.uniq y my, ey]) ?_
  refine thn (walk.run pins sa σ Ga _ Ia want) fun v sb hv => thn hv fun itv sc ht => ?_
  obtain ⟨it, fp, tn, J, Gc, rfl, Ic, T, stc, fc, turns⟩ := ht
  refine wpAny_newObj_type (newEnv_comp ?_) (by show 0 ≤ sizeLine; decide)
  -- D, the list that is made; hd, the heap with it
  have Dnew : Gc sc.heap.objs.size = none := Ic.hok.fresh (Nat.le_refl _)
  obtain ⟨W, ⟨m0, start⟩, turn⟩ := turns sc.heap.objs.size Dnew
  have below : ∀ b ∈ fp, b < sc.heap.objs.size := fun b hb => by
    obtain ⟨o, e, _⟩ := T.obj _ _ stc b hb
    exact Heap.lt_size e
  obtain ⟨hd, hh⟩ : ∃ hd, hd = sc.heap.push { cls := .type "list", data := .seq ([] : List Value).toArray } := ⟨_, rfl⟩
  have push1 : ∀ b o, sc.heap.get? b = some o → hd.get? b = some o := fun b o e => by rw [hh]; exact Heap.get?_push_of_some _ e
  have size_d : hd.objs.size = sc.heap.objs.size + 1 := by rw [hh, Heap.size_push]
  obtain ⟨Gd, hG⟩ : ∃ Gd, Gd = upd Gc sc.heap.objs.size (.lst []) := ⟨_, rfl⟩
  have Id : Inv X pins σ Gd { sc with heap := hd } := by
    rw [hG]
    exact Ic.laid (t' := sc.toks) push1 (Nat.le_refl _) ⟨Nat.zero_le _, [], 0, .nil, by rw [hh]; exact Heap.get?_push_size _ rfl⟩
  have fd : ∀ b ∈ fp, FpOk X pins Gd b ∧ b < hd.objs.size := fun b hb => by
    have lt := below b hb
    have nb : Gd b = none := by
      rw [hG, upd_ne (Nat.ne_of_lt lt)]
      exact (fc b hb).1
    exact ⟨⟨nb, (fc b hb).2⟩, by rw [size_d]; exact Nat.lt_succ_of_lt lt⟩
  have Ie : Inv (X.blk { sc with heap := hd } Gd scope (bEnv X scope (hd.objs.size + 1) hd.objs.size) fp) [] (wipe σ (own.map (·.2))) Gd { ({ sc with heap := hd } : Shared) with heap := pushCells (hd.push { cls := .type "dict", data := .dict #[] }) scope.names } := block_start Id bok nd fd
  have g0 := store { sc with heap := hd } Gd hd.objs.size (hd.objs.size + 1) fp
  have t0 := test { sc with heap := hd } Gd hd.objs.size (hd.objs.size + 1) fp
  have e0 := item { sc with heap := hd } Gd hd.objs.size (hd.objs.size + 1) fp
  have ste : tn 0 (pushCells (hd.push { cls := .type "dict", data := .dict #[] }) scope.names) := T.keep _ _ _ stc fun b _ o e => pushCells_keeps _ _ _ _ (Heap.get?_push_of_some _ (push1 b o e))
  have start' : W 0 m0 Gd := by rw [hG]; exact start
  rw [← hh]
  show codeAny _ _ (.compStart (.ListComp elt [⟨tg, iter, ifs, 0⟩] scope pos) 0 (.ref it) (.ref sc.heap.objs.size) (bEnv X scope (hd.objs.size + 1) hd.objs.size)) (compPost (model X.prog X.w) X.A X.xe none (EP X pins σ Q) (.ref sc.heap.objs.size) hd.objs.size) { ({ sc with heap := hd } : Shared) with heap := pushCells (hd.push { cls := .type "dict", data := .dict #[] }) scope.names }
  have loc_e : (bEnv X scope (hd.objs.size + 1) hd.objs.size).locals = hd.objs.size := rfl
  generalize bEnv X scope (hd.objs.size + 1) hd.objs.size = ce at Ie g0 t0 e0 loc_e ⊢
  have fpY : ∀ {σ' : L2.St} {G : Hp} {s' : Shared}, Inv (X.blk { sc with heap := hd } Gd scope ce fp) [] σ' G s' → (∀ b ∈ fp, G b = none) → ∀ b ∈ fp, FpOk (X.blk { sc with heap := hd } Gd scope ce fp) [] G b := fun {σ' G s'} I' no b hb =>
    ⟨no b hb, (I'.ok.exf b hb).1, I'.ok.exfs b hb, .inl hb, fun x c e => (I'.ok.exf b hb).2 x c e, fun p hp => by
      have hp' : p ∈ ([] : List (Addr × Obj)) ++ [] := hp
      simp at hp'⟩
  have begun : AtTurn (X.blk { sc with heap := hd } Gd scope ce fp) (wipe σ (own.map (·.2))) tn fp W m0 { ({ sc with heap := hd } : Shared) with heap := pushCells (hd.push { cls := .type "dict", data := .dict #[] }) scope.names } := ⟨0, Gd, Ie, ste, (fun b hb => (fd b hb).1.1), start'⟩
  obtain ⟨s4, h4⟩ : ∃ s4 : Shared, s4 = { ({ sc with heap := hd } : Shared) with heap := pushCells (hd.push { cls := .type "dict", data := .dict #[] }) scope.names } := ⟨_, rfl⟩
  have ste4 : tn 0 s4.heap := by rw [h4]; exact ste
  rw [← h4] at begun
  show codeAny _ _ _ _ ({ ({ sc with heap := hd } : Shared) with heap := pushCells (hd.push { cls := .type "dict", data := .dict #[] }) scope.names } : Shared)
  rw [← h4]
  have loop : codeAny (model X.prog X.w) X.A (.compLoop (.ListComp elt [⟨tg, iter, ifs, 0⟩] scope pos) 0 (.ref it) (.ref sc.heap.objs.size) ce) (compPost (model X.prog X.w) X.A X.xe none (EP X pins σ Q) (.ref sc.heap.objs.size) hd.objs.size) s4 := by
    refine compLoop_any (AtTurn (X.blk { sc with heap := hd } Gd scope ce fp) (wipe σ (own.map (·.2))) tn fp W) ?_ m0 begun
    rintro n s5 ⟨i, G5, I5, st5, no5, w5⟩
    rcases turn i n G5 w5 with ⟨stop, fine⟩ | ⟨go, Nx, less, step⟩
    · refine thnF (T.done (X.blk { sc with heap := hd } Gd scope ce fp) rfl rfl rfl calm i [] s5 _ G5 (fun _ _ => False) I5 (fpY I5 no5) st5 stop) fun r s6 ⟨hr, I6⟩ => ?_
      subst hr
      have I7 : Inv X pins σ G5 s6 := Id.call' (ch := fp) I6.os I6.base I6.hok I6.bare fun b hb => ⟨(fd b hb).1.2.2.2.1, (fd b hb).1.2.1, (fd b hb).1.2.2.2.2.1, (fd b hb).1.2.2.2.2.2⟩
      have free6 : G5 ce.locals = none := I6.free
      obtain ⟨mp, ns6, _⟩ := I6.loc
      have ns6 : s6.heap.Ns ce.locals mp := ns6
      rw [loc_e] at free6 ns6
      obtain ⟨f0, f1, f2, f3, f4, f5⟩ := Id.fpOk (Nat.le_refl _) free6
      exact ⟨mp, ns6, fun h8 sb => ⟨.ref sc.heap.objs.size, G5, I7.turned (t' := s6.toks) (fun b o hb e => (sb.2 b hb).trans e) f0 f1 f3 f4 f5, rfl, fine⟩⟩
    · refine thnF (T.item (X.blk { sc with heap := hd } Gd scope ce fp) rfl rfl rfl calm i [] s5 _ G5 (fun _ _ => False) I5 (fpY I5 no5) st5 go) fun r s6 ⟨u, hr, h6⟩ => ?_
      subst hr
      refine thnF h6 fun _ s7 ⟨x, G7, I7, r7, y7, st7, no7⟩ => ?_
      refine thnF (g0.run _ s7 _ G7 x u _ (I7.pinned (fpY I7 no7) (T.obj _ _ st7)) r7 (step x G7 y7)) fun _ s8 ⟨σ8, G8, I8, hw8, q8⟩ => ?_
      refine thnF (t0.run _ s8 σ8 G8 _ I8 q8) fun b s9 ⟨G9, I9, q9⟩ => ?_
      have over : ∀ {s' : Shared} {G' : Hp}, Inv (X.blk { sc with heap := hd } Gd scope ce fp) ([] ++ pinsAt fp s7.heap) σ8 G' s' → Nx G' → ∃ m, m < n ∧ AtTurn (X.blk { sc with heap := hd } Gd scope ce fp) (wipe σ (own.map (·.2))) tn fp W m s' := fun {s' G'} I' nx => by
        obtain ⟨m', lt, w'⟩ := less G' nx
        have still : ∀ b ∈ fp, ∀ o, s7.heap.get? b = some o → s'.heap.get? b = some o ∧ G' b = none := fun b hb o e => by
          have z := I'.pin (b, o) (List.mem_append_right _ (List.mem_append_right _ (mem_pinsAt hb e)))
          exact ⟨z.1, z.2.1⟩
        refine ⟨m', lt, i + 1, G', (I'.unpinned (pins := [])).weak (by rw [← hw8, wipe_length]) (fun j v e => ?_), T.keep _ _ _ st7 fun b hb o e => (still b hb o e).1, fun b hb => ?_, w'⟩
        · rw [← hw8] at e
          exact (wipe_some e).1
        · obtain ⟨o, e, _⟩ := T.obj _ _ st7 b hb
          exact (still b hb o e).2
      cases b with
      | false =>
        simp only [Bool.false_eq_true, if_false] at q9 ⊢
        exact over I9 q9
      | true =>
        simp only [if_true] at q9 ⊢
        refine thnF (e0.run _ s9 σ8 G9 _ I9 q9) fun z s10 ⟨yv, G10, I10, r10, acc, eD, zD, nx⟩ => ?_
        exact app_ok (X := X.blk { sc with heap := hd } Gd scope ce fp) I10 eD zD r10 fun s11 I11 => over I11 nx
  exact codeAny_compStart_list loop (T.self X.A 0 _ _ _ ste4 loop)
end
end VL
namespace VL
open PySem PySem.Spec PyProof.Rows L2 LamX
section
variable [tt : TabList]
section
variable {X : Cx} {W : WX} {elt tg iter : Expr} {ifs : List Expr} {scope : Scope} {own : List (Str × Nat)} {pos : Pos} {fi : M (List D × Option Nat)} {gd : D → Env → Option Env} {ft : M Bool} {fe : M TV}
theorem de_compL {tv : List Nat} (hc : X.calm = true) (hN : X.N.Nodup) (hi : DI X W tg iter fi) (ok : BlkOk X.N X.env.scope scope own)
    (hg : ∀ (s : Shared) (H : Hp) (C : Addr) (n : Nat) (fp : List Addr), DG (X.blk s H scope (bEnv X scope n C) fp) false tv tg gd) (ht : ∀ (s : Shared) (H : Hp) (C : Addr) (n : Nat) (fp : List Addr), PTs (X.blk s H scope (bEnv X scope n C) fp) ifs (cT (bas X) W0 ft))
    (he : ∀ (s : Shared) (H : Hp) (C : Addr) (n : Nat) (fp : List Addr), DE (X.blk s H scope (bEnv X scope n C) fp) W0 elt fe) (htv : ∀ j ∈ tv, j ∈ own.map (·.2) := by decide) (hs : ∀ x, foldedSetIterable iter X.env x = pure x := by intro _; rfl) :
    DE X W (.ListComp elt [⟨tg, iter, ifs, 0⟩] scope pos) (cComp (own.map (·.2)) fi gd ft fe) :=
  .mk ⟨_, pe_lcL (wi := cI (bas X) W fi) (g := cG (bas X) false tv gd) (tt' := cT (bas X) W0 ft) (te := cE (bas X) W0 fe) hc hN hi ok hg ht he hs, fun E T io env fp σ H Q R0 h => sound_comp htv R0 h⟩
end
/-- a def that runs a lambda -/
structure ThF (K : PySem.W.Frag) (mg : Str → Option Value) (x : Str) (st : Stmt) (a : Str) where
  g : Addr
  fd : FuncData
  F : Fun K x x st g fd
  hb : Binds K fd [a] []
  hm : mg x = some (.ref g)
/-- which classes a clause takes -/
theorem exm_two {K : PySem.W.Frag} {S : Addr} {c : Addr} {b : Bool} (h1 : PySem.W.subIn K (.ref c) (.type "BaseException") = some true) (h2 : PySem.W.isClsIn K c = true) (h3 : PySem.W.typeIn K (.ref c) = some (.type "type")) (h4 : PySem.W.subIn K (.ref S) (.ref c) = some b) :
    PySem.W.exmOne K (.ref S) (.ref c) = some b := by
  have h2 : (PySem.W.clsIn K c).isSome = true := h2
  unfold PySem.W.exmOne
  rw [if_pos (by rw [h1]; rfl)]
  show (if ((PySem.W.clsIn K c).isSome && PySem.W.typeIn K (.ref c) == some (.type "type")) = true then PySem.W.subIn K (.ref S) (.ref c) else none) = some b
  rw [if_pos (by rw [h2, h3]; rfl)]
  exact h4
theorem mt_nil {X : Cx} {c : Value} : MatchOk X c (fun _ => none) := fun _ _ _ _ e => by cases e
theorem mt_cons {X : Cx} {c : Value} {x : Str} {C : Addr} {b : Bool} {m : Str → Option Bool} (hm : X.mg x = some (.ref C)) (h : PySem.W.exmOne X.K (.ref C) c = some b) (t : MatchOk X c m) : MatchOk X c (fun z => if z = x then some b else m z) := by
  intro nm C' b' e1 e2
  by_cases hz : nm = x
  · subst hz
    rw [hm] at e1; cases e1
    simp only [if_true] at e2; cases e2
    exact h
  · simp only [hz, if_false] at e2
    exact t nm C' b' e1 e2
end
/-! W -/
theorem w_clo {n : Nat} {C : List (Str × Addr)} {env : Env} {Q : TV → Env → Prop} {X : Exn → Env → Prop} : WR (cClo n C env) Q X ↔ Q (.fz (.clo n C)) env := by with_unfolding_all exact Iff.rfl
theorem wr_ex {α : Type} {x : Exn} {env : Env} {Q : α → Env → Prop} {X : Exn → Env → Prop} : WR (.ex x env : Res α) Q X ↔ X x env := by with_unfolding_all exact Iff.rfl
/-- the lambda among those of the def -/
def LK (fs : List (Nat × M TV)) (n : Nat) (k : M TV → Prop) : Prop := match fs.lookup n with
  | some f => k f
  | none => False
theorem lk_cons {n : Nat} {f : M TV} {fs : List (Nat × M TV)} {m : Nat} {k : M TV → Prop} : LK ((n, f) :: fs) m k ↔ if (m == n) = true then k f else LK fs m k := by
  unfold LK
  rw [List.lookup_cons]
  cases h : m == n <;> simp
def CLO (C : List (Str × Addr)) (d : D) (k : Nat → Prop) : Prop := match d with
  | .clo n C' => C' = C ∧ k n
  | _ => False
theorem clo_ {C C' : List (Str × Addr)} {n : Nat} {k : Nat → Prop} : CLO C (.clo n C') k ↔ C' = C ∧ k n := Iff.rfl
theorem w_ask {C : List (Str × Addr)} {fs : List (Nat × M TV)} {i : Nat} {env : Env} {Q : TV → Env → Prop} {X : Exn → Env → Prop} : WR (cAsk C fs i env) Q X ↔ (match env[i]? with
    | some (.fz d) => CLO C d fun n => LK fs n fun f => WR (f env) Q X
    | _ => False) := by
  unfold cAsk
  cases env[i]? with
  | none => with_unfolding_all exact Iff.rfl
  | some sv =>
    cases sv with
    | no => with_unfolding_all exact Iff.rfl
    | ow _ _ => with_unfolding_all exact Iff.rfl
    | lk _ _ => with_unfolding_all exact Iff.rfl
    | fz d =>
      cases d with
      | clo n C' =>
        dsimp only
        rw [clo_]
        by_cases h : C' = C
        · rw [if_pos h]
          refine Iff.trans ?_ (and_iff_right h).symm
          unfold LK
          cases fs.lookup n with
          | none => with_unfolding_all exact Iff.rfl
          | some f => exact Iff.rfl
        · rw [if_neg h]; exact ⟨fun z => by with_unfolding_all exact z.elim, fun z => absurd z.1 h⟩
      | _ => with_unfolding_all exact Iff.rfl
theorem w_thunk {txt : Str} {l : List TC} {C : List (Str × Addr)} {fs : List (Nat × M TV)} {fa : M TV} {env : Env} {Q : TV → Env → Prop} {X : Exn → Env → Prop} : WR (cThunk txt l C fs fa env) Q X ↔ WR (fa env) (fun t e1 => GV e1 t fun d => CLO C d fun n => LK fs n fun f => WR (f e1) (fun tv e2 => GF1 tv fun d => Q (.fz (.tup [.str txt, d])) e2) fun e e2 => GO (thGo l e) fun d => Q (.fz d) e2) X := by
  unfold cThunk
  rw [wr_bind]
  have key : ∀ (t : TV) (e1 : Env), WR (match getV e1 t with
      | some (.clo n C') => if C' = C then (match fs.lookup n with
        | some fb => thRes txt l (fb e1)
        | none => .stuck) else .stuck
      | _ => .stuck) Q X ↔ GV e1 t fun d => CLO C d fun n => LK fs n fun f => WR (f e1) (fun tv e2 => GF1 tv fun d => Q (.fz (.tup [.str txt, d])) e2) fun e e2 => GO (thGo l e) fun d => Q (.fz d) e2 := fun t e1 => by
    unfold GV
    cases getV e1 t with
    | none => with_unfolding_all exact Iff.rfl
    | some d =>
      cases d with
      | clo n C' =>
        dsimp only
        rw [clo_]
        by_cases h : C' = C
        · rw [if_pos h]
          refine Iff.trans ?_ (and_iff_right h).symm
          unfold LK
          cases fs.lookup n with
          | none => with_unfolding_all exact Iff.rfl
          | some f =>
            dsimp only
            cases f e1 with
            | stuck => with_unfolding_all exact Iff.rfl
            | ok tv e2 =>
              rw [wr_ok]
              unfold thRes GF1
              dsimp only
              cases frzV tv <;> with_unfolding_all exact Iff.rfl
            | ex e e2 =>
              rw [wr_ex]
              unfold thRes GO
              dsimp only
              cases thGo l e <;> with_unfolding_all exact Iff.rfl
        · rw [if_neg h]; exact ⟨fun z => by with_unfolding_all exact z.elim, fun z => absurd z.1 h⟩
      | _ => with_unfolding_all exact Iff.rfl
  with_unfolding_all exact ⟨fun h => h.mono (fun t e1 z => (key t e1).1 z) fun _ _ z => z, fun h => h.mono (fun t e1 z => (key t e1).2 z) fun _ _ z => z⟩
end VL
namespace VL
open PySem PySem.Spec PyProof.Rows L2
/-! what laws have in common -/
theorem ifb_and {P R : Prop} {b : Bool} (h1 : b = true → P) (h2 : b = false → R) : IFB b P R := ⟨h1, h2⟩
def dStr : D → Bool
  | .str _ => true
  | _ => false
def dLst : D → Bool
  | .lst _ => true
  | _ => false
theorem isi_str {d : D} (h : tyN d ≠ none) : oIsi [d, .ty "str"] = .val (.bl (dStr d)) := by
  cases d <;> first | exact absurd rfl h | rfl
theorem isi_lst {d : D} (h : tyN d ≠ none) : oIsi [d, .ty "list"] = .val (.bl (dLst d)) := by
  cases d <;> first | exact absurd rfl h | rfl
theorem inD_nLt {b : Bool} {x : Nat} {xs : List Nat} : inD b (nD x) (.tup (nL xs)) = .val (.bl (b != decide (x ∈ xs))) := inD_nL
theorem enum_at {xs : List D} {i : Nat} {d : D} (h : (enumD xs)[i]? = some d) : ∃ x, xs[i]? = some x ∧ d = .tup [nD i, x] := by
  unfold enumD at h
  rw [List.getElem?_mapIdx] at h
  cases hx : xs[i]? with
  | none => rw [hx] at h; cases h
  | some x => rw [hx] at h; cases h; exact ⟨x, rfl, rfl⟩
theorem enumD_len {xs : List D} : (enumD xs).length = xs.length := by unfold enumD; rw [List.length_mapIdx]
/-- a number between two bounds -/
def inB (lo hi : Int) : D → Bool
  | .int i => decide (lo ≤ i) && decide (i ≤ hi)
  | _ => false
theorem ko_l : Kd.one .l = true := rfl
theorem ko_dk : Kd.one .dk = true := rfl
theorem ko_dt : Kd.one .dt = true := rfl
theorem ko_l2 : Kd.one .l2 = false := rfl
theorem ko_m : Kd.one .m = false := rfl
theorem nond_s {x : Str} : nonD (.str x) = false := rfl
theorem nond_d {ks : List DK} {vs : List D} : nonD (.dct ks vs) = false := rfl
theorem o_all_t {α : Type} {xs : List α} : oAll [.lst (xs.map fun _ => D.bl true)] = .val (.bl true) := by
  rw [show (xs.map fun _ => D.bl true) = xs.map (fun x => D.bl ((fun _ => true) x)) from rfl, o_all]
  simp
theorem nL_map {α : Type} {f : α → Nat} {xs : List α} : nL (xs.map f) = xs.map fun x => nD (f x) := by simp [nL]
theorem nL_set {xs : List Nat} {i x : Nat} : nL (xs.set i x) = (nL xs).set i (nD x) := List.map_set
theorem un_c {F : List (Str × Addr) → List D → FRes} {ds : List D} {r : FRes} (h : ∀ C, F C ds = r) : unC F ds = r := by
  unfold unC
  rw [if_pos fun C => (h C).trans (h []).symm]
  exact h []
/-! texts of values -/
structure SHW (n k : Nat) (d : D) : Prop where
  pl : pl n d = true
  sh : (toP d).showable = true
  tx : TX k (toP d).shown
theorem SHW.le {n k k' : Nat} {d : D} (h : SHW n k d) (hk : k ≤ k') : SHW n k' d := ⟨h.pl, h.sh, h.tx.le hk⟩
theorem shw_tup {n k m : Nat} {ds : List D} (h : ∀ d ∈ ds, SHW n k d) (hm : ds.length ≤ m) : SHW (n + 1) (m * (k + 2) + 4) (.tup ds) :=
  ⟨by rw [pl_tup]; exact pls_all fun d hd => (h d hd).pl, sh_tup fun d hd => (h d hd).sh, tx_tup (fun d hd => (h d hd).tx) hm⟩
theorem shw_nat {n i : Nat} (h : i < 100) : SHW n 2 (nD i) := ⟨pl_int, sh_int (Nat.lt_of_lt_of_le (show (i : Int).natAbs < 2 ^ 7 by omega) (Nat.pow_le_pow_right (by decide) (by decide))), tx_int h⟩
theorem shw_non {n : Nat} : SHW n 4 .non := ⟨by cases n <;> rfl, by simp only [toP, PyData.showable], by simp only [toP, PyData.shown]; exact ⟨by decide +kernel, by decide +kernel⟩⟩
theorem shw_bl {n : Nat} {b : Bool} : SHW n 5 (.bl b) := ⟨by cases n <;> rfl, by simp only [toP, PyData.showable], by cases b <;> (simp only [toP, PyData.shown]; exact ⟨by decide +kernel, by decide +kernel⟩)⟩
theorem shw_str {n k : Nat} {x : Str} (h1 : PyData.strOk x = true) (h2 : TX k (reprText x)) : SHW n k (.str x) := ⟨by rw [pl_str]; exact h1, by simp only [toP, PyData.showable], by simp only [toP, PyData.shown]; exact h2⟩
theorem shw_row {n m : Nat} {r : List Nat} (h : ∀ x ∈ r, x < 100) (hm : r.length ≤ m) : SHW (n + 1) (m * 4 + 4) (rowD r) :=
  shw_tup (k := 2) (fun d hd => by
    obtain ⟨x, hx, rfl⟩ := List.mem_map.1 hd
    exact shw_nat (h x hx)) (by rw [List.length_map]; exact hm)
theorem repr_ok {k : Nat} {d : D} (h : SHW 60 k d) (ht : topC d = true) (hk : k ≤ 16777216) : ∃ s : Str, oRepr [d] = .val (.str s) ∧ PyData.strOk s = true := by
  refine ⟨(toP d).shown, ?_, h.tx.ok⟩
  unfold oRepr
  dsimp only
  rw [ht, h.pl, h.sh, decide_eq_true (sizeLine_le (Nat.le_trans h.tx.len hk))]
  rfl
theorem repr_pair {k : Nat} {x : Str} {d : D} (h1 : SHW 59 k (.str x)) (h2 : SHW 59 k d) (hk : k ≤ 1000000) : ∃ s : Str, oRepr [.tup [.str x, d]] = .val (.str s) ∧ PyData.strOk s = true :=
  repr_ok (k := 2 * (k + 2) + 4) (shw_tup (fun z hz => by
    rcases List.mem_cons.1 hz with rfl | hz
    · exact h1
    · rw [List.mem_singleton.1 hz]; exact h2) (by simp)) rfl (by omega)
/-! values that are like themselves -/
inductive LKD : Nat → D → Prop
  | non {n : Nat} : LKD n .non
  | bl {n : Nat} (b : Bool) : LKD n (.bl b)
  | int {n : Nat} (i : Int) : LKD n (.int i)
  | str {n : Nat} {x : Str} : PyData.strOk x = true → LKD n (.str x)
  | tup {n : Nat} {ds : List D} : ds.length ≤ 16777216 → (∀ d ∈ ds, LKD n d) → LKD (n + 1) (.tup ds)
theorem LKD.ty {n : Nat} {d : D} (h : LKD n d) : tyN d ≠ none := by cases h <;> simp [tyN]
theorem lkd_row {n : Nat} {r : List Nat} (h : r.length ≤ 16777216) : LKD (n + 1) (rowD r) := .tup (by rw [List.length_map]; exact h) fun d hd => by
  obtain ⟨x, _, rfl⟩ := List.mem_map.1 hd
  exact .int _
theorem deq_bl {a b : Bool} : deq (.bl a) (.bl b) = (a == b) := rfl
theorem go_get {α : Type} {l : List α} {i : Nat} {k : α → Prop} (h : i < l.length) : GO (atI l (i : Int)) k ↔ k (l[i]'h) := by
  rw [atI_nat, List.getElem?_eq_getElem h, go_some]
theorem ite_one {p : Prop} [Decidable p] {d : D} : (if p then some d else none : Option D) = (if p then some d else none) := rfl
section
variable [tt : TabList] {X : Cx} {W : WX}
theorem de_cgio {k i : Nat} {κ : Kd} {ps : List Str} {F : List D → FRes} {x y : Str} {es : List Expr} {fs : List (M TV)} {p yp pos : Pos} (G : FnG X.prog X.w X.K X.mg X.base k x ps (some κ) F) (hgd : X.A.guards = some []) (hr : Room k X.A) (tk : Takes X W) (hg : Gl X x)
    (hy : PE X (.Name y yp) (tVar i)) (ha : DA X W es fs) (hn : fs.length + 1 = ps.length) (hdb : (x == ("__debug__" : Str)) = false)
    (he : starEach (.Name y yp :: es) X.env = (false, eval (.Name y yp) X.env) :: starEach es X.env) (hpl : (backTo pos (starEach es X.env)).any (·.1) = false) :
    DE X W (.Call (.Name x p) (.Name y yp :: es) [] pos) (cFnIo i κ F fs) := by
  obtain ⟨t, pa, s⟩ := ha.out
  have hx : ∀ σ, PassesAt (L2.CX X.prog X.w) X σ (fun cls d H' => W cls d σ H') := fun σ pins H s' e s'' I c => tk e s'' (XE.of_call I (fun cls d H' h => h) c)
  have pa2 := pa_cons hy pa he
  have pe : PE X (.Call (.Name x p) (.Name y yp :: es) [] pos) (tCallSD (spF (bas X) ps.length (some κ) F) [] (fun σ cls d H' => W cls d σ H') (tCons (tVar i) t)) := by
    refine ⟨fun pins s σ H Q I h => ?_⟩
    refine wpAny_Call_Name_kw (ld_glob I hg G.hm ?_ hdb)
    refine PySem.W.callWith_K (h₀ := X.base) I.ok.mod.kin G.hk (thn (pa2.run pos pins s σ H _ I h) fun us s1 ⟨vs, H1, I1, r, q⟩ => ⟨I1.kIn, ?_⟩) he hpl
    exact run_G (E := fun σ cls d H' => W cls d σ H') G.ok hgd hr G.hb (hx σ) I1 r q
  exact .mk ⟨_, pe, fun E T io env fp σ H Q R0 h => sound_io s hn R0 h⟩
end
end VL
namespace K04
open PySem PySem.Spec PyProof.Rows L2 VL
def topS (i : Nat) : Stmt := PySem.Challenge.pw_groupsheets_k04_whole_permutations.main.body.getD i (.Pass ⟨0, 0, 0, 0⟩)
section
variable [tt : TabList] {P : Program} {w : World} {K : PySem.W.Frag} {mg : Str → Option Value} {base : Heap}
abbrev s_is_number : Stmt := topS 5
theorem sc_is_number : FnScope ["thing"] ["thing"] (defScope s_is_number) := ⟨rfl, rfl, rfl, by decide +kernel, rfl, by decide +kernel, by decide +kernel⟩
def f_is_number : List D → FRes := runF 1 none (
  sRet (cAndV (cCall oIsi [cV 0, cC (.ty "int")]) (cUn oNot (cCall oIsi [cV 0, cC (.ty "bool")]))))
theorem ok_is_number {f : Addr} {fd : FuncData} (F : Fun K "is_number" "is_number" s_is_number f fd) (nb : NB mg)  : FnOk P w K mg base (L2.CX P w) 1 f fd ["thing"] (spF (mkB K mg) 1 none f_is_number) := by
  refine fn_mk F sc_is_number fun cdv A outer s H E hr => ?_
  have sc_nd := sc_is_number.nd
  exact (dss_one (ds_ret (de_and (de_callB c_isi s_isi (by exact rfl) nb.isinstance (by exact rfl) (da_cons (de_var (pv 0)) (da_cons (de_ty (by exact rfl) nb.int (by exact rfl)) da_nil (by exact rfl)) (by exact rfl))) (de_one (de_not (de_callB c_isi s_isi (by exact rfl) nb.isinstance (by exact rfl) (da_cons (de_var (pv 0)) (da_cons (de_ty (by exact rfl) nb.bool (by exact rfl)) da_nil (by exact rfl)) (by exact rfl))))))))
abbrev s_is_among : Stmt := topS 6
theorem sc_is_among : FnScope ["thing", "least", "most"] ["thing", "least", "most"] (defScope s_is_among) := ⟨rfl, rfl, rfl, by decide +kernel, rfl, by decide +kernel, by decide +kernel⟩
def f_is_among : List D → FRes := runF 3 none (
  sRet (cAndV (cFn f_is_number [cV 0]) (cChain oLe oLe (cV 1) (cV 0) (cV 2))))
theorem ok_is_among {f : Addr} {fd : FuncData} (F : Fun K "is_among" "is_among" s_is_among f fd) (nb : NB mg) (c_is_number : FnF P w K mg base 1 "is_number" ["thing"] none f_is_number) : FnOk P w K mg base (L2.CX P w) 2 f fd ["thing", "least", "most"] (spF (mkB K mg) 3 none f_is_among) := by
  refine fn_mk F sc_is_among fun cdv A outer s H E hr => ?_
  have sc_nd := sc_is_among.nd
  exact (dss_one (ds_ret (de_and (de_cf (κ := ()) c_is_number (hr.mono (by decide)) (takes_of rfl rfl rfl rfl) (by exact rfl) (da_cons (de_var (pv 0)) da_nil (by exact rfl)) rfl (by decide) (by exact rfl) (by exact rfl)) (de_one (de_chain op_le op_le p_le p_le (de_var (pv 1)) (de_var (pv 0)) (de_var (pv 2)))))))
abbrev s_is_tuple_of : Stmt := topS 7
theorem sc_is_tuple_of : FnScope ["thing", "least", "most"] ["thing", "least", "most"] (defScope s_is_tuple_of) := ⟨rfl, rfl, rfl, by decide +kernel, rfl, by decide +kernel, by decide +kernel⟩
def f_is_tuple_of : List D → FRes := runF 3 none (
  sRet (cAndV (cCall oIsi [cV 0, cC (.ty "tuple")]) (cChain oLe oLe (cV 1) (cCall oLen [cV 0]) (cV 2))))
theorem ok_is_tuple_of {f : Addr} {fd : FuncData} (F : Fun K "is_tuple_of" "is_tuple_of" s_is_tuple_of f fd) (nb : NB mg)  : FnOk P w K mg base (L2.CX P w) 1 f fd ["thing", "least", "most"] (spF (mkB K mg) 3 none f_is_tuple_of) := by
  refine fn_mk F sc_is_tuple_of fun cdv A outer s H E hr => ?_
  have sc_nd := sc_is_tuple_of.nd
  exact (dss_one (ds_ret (de_and (de_callB c_isi s_isi (by exact rfl) nb.isinstance (by exact rfl) (da_cons (de_var (pv 0)) (da_cons (de_ty (by exact rfl) nb.tuple (by exact rfl)) da_nil (by exact rfl)) (by exact rfl))) (de_one (de_chain op_le op_le p_le p_le (de_var (pv 1)) (de_callB c_len s_len (by exact rfl) nb.len (by exact rfl) (da_cons (de_var (pv 0)) da_nil (by exact rfl))) (de_var (pv 2)))))))
abbrev s_need_points : Stmt := topS 10
theorem sc_need_points : FnScope ["points"] ["points"] (defScope s_need_points) := ⟨rfl, rfl, rfl, by decide +kernel, rfl, by decide +kernel, by decide +kernel⟩
def f_need_points : List D → FRes := runF 1 none (
  sSeq (sIf (tNotB (tst (cFn f_is_among [cV 0, cC (.int 1), cC (.int 8)])))
  (sRaise "BadNumber" (cF 0))
  (sNx))
  (sRet (cF 0)))
theorem ok_need_points {f : Addr} {fd : FuncData} (F : Fun K "need_points" "need_points" s_need_points f fd) (nb : NB mg) (c_is_among : FnF P w K mg base 2 "is_among" ["thing", "least", "most"] none f_is_among) (x_BadNumber : ExF P w K mg base "BadNumber") (c_MOST_POINTS : ∃ t, mg "MOST_POINTS" = some (.int 8 t)) : FnOk P w K mg base (L2.CX P w) 4 f fd ["points"] (spF (mkB K mg) 1 none f_need_points) := by
  refine fn_mk F sc_need_points fun cdv A outer s H E hr => ?_
  have sc_nd := sc_need_points.nd
  exact (dss_cons (ds_if (dt_not (dt_val (de_cf (κ := ()) c_is_among (hr.mono (by decide)) (takes_of rfl rfl rfl rfl) (by exact rfl) (da_cons (de_var (pv 0)) (da_cons de_int (da_cons (de_gint (by exact rfl) c_MOST_POINTS) da_nil (by exact rfl)) (by exact rfl)) (by exact rfl)) rfl (by decide) (by exact rfl) (by exact rfl))))
  (dss_one (ds_rse x_BadNumber rfl (hr.mono (by decide)) (takes_of rfl rfl rfl rfl) (by exact rfl) (de_frz (pv 0)) (by decide) (by exact rfl)))
  dss_nil)
  (dss_one (ds_ret (de_frz (pv 0)))))
abbrev s_need_perm : Stmt := topS 11
theorem sc_need_perm : FnScope ["points", "perm", "place", "point"] ["points", "perm"] (defScope s_need_perm) := ⟨rfl, rfl, rfl, by decide +kernel, rfl, by decide +kernel, by decide +kernel⟩
def f_need_perm : List D → FRes := runF 4 none (
  sSeq (sDrop (cFn f_need_points [cV 0]))
  (sSeq (sIf (tNotB (tst (cFn f_is_tuple_of [cV 1, cV 0, cV 0])))
  (sRaise "BadPerm" (cC .non))
  (sNx))
  (sSeq (sFor [(2, false), (3, false)] (cEnum (cV 1)) (gTup' (gCons' (gName' true 2) (gCons' (gName' true 3) (gNil'))))
  (sIf (tOrB (tNotB (tst (cFn f_is_among [cV 3, cC (.int 0), cBin oSub (cV 0) (cC (.int 1))]))) (tst (cBin (inD false) (cV 3) (cSl oSl (cV 1) none (some (cV 2))))))
  (sRaise "BadPerm" (cF 2))
  (sNx)))
  (sRet (cF 1)))))
theorem ok_need_perm {f : Addr} {fd : FuncData} (F : Fun K "need_perm" "need_perm" s_need_perm f fd) (nb : NB mg) (c_need_points : FnF P w K mg base 4 "need_points" ["points"] none f_need_points) (c_is_tuple_of : FnF P w K mg base 1 "is_tuple_of" ["thing", "least", "most"] none f_is_tuple_of) (c_is_among : FnF P w K mg base 2 "is_among" ["thing", "least", "most"] none f_is_among) (x_BadPerm : ExF P w K mg base "BadPerm") : FnOk P w K mg base (L2.CX P w) 5 f fd ["points", "perm"] (spF (mkB K mg) 2 none f_need_perm) := by
  refine fn_mk F sc_need_perm fun cdv A outer s H E hr => ?_
  have sc_nd := sc_need_perm.nd
  exact (dss_cons (ds_expr (de_cf (κ := ()) c_need_points (hr.mono (by decide)) (takes_of rfl rfl rfl rfl) (by exact rfl) (da_cons (de_var (pv 0)) da_nil (by exact rfl)) rfl (by decide) (by exact rfl) (by exact rfl)) (by exact rfl))
  (dss_cons (ds_if (dt_not (dt_val (de_cf (κ := ()) c_is_tuple_of (hr.mono (by decide)) (takes_of rfl rfl rfl rfl) (by exact rfl) (da_cons (de_var (pv 1)) (da_cons (de_var (pv 0)) (da_cons (de_var (pv 0)) da_nil (by exact rfl)) (by exact rfl)) (by exact rfl)) rfl (by decide) (by exact rfl) (by exact rfl))))
  (dss_one (ds_rse x_BadPerm rfl (hr.mono (by decide)) (takes_of rfl rfl rfl rfl) (by exact rfl) de_non (by decide) (by exact rfl)))
  dss_nil)
  (dss_cons (ds_for (nr := [(2, false), (3, false)]) (passes_of rfl) rfl (di_enum (by exact rfl) nb.enumerate (de_var (pv 1)) (by exact rfl)) (dg_tup rfl (dgs_cons (dg_name (pg_name sc_nd (by exact rfl) (by first | exact .inl rfl | exact .inr rfl))) (dgs_cons (dg_name (pg_name sc_nd (by exact rfl) (by first | exact .inl rfl | exact .inr rfl))) dgs_nil (by exact rfl)) (by exact rfl)) (gCons_len (gCons_len (fun _ _ _ h => gNil_len h))))
  (dss_one (ds_if (dt_of (dw_or (dt_not (dt_val (de_cf (κ := ()) c_is_among (hr.mono (by decide)) (takes_of rfl rfl rfl rfl) (by exact rfl) (da_cons (de_var (pv 3)) (da_cons de_int (da_cons (de_bin op_sub s_sub (de_var (pv 0)) de_int) da_nil (by exact rfl)) (by exact rfl)) (by exact rfl)) rfl (by decide) (by exact rfl) (by exact rfl)))) (dw_or1 (dt_cmp (op_inA hr) (s_inD false) (de_var (pv 3)) (de_slice sl_All s_sl (de_var (pv 1)) do_none (do_some (de_var (pv 2)))) (by exact rfl)))))
  (dss_one (ds_rse x_BadPerm rfl (hr.mono (by decide)) (takes_of rfl rfl rfl rfl) (by exact rfl) (de_frz (pv 2)) (by decide) (by exact rfl)))
  dss_nil)))
  (dss_one (ds_ret (de_frz (pv 1)))))))
abbrev s_then_by : Stmt := topS 12
theorem sc_then_by : FnScope ["one", "other", "point"] ["one", "other"] (defScope s_then_by) := ⟨rfl, rfl, rfl, by decide +kernel, rfl, by decide +kernel, by decide +kernel⟩
def f_then_by : List D → FRes := runF 3 none (
  sRet (cCall oTuple [cComp [2] (cSeq (cV 0)) (gName' false 2) (fun env => .ok true env) (cBin oIx (cV 1) (cV 2))]))
theorem ok_then_by {f : Addr} {fd : FuncData} (F : Fun K "then_by" "then_by" s_then_by f fd) (nb : NB mg)  : FnOk P w K mg base (L2.CX P w) 1 f fd ["one", "other"] (spF (mkB K mg) 2 none f_then_by) := by
  refine fn_mk F sc_then_by fun cdv A outer s H E hr => ?_
  have sc_nd := sc_then_by.nd
  exact (dss_one (ds_ret (de_callTy c_tuple s_tuple (by exact rfl) nb.tuple (by exact rfl) (da_cons (de_comp (own := [("point", 2)]) rfl sc_nd (di_seq (de_var (pv 0))) (by exact blkOk_by (N := ["one", "other", "point"]) (sc := (defScope s_then_by)) (by decide +kernel)) (fun _ _ _ _ _ => (dg_name (pg_name sc_nd (by exact rfl) (by first | exact .inl rfl | exact .inr rfl)))) (fun _ _ _ _ _ => pts_yes) (fun _ _ _ _ _ => (de_ix (ix_A hr) s_ix (de_var (pv 1)) (de_var (pv 2)) (fun _ _ => rfl))) (by decide)) da_nil (by exact rfl)))))
abbrev s_perm_then : Stmt := topS 13
theorem sc_perm_then : FnScope ["points", "one", "other"] ["points", "one", "other"] (defScope s_perm_then) := ⟨rfl, rfl, rfl, by decide +kernel, rfl, by decide +kernel, by decide +kernel⟩
def f_perm_then : List D → FRes := runF 3 none (
  sSeq (sDrop (cFn f_need_perm [cV 0, cV 1]))
  (sRet (cFn f_then_by [cV 1, cFn f_need_perm [cV 0, cV 2]])))
theorem ok_perm_then {f : Addr} {fd : FuncData} (F : Fun K "perm_then" "perm_then" s_perm_then f fd) (nb : NB mg) (c_need_perm : FnF P w K mg base 5 "need_perm" ["points", "perm"] none f_need_perm) (c_then_by : FnF P w K mg base 1 "then_by" ["one", "other"] none f_then_by) : FnOk P w K mg base (L2.CX P w) 6 f fd ["points", "one", "other"] (spF (mkB K mg) 3 none f_perm_then) := by
  refine fn_mk F sc_perm_then fun cdv A outer s H E hr => ?_
  have sc_nd := sc_perm_then.nd
  exact (dss_cons (ds_expr (de_cf (κ := ()) c_need_perm (hr.mono (by decide)) (takes_of rfl rfl rfl rfl) (by exact rfl) (da_cons (de_var (pv 0)) (da_cons (de_var (pv 1)) da_nil (by exact rfl)) (by exact rfl)) rfl (by decide) (by exact rfl) (by exact rfl)) (by exact rfl))
  (dss_one (ds_ret (de_cf (κ := ()) c_then_by (hr.mono (by decide)) (takes_of rfl rfl rfl rfl) (by exact rfl) (da_cons (de_var (pv 1)) (da_cons (de_cf (κ := ()) c_need_perm (hr.mono (by decide)) (takes_of rfl rfl rfl rfl) (by exact rfl) (da_cons (de_var (pv 0)) (da_cons (de_var (pv 2)) da_nil (by exact rfl)) (by exact rfl)) rfl (by decide) (by exact rfl) (by exact rfl)) da_nil (by exact rfl)) (by exact rfl)) rfl (by decide) (by exact rfl) (by exact rfl)))))
abbrev s_back_by : Stmt := topS 14
theorem sc_back_by : FnScope ["perm", "found", "place", "point"] ["perm"] (defScope s_back_by) := ⟨rfl, rfl, rfl, by decide +kernel, rfl, by decide +kernel, by decide +kernel⟩
def f_back_by : List D → FRes := runF 4 none (
  sSeq (sSet true 1 (cBin oMul (cLst [cC (.int 0)]) (cCall oLen [cV 0])))
  (sSeq (sFor [(2, false), (3, false)] (cEnum (cV 0)) (gTup' (gCons' (gName' true 2) (gCons' (gName' true 3) (gNil'))))
  (sAsg (gIx 1 (cV 3)) (cF 2)))
  (sRet (cCall oTuple [cV 1]))))
theorem ok_back_by {f : Addr} {fd : FuncData} (F : Fun K "back_by" "back_by" s_back_by f fd) (nb : NB mg)  : FnOk P w K mg base (L2.CX P w) 1 f fd ["perm"] (spF (mkB K mg) 1 none f_back_by) := by
  refine fn_mk F sc_back_by fun cdv A outer s H E hr => ?_
  have sc_nd := sc_back_by.nd
  exact (dss_cons (ds_set (i := 1) sc_nd (by exact rfl) (by first | exact .inl rfl | exact .inr rfl) (de_bin op_mulAll s_mul (de_lst (da_cons de_int da_nil (by exact rfl))) (de_callB c_len s_len (by exact rfl) nb.len (by exact rfl) (da_cons (de_var (pv 0)) da_nil (by exact rfl)))) (by exact rfl))
  (dss_cons (ds_for (nr := [(2, false), (3, false)]) (passes_of rfl) rfl (di_enum (by exact rfl) nb.enumerate (de_var (pv 0)) (by exact rfl)) (dg_tup rfl (dgs_cons (dg_name (pg_name sc_nd (by exact rfl) (by first | exact .inl rfl | exact .inr rfl))) (dgs_cons (dg_name (pg_name sc_nd (by exact rfl) (by first | exact .inl rfl | exact .inr rfl))) dgs_nil (by exact rfl)) (by exact rfl)) (gCons_len (gCons_len (fun _ _ _ h => gNil_len h))))
  (dss_one (ds_asgx (de_frz (pv 2)) (dgx_sub hr (pv 1) (de_var (pv 3))))))
  (dss_one (ds_ret (de_callTy c_tuple s_tuple (by exact rfl) nb.tuple (by exact rfl) (da_cons (de_var (pv 1)) da_nil (by exact rfl)))))))
abbrev s_perm_inverse : Stmt := topS 15
theorem sc_perm_inverse : FnScope ["points", "perm"] ["points", "perm"] (defScope s_perm_inverse) := ⟨rfl, rfl, rfl, by decide +kernel, rfl, by decide +kernel, by decide +kernel⟩
def f_perm_inverse : List D → FRes := runF 2 none (
  sRet (cFn f_back_by [cFn f_need_perm [cV 0, cV 1]]))
theorem ok_perm_inverse {f : Addr} {fd : FuncData} (F : Fun K "perm_inverse" "perm_inverse" s_perm_inverse f fd) (nb : NB mg) (c_back_by : FnF P w K mg base 1 "back_by" ["perm"] none f_back_by) (c_need_perm : FnF P w K mg base 5 "need_perm" ["points", "perm"] none f_need_perm) : FnOk P w K mg base (L2.CX P w) 6 f fd ["points", "perm"] (spF (mkB K mg) 2 none f_perm_inverse) := by
  refine fn_mk F sc_perm_inverse fun cdv A outer s H E hr => ?_
  have sc_nd := sc_perm_inverse.nd
  exact (dss_one (ds_ret (de_cf (κ := ()) c_back_by (hr.mono (by decide)) (takes_of rfl rfl rfl rfl) (by exact rfl) (da_cons (de_cf (κ := ()) c_need_perm (hr.mono (by decide)) (takes_of rfl rfl rfl rfl) (by exact rfl) (da_cons (de_var (pv 0)) (da_cons (de_var (pv 1)) da_nil (by exact rfl)) (by exact rfl)) rfl (by decide) (by exact rfl) (by exact rfl)) da_nil (by exact rfl)) rfl (by decide) (by exact rfl) (by exact rfl))))
abbrev s_cycles_by : Stmt := topS 16
theorem sc_cycles_by : FnScope ["perm", "found", "met", "point", "cycle", "here"] ["perm"] (defScope s_cycles_by) := ⟨rfl, rfl, rfl, by decide +kernel, rfl, by decide +kernel, by decide +kernel⟩
def f_cycles_by : List D → FRes := runF 6 none (
  sSeq (sPar true [1, 2] [cLst [], cDnil])
  (sSeq (sFor [(3, false), (4, false), (5, false)] (cRng1 (cCall oLen [cV 0])) (gName' true 3)
  (sIf (tst (cBin (inD true) (cV 3) (cV 2)))
  (sSeq (sPar true [4, 5] [cLst [], cF 3])
  (sSeq (sWhile 1000000 [] (tst (cBin (inD true) (cV 5) (cV 2)))
  (sSeq (sAsg (gIx 2 (cV 5)) (cC (.bl true)))
  (sSeq (sDrop (cMut 4 .l "list" mApp [cF 5]))
  (sSet true 5 (cBin oIx (cV 0) (cV 5))))))
  (sDrop (cMut 1 .l "list" mApp [cCall oTuple [cV 4]]))))
  (sNx)))
  (sRet (cM 1))))
theorem ok_cycles_by {f : Addr} {fd : FuncData} (F : Fun K "cycles_by" "cycles_by" s_cycles_by f fd) (nb : NB mg)  : FnOk P w K mg base (L2.CX P w) 1 f fd ["perm"] (spF (mkB K mg) 1 none f_cycles_by) := by
  refine fn_mk F sc_cycles_by fun cdv A outer s H E hr => ?_
  have sc_nd := sc_cycles_by.nd
  exact (dss_cons (ds_par2 rfl sc_nd (by exact rfl) (by exact rfl) (by decide) (by exact rfl) (by exact rfl) (dao_cons (de_lst da_nil) (dao_cons de_dnil dao_nil (by exact rfl)) (by exact rfl)) (by exact rfl) (by exact rfl))
  (dss_cons (ds_for (nr := [(3, false), (4, false), (5, false)]) (passes_of rfl) rfl (di_range1 (by exact rfl) nb.range (de_callB c_len s_len (by exact rfl) nb.len (by exact rfl) (da_cons (de_var (pv 0)) da_nil (by exact rfl))) (by exact rfl)) (dg_name (pg_name sc_nd (by exact rfl) (by first | exact .inl rfl | exact .inr rfl)))
  (dss_one (ds_if (dt_cmp (op_notInA hr) (s_inD true) (de_var (pv 3)) (de_var (pv 2)) (by exact rfl))
  (dss_cons (ds_par2 rfl sc_nd (by exact rfl) (by exact rfl) (by decide) (by exact rfl) (by exact rfl) (dao_cons (de_lst da_nil) (dao_cons (de_frz (pv 3)) dao_nil (by exact rfl)) (by exact rfl)) (by exact rfl) (by exact rfl))
  (dss_cons (ds_while (nr := []) (fuel := 1000000) (passes_of rfl) (dt_cmp (op_notInA hr) (s_inD true) (de_var (pv 5)) (de_var (pv 2)) (by exact rfl))
  (dss_cons (ds_asgx de_bl (dgx_sub hr (pv 2) (de_var (pv 5))))
  (dss_cons (ds_expr (de_mut PySem.F.plainAttrs_list PySem.F.slot_list_append PySem.F.type_list_append mt_append m_app rfl (pv 4) (da_cons (de_frz (pv 5)) da_nil (by exact rfl))) (by exact rfl))
  (dss_one (ds_set (i := 5) sc_nd (by exact rfl) (by first | exact .inl rfl | exact .inr rfl) (de_ix (ix_A hr) s_ix (de_var (pv 0)) (de_var (pv 5)) (fun _ _ => rfl)) (by exact rfl))))))
  (dss_one (ds_expr (de_mut PySem.F.plainAttrs_list PySem.F.slot_list_append PySem.F.type_list_append mt_append m_app rfl (pv 1) (da_cons (de_callTy c_tuple s_tuple (by exact rfl) nb.tuple (by exact rfl) (da_cons (de_var (pv 4)) da_nil (by exact rfl))) da_nil (by exact rfl))) (by exact rfl)))))
  dss_nil)))
  (dss_one (ds_ret (de_mov (pv 1))))))
abbrev s_cycles_of : Stmt := topS 17
theorem sc_cycles_of : FnScope ["points", "perm"] ["points", "perm"] (defScope s_cycles_of) := ⟨rfl, rfl, rfl, by decide +kernel, rfl, by decide +kernel, by decide +kernel⟩
def f_cycles_of : List D → FRes := runF 2 none (
  sRet (cCall oTuple [cFn f_cycles_by [cFn f_need_perm [cV 0, cV 1]]]))
theorem ok_cycles_of {f : Addr} {fd : FuncData} (F : Fun K "cycles_of" "cycles_of" s_cycles_of f fd) (nb : NB mg) (c_cycles_by : FnF P w K mg base 1 "cycles_by" ["perm"] none f_cycles_by) (c_need_perm : FnF P w K mg base 5 "need_perm" ["points", "perm"] none f_need_perm) : FnOk P w K mg base (L2.CX P w) 6 f fd ["points", "perm"] (spF (mkB K mg) 2 none f_cycles_of) := by
  refine fn_mk F sc_cycles_of fun cdv A outer s H E hr => ?_
  have sc_nd := sc_cycles_of.nd
  exact (dss_one (ds_ret (de_callTy c_tuple s_tuple (by exact rfl) nb.tuple (by exact rfl) (da_cons (de_cf (κ := ()) c_cycles_by (hr.mono (by decide)) (takes_of rfl rfl rfl rfl) (by exact rfl) (da_cons (de_cf (κ := ()) c_need_perm (hr.mono (by decide)) (takes_of rfl rfl rfl rfl) (by exact rfl) (da_cons (de_var (pv 0)) (da_cons (de_var (pv 1)) da_nil (by exact rfl)) (by exact rfl)) rfl (by decide) (by exact rfl) (by exact rfl)) da_nil (by exact rfl)) rfl (by decide) (by exact rfl) (by exact rfl)) da_nil (by exact rfl)))))
abbrev s_type_by : Stmt := topS 18
theorem sc_type_by : FnScope ["perm", "cycle"] ["perm"] (defScope s_type_by) := ⟨rfl, rfl, rfl, by decide +kernel, rfl, by decide +kernel, by decide +kernel⟩
def f_type_by : List D → FRes := runF 2 none (
  sRet (cCall oTuple [cUn oRev (cCall oSorted [cComp [1] (cSeq (cFn f_cycles_by [cV 0])) (gName' false 1) (fun env => .ok true env) (cCall oLen [cV 1])])]))
theorem ok_type_by {f : Addr} {fd : FuncData} (F : Fun K "type_by" "type_by" s_type_by f fd) (nb : NB mg) (c_cycles_by : FnF P w K mg base 1 "cycles_by" ["perm"] none f_cycles_by) : FnOk P w K mg base (L2.CX P w) 2 f fd ["perm"] (spF (mkB K mg) 1 none f_type_by) := by
  refine fn_mk F sc_type_by fun cdv A outer s H E hr => ?_
  have sc_nd := sc_type_by.nd
  exact (dss_one (ds_ret (de_callTy c_tuple s_tuple (by exact rfl) nb.tuple (by exact rfl) (da_cons (de_rev (de_callB (c_sorted rfl hr) s_sorted (by exact rfl) nb.sorted (by exact rfl) (da_cons (de_comp (own := [("cycle", 1)]) rfl sc_nd (di_seq (de_cf (κ := ()) c_cycles_by (hr.mono (by decide)) (takes_of rfl rfl rfl rfl) (by exact rfl) (da_cons (de_var (pv 0)) da_nil (by exact rfl)) rfl (by decide) (by exact rfl) (by exact rfl))) (by exact blkOk_by (N := ["perm", "cycle"]) (sc := (defScope s_type_by)) (by decide +kernel)) (fun _ _ _ _ _ => (dg_name (pg_name sc_nd (by exact rfl) (by first | exact .inl rfl | exact .inr rfl)))) (fun _ _ _ _ _ => pts_yes) (fun _ _ _ _ _ => (de_callB c_len s_len (by exact rfl) nb.len (by exact rfl) (da_cons (de_var (pv 1)) da_nil (by exact rfl)))) (by decide)) da_nil (by exact rfl)))) da_nil (by exact rfl)))))
abbrev s_type_of_perm : Stmt := topS 19
theorem sc_type_of_perm : FnScope ["points", "perm"] ["points", "perm"] (defScope s_type_of_perm) := ⟨rfl, rfl, rfl, by decide +kernel, rfl, by decide +kernel, by decide +kernel⟩
def f_type_of_perm : List D → FRes := runF 2 none (
  sRet (cFn f_type_by [cFn f_need_perm [cV 0, cV 1]]))
theorem ok_type_of_perm {f : Addr} {fd : FuncData} (F : Fun K "type_of_perm" "type_of_perm" s_type_of_perm f fd) (nb : NB mg) (c_type_by : FnF P w K mg base 2 "type_by" ["perm"] none f_type_by) (c_need_perm : FnF P w K mg base 5 "need_perm" ["points", "perm"] none f_need_perm) : FnOk P w K mg base (L2.CX P w) 6 f fd ["points", "perm"] (spF (mkB K mg) 2 none f_type_of_perm) := by
  refine fn_mk F sc_type_of_perm fun cdv A outer s H E hr => ?_
  have sc_nd := sc_type_of_perm.nd
  exact (dss_one (ds_ret (de_cf (κ := ()) c_type_by (hr.mono (by decide)) (takes_of rfl rfl rfl rfl) (by exact rfl) (da_cons (de_cf (κ := ()) c_need_perm (hr.mono (by decide)) (takes_of rfl rfl rfl rfl) (by exact rfl) (da_cons (de_var (pv 0)) (da_cons (de_var (pv 1)) da_nil (by exact rfl)) (by exact rfl)) rfl (by decide) (by exact rfl) (by exact rfl)) da_nil (by exact rfl)) rfl (by decide) (by exact rfl) (by exact rfl))))
abbrev s__law_begun : Stmt := topS 21
theorem sc__law_begun : FnScope ["script", "cell"] ["script"] (defScope s__law_begun) := ⟨rfl, rfl, rfl, by decide +kernel, rfl, by decide +kernel, by decide +kernel⟩
def f__law_begun : List D → FRes := runF 2 none (
  sRet (cBegun (cCall oList [cV 0]) (cC (.int 0)) (cComp [1] (cSeq (cV 0)) (gName' false 1) (tst (cBin oGe (cCall oInt [cV 1]) (cBin oPow (cC (.int 10)) (cC (.int 18))))) (cCall oInt [cV 1]))))
theorem ok__law_begun {f : Addr} {fd : FuncData} (F : Fun K "_law_begun" "_law_begun" s__law_begun f fd) (nb : NB mg)  : FnOk P w K mg base (L2.CX P w) 1 f fd ["script"] (spF (mkB K mg) 1 none f__law_begun) := by
  refine fn_mk F sc__law_begun fun cdv A outer s H E hr => ?_
  have sc_nd := sc__law_begun.nd
  exact (dss_one (ds_ret (de_begun (de_callTy (c_list rfl) s_list (by exact rfl) nb.list (by exact rfl) (da_cons (de_var (pv 0)) da_nil (by exact rfl))) de_int (de_comp (own := [("cell", 1)]) rfl sc_nd (di_seq (de_var (pv 0))) (by exact blkOk_by (N := ["script", "cell"]) (sc := (defScope s__law_begun)) (by decide +kernel)) (fun _ _ _ _ _ => (dg_name (pg_name sc_nd (by exact rfl) (by first | exact .inl rfl | exact .inr rfl)))) (fun _ _ _ _ _ => (pts_if (dt_cmp op_ge s_ge (de_callTy c_int s_int (by exact rfl) nb.int (by exact rfl) (da_cons (de_var (pv 1)) da_nil (by exact rfl))) (de_bin op_pow s_pow de_int de_int) (by exact rfl)))) (fun _ _ _ _ _ => (de_callTy c_int s_int (by exact rfl) nb.int (by exact rfl) (da_cons (de_var (pv 1)) da_nil (by exact rfl)))) (by decide)))))
abbrev s__law_next : Stmt := topS 22
theorem sc__law_next : FnScope ["m", "many", "rest", "at", "cell", "blend"] ["m", "many"] (defScope s__law_next) := ⟨rfl, rfl, rfl, by decide +kernel, rfl, by decide +kernel, by decide +kernel⟩
def f__law_next : List D → FRes := runF 6 (some .m) (
  sSeq (sIf (tMne 0 true)
  (sSeq (sSet false 2 (cMix 0 true (cC (.int 0))))
  (sSeq (sAsg (gMleft 0 0) (cBin oFdiv (cV 2) (cV 1)))
  (sSeq (sIf (tst (cBin oEq (cMix 0 true (cC (.int 0))) (cC (.int 0))))
  (sMleft 0 (cMsl 0 true 1))
  (sNx))
  (sRet (cBin oMod (cV 2) (cV 1))))))
  (sNx))
  (sSeq (sSet false 3 (cMat 0))
  (sSeq (sAsg (gMat 0) (cBin oAdd (cV 3) (cC (.int 1))))
  (sSeq (sSet false 4 (cIf (tMne 0 false) (cMix 0 false (cBin oMod (cV 3) (cMlen 0 false))) (cC (.int 0))))
  (sSeq (sSet false 5 (cBin oMul (cBin oMod (cCall oInt [cV 4]) (cC (.int 2147483629))) (cBin oAdd (cBin oMul (cC (.int 2)) (cV 3)) (cC (.int 3)))))
  (sSeq (sSet false 5 (cBin oMod (cBin oAdd (cBin oAdd (cBin oAdd (cV 5) (cBin oMul (cBin oMul (cC (.int 7919)) (cV 3)) (cV 3))) (cBin oMul (cC (.int 104729)) (cV 3))) (cC (.int 31))) (cC (.int 2147483647))))
  (sRet (cBin oMod (cBin oFdiv (cBin oMod (cBin oMul (cBin oMod (cBin oMul (cV 5) (cV 5)) (cC (.int 2147483629))) (cC (.int 48271))) (cC (.int 2147483647))) (cC (.int 13))) (cV 1)))))))))
theorem ok__law_next {f : Addr} {fd : FuncData} (F : Fun K "_law_next" "_law_next" s__law_next f fd) (nb : NB mg)  : FnOk P w K mg base (L2.CX P w) 1 f fd ["m", "many"] (spF (mkB K mg) 2 (some .m) f__law_next) := by
  refine fn_mk F sc__law_next fun cdv A outer s H E hr => ?_
  have sc_nd := sc__law_next.nd
  exact (dss_cons (ds_if (dt_mne true (by exact rfl) hr (pv 0))
  (dss_cons (ds_set (i := 2) sc_nd (by exact rfl) (by first | exact .inl rfl | exact .inr rfl) (de_mix true (by exact rfl) hr (pv 0) de_int (fun _ _ => rfl)) (by exact rfl))
  (dss_cons (ds_asgx (de_bin op_fdivW s_fdiv (de_var (pv 2)) (de_var (pv 1))) (dgx_mleft hr (pv 0) pe_int))
  (dss_cons (ds_if (dt_cmp (op_eqD (hr.lt)) s_eq (de_mix true (by exact rfl) hr (pv 0) de_int (fun _ _ => rfl)) de_int (by exact rfl))
  (dss_one (ds_mleft hr (pv 0) (de_msl (flo := cC .non) true (by exact rfl) hr (pv 0) pe_int)))
  dss_nil)
  (dss_one (ds_ret (de_bin op_modAll s_mod (de_var (pv 2)) (de_var (pv 1))))))))
  dss_nil)
  (dss_cons (ds_set (i := 3) sc_nd (by exact rfl) (by first | exact .inl rfl | exact .inr rfl) (de_mat hr (pv 0)) (by exact rfl))
  (dss_cons (ds_asgx (de_bin op_addAll s_add (de_var (pv 3)) de_int) (dgx_mat hr (pv 0)))
  (dss_cons (ds_set (i := 4) sc_nd (by exact rfl) (by first | exact .inl rfl | exact .inr rfl) (de_if (dt_mne false (by exact rfl) hr (pv 0)) (de_mix false (by exact rfl) hr (pv 0) (de_bin op_modAll s_mod (de_var (pv 3)) (de_mlen false (by exact rfl) hr (by exact rfl) nb.len (pv 0))) (fun _ _ => rfl)) de_int) (by exact rfl))
  (dss_cons (ds_set (i := 5) sc_nd (by exact rfl) (by first | exact .inl rfl | exact .inr rfl) (de_bin op_mulAll s_mul (de_bin op_modAll s_mod (de_callTy c_int s_int (by exact rfl) nb.int (by exact rfl) (da_cons (de_var (pv 4)) da_nil (by exact rfl))) de_int) (de_bin op_addAll s_add (de_bin op_mulAll s_mul de_int (de_var (pv 3))) de_int)) (by exact rfl))
  (dss_cons (ds_set (i := 5) sc_nd (by exact rfl) (by first | exact .inl rfl | exact .inr rfl) (de_bin op_modAll s_mod (de_bin op_addAll s_add (de_bin op_addAll s_add (de_bin op_addAll s_add (de_var (pv 5)) (de_bin op_mulAll s_mul (de_bin op_mulAll s_mul de_int (de_var (pv 3))) (de_var (pv 3)))) (de_bin op_mulAll s_mul de_int (de_var (pv 3)))) de_int) de_int) (by exact rfl))
  (dss_one (ds_ret (de_bin op_modAll s_mod (de_bin op_fdivW s_fdiv (de_bin op_modAll s_mod (de_bin op_mulAll s_mul (de_bin op_modAll s_mod (de_bin op_mulAll s_mul (de_var (pv 5)) (de_var (pv 5))) de_int) de_int) de_int) de_int) (de_var (pv 1)))))))))))
abbrev s__law_like : Stmt := topS 23
theorem sc__law_like : FnScope ["got", "due", "k"] ["got", "due"] (defScope s__law_like) := ⟨rfl, rfl, rfl, by decide +kernel, rfl, by decide +kernel, by decide +kernel⟩
def f__law_like : Nat → List D → FRes
  | 0 => fun _ => .stuck
  | n + 1 => runF 3 none (
  sSeq (sIf (tst (cCall oIsi [cV 1, cC (.ty "tuple")]))
  (sRet (cAndV (cCall oIsi [cV 0, cC (.ty "tuple")]) (cAndV (cBin oEq (cCall oLen [cV 0]) (cCall oLen [cV 1])) (cCall oAll [cComp [2] (cRng1 (cCall oLen [cV 1])) (gName' false 2) (fun env => .ok true env) (cFn (f__law_like n) [cBin oIx (cV 0) (cV 2), cBin oIx (cV 1) (cV 2)])]))))
  (sNx))
  (sSeq (sIf (tOrB (tst (cBin oIsN (cV 1) (cC .non))) (tst (cCall oIsi [cV 1, cC (.ty "str")])))
  (sRet (cIf (tst (cBin oIsN (cV 1) (cC .non))) (cBin oIsN (cV 0) (cC .non)) (cAndV (cCall oIsi [cV 0, cC (.ty "str")]) (cBin oEq (cV 0) (cV 1)))))
  (sNx))
  (sRet (cAndV (cCall oIsi [cV 0, cC (.ty "int")]) (cAndV (cBin oEq (cCall oIsi [cV 0, cC (.ty "bool")]) (cCall oIsi [cV 1, cC (.ty "bool")])) (cBin oEq (cV 0) (cV 1)))))))
theorem ok__law_like {f : Addr} {fd : FuncData} (F : Fun K "_law_like" "_law_like" s__law_like f fd) (hm : mg "_law_like" = some (.ref f)) (hb : Binds K fd ["got", "due"] []) (nb : NB mg)  : ∀ n, FnOk P w K mg base (L2.CX P w) (1 + n) f fd ["got", "due"] (spF (mkB K mg) 2 none (f__law_like n))
  | 0 => fn_stuck (ps := ["got", "due"])
  | n + 1 => by
    have c__law_like : FnF P w K mg base (1 + n) "_law_like" ["got", "due"] none (f__law_like n) := ⟨f, fd, ok__law_like F hm hb nb  n, hm, F.kp, hb⟩
    refine fn_mk F sc__law_like fun cdv A outer s H E hr => ?_
    have sc_nd := sc__law_like.nd
    exact (dss_cons (ds_if (dt_val (de_callB c_isi s_isi (by exact rfl) nb.isinstance (by exact rfl) (da_cons (de_var (pv 1)) (da_cons (de_ty (by exact rfl) nb.tuple (by exact rfl)) da_nil (by exact rfl)) (by exact rfl))))
  (dss_one (ds_ret (de_and (de_callB c_isi s_isi (by exact rfl) nb.isinstance (by exact rfl) (da_cons (de_var (pv 0)) (da_cons (de_ty (by exact rfl) nb.tuple (by exact rfl)) da_nil (by exact rfl)) (by exact rfl))) (de_and (de_cmp (op_eqD (hr.lt)) s_eq (de_callB c_len s_len (by exact rfl) nb.len (by exact rfl) (da_cons (de_var (pv 0)) da_nil (by exact rfl))) (de_callB c_len s_len (by exact rfl) nb.len (by exact rfl) (da_cons (de_var (pv 1)) da_nil (by exact rfl))) (by exact rfl)) (de_one (de_callB (c_all rfl) s_all (by exact rfl) nb.all (by exact rfl) (da_cons (de_comp (own := [("k", 2)]) rfl sc_nd (di_range1 (by exact rfl) nb.range (de_callB c_len s_len (by exact rfl) nb.len (by exact rfl) (da_cons (de_var (pv 1)) da_nil (by exact rfl))) (by exact rfl)) (by exact blkOk_by (N := ["got", "due", "k"]) (sc := (defScope s__law_like)) (by decide +kernel)) (fun _ _ _ _ _ => (dg_name (pg_name sc_nd (by exact rfl) (by first | exact .inl rfl | exact .inr rfl)))) (fun _ _ _ _ _ => pts_yes) (fun _ _ _ _ _ => (de_cf (κ := ()) c__law_like (hr.mono (by first | exact Nat.le_refl _ | exact Nat.le_trans (by decide) (Nat.le_add_right _ _))) takes0 (by exact rfl) (da_cons (de_ix (ix_A hr) s_ix (de_var (pv 0)) (de_var (pv 2)) (fun _ _ => rfl)) (da_cons (de_ix (ix_A hr) s_ix (de_var (pv 1)) (de_var (pv 2)) (fun _ _ => rfl)) da_nil (by exact rfl)) (by exact rfl)) rfl (by decide) (by exact rfl) (by exact rfl))) (by decide)) da_nil (by exact rfl))))))))
  dss_nil)
  (dss_cons (ds_if (dt_of (dw_or (dt_cmp op_isN1 s_isN (de_var (pv 1)) de_non (by exact rfl)) (dw_or1 (dt_val (de_callB c_isi s_isi (by exact rfl) nb.isinstance (by exact rfl) (da_cons (de_var (pv 1)) (da_cons (de_ty (by exact rfl) nb.str (by exact rfl)) da_nil (by exact rfl)) (by exact rfl)))))))
  (dss_one (ds_ret (de_if (dt_cmp op_isN1 s_isN (de_var (pv 1)) de_non (by exact rfl)) (de_cmp op_isN1 s_isN (de_var (pv 0)) de_non (by exact rfl)) (de_and (de_callB c_isi s_isi (by exact rfl) nb.isinstance (by exact rfl) (da_cons (de_var (pv 0)) (da_cons (de_ty (by exact rfl) nb.str (by exact rfl)) da_nil (by exact rfl)) (by exact rfl))) (de_one (de_cmp (op_eqD (hr.lt)) s_eq (de_var (pv 0)) (de_var (pv 1)) (by exact rfl)))))))
  dss_nil)
  (dss_one (ds_ret (de_and (de_callB c_isi s_isi (by exact rfl) nb.isinstance (by exact rfl) (da_cons (de_var (pv 0)) (da_cons (de_ty (by exact rfl) nb.int (by exact rfl)) da_nil (by exact rfl)) (by exact rfl))) (de_and (de_cmp (op_eqD (hr.lt)) s_eq (de_callB c_isi s_isi (by exact rfl) nb.isinstance (by exact rfl) (da_cons (de_var (pv 0)) (da_cons (de_ty (by exact rfl) nb.bool (by exact rfl)) da_nil (by exact rfl)) (by exact rfl))) (de_callB c_isi s_isi (by exact rfl) nb.isinstance (by exact rfl) (da_cons (de_var (pv 1)) (da_cons (de_ty (by exact rfl) nb.bool (by exact rfl)) da_nil (by exact rfl)) (by exact rfl))) (by exact rfl)) (de_one (de_cmp (op_eqD (hr.lt)) s_eq (de_var (pv 0)) (de_var (pv 1)) (by exact rfl)))))))))
abbrev s__law_then : Stmt := topS 24
theorem sc__law_then : FnScope ["one", "other", "point"] ["one", "other"] (defScope s__law_then) := ⟨rfl, rfl, rfl, by decide +kernel, rfl, by decide +kernel, by decide +kernel⟩
def f__law_then : List D → FRes := runF 3 none (
  sRet (cCall oTuple [cComp [2] (cSeq (cV 0)) (gName' false 2) (fun env => .ok true env) (cBin oIx (cV 1) (cV 2))]))
theorem ok__law_then {f : Addr} {fd : FuncData} (F : Fun K "_law_then" "_law_then" s__law_then f fd) (nb : NB mg)  : FnOk P w K mg base (L2.CX P w) 1 f fd ["one", "other"] (spF (mkB K mg) 2 none f__law_then) := by
  refine fn_mk F sc__law_then fun cdv A outer s H E hr => ?_
  have sc_nd := sc__law_then.nd
  exact (dss_one (ds_ret (de_callTy c_tuple s_tuple (by exact rfl) nb.tuple (by exact rfl) (da_cons (de_comp (own := [("point", 2)]) rfl sc_nd (di_seq (de_var (pv 0))) (by exact blkOk_by (N := ["one", "other", "point"]) (sc := (defScope s__law_then)) (by decide +kernel)) (fun _ _ _ _ _ => (dg_name (pg_name sc_nd (by exact rfl) (by first | exact .inl rfl | exact .inr rfl)))) (fun _ _ _ _ _ => pts_yes) (fun _ _ _ _ _ => (de_ix (ix_A hr) s_ix (de_var (pv 1)) (de_var (pv 2)) (fun _ _ => rfl))) (by decide)) da_nil (by exact rfl)))))
abbrev s__law_perm : Stmt := topS 25
theorem sc__law_perm : FnScope ["m", "points", "rest", "found", "turn"] ["m", "points"] (defScope s__law_perm) := ⟨rfl, rfl, rfl, by decide +kernel, rfl, by decide +kernel, by decide +kernel⟩
def f__law_perm : List D → FRes := runF 5 (some .m) (
  sSeq (sPar false [2, 3] [cLRg1 true (cV 1), cLst []])
  (sSeq (sFor [(4, false)] (cRng1 (cV 1)) (gName' false 4)
  (sDrop (cMut 3 .l "list" mApp [cMut 2 .l "list" mPopI [cFnIo 0 .m f__law_next [cCall oLen [cV 2]]]])))
  (sRet (cCall oTuple [cV 3]))))
theorem ok__law_perm {f : Addr} {fd : FuncData} (F : Fun K "_law_perm" "_law_perm" s__law_perm f fd) (nb : NB mg) (c__law_next : FnF P w K mg base 1 "_law_next" ["m", "many"] (some .m) f__law_next) : FnOk P w K mg base (L2.CX P w) 2 f fd ["m", "points"] (spF (mkB K mg) 2 (some .m) f__law_perm) := by
  refine fn_mk F sc__law_perm fun cdv A outer s H E hr => ?_
  have sc_nd := sc__law_perm.nd
  exact (dss_cons (ds_par2 rfl sc_nd (by exact rfl) (by exact rfl) (by decide) (by exact rfl) (by exact rfl) (dao_cons (de_listRg1 rfl (by exact rfl) nb.list (by exact rfl) nb.range (de_var (pv 1)) (by exact rfl) (by exact rfl)) (dao_cons (de_lst da_nil) dao_nil (by exact rfl)) (by exact rfl)) (by exact rfl) (by exact rfl))
  (dss_cons (ds_for (nr := [(4, false)]) (passes_of rfl) rfl (di_range1 (by exact rfl) nb.range (de_var (pv 1)) (by exact rfl)) (dg_name (pg_name sc_nd (by exact rfl) (by first | exact .inl rfl | exact .inr rfl)))
  (dss_one (ds_expr (de_mut PySem.F.plainAttrs_list PySem.F.slot_list_append PySem.F.type_list_append mt_append m_app rfl (pv 3) (da_cons (de_mut PySem.F.plainAttrs_list PySem.F.slot_list_pop PySem.F.type_list_pop mt_popAt m_popI rfl (pv 2) (da_cons (de_cfio c__law_next (hr.mono (by decide)) (takes_of rfl rfl rfl rfl) (by exact rfl) (pv 0) (da_cons (de_callB c_len s_len (by exact rfl) nb.len (by exact rfl) (da_cons (de_var (pv 2)) da_nil (by exact rfl))) da_nil (by exact rfl)) rfl (by decide) (by exact rfl) (by exact rfl)) da_nil (by exact rfl))) da_nil (by exact rfl))) (by exact rfl))))
  (dss_one (ds_ret (de_callTy c_tuple s_tuple (by exact rfl) nb.tuple (by exact rfl) (da_cons (de_var (pv 3)) da_nil (by exact rfl)))))))
abbrev s__law_is_whole : Stmt := topS 26
theorem sc__law_is_whole : FnScope ["thing", "least", "most"] ["thing", "least", "most"] (defScope s__law_is_whole) := ⟨rfl, rfl, rfl, by decide +kernel, rfl, by decide +kernel, by decide +kernel⟩
def f__law_is_whole : List D → FRes := runF 3 none (
  sRet (cAndV (cCall oIsi [cV 0, cC (.ty "int")]) (cAndV (cUn oNot (cCall oIsi [cV 0, cC (.ty "bool")])) (cChain oLe oLe (cV 1) (cV 0) (cV 2)))))
theorem ok__law_is_whole {f : Addr} {fd : FuncData} (F : Fun K "_law_is_whole" "_law_is_whole" s__law_is_whole f fd) (nb : NB mg)  : FnOk P w K mg base (L2.CX P w) 1 f fd ["thing", "least", "most"] (spF (mkB K mg) 3 none f__law_is_whole) := by
  refine fn_mk F sc__law_is_whole fun cdv A outer s H E hr => ?_
  have sc_nd := sc__law_is_whole.nd
  exact (dss_one (ds_ret (de_and (de_callB c_isi s_isi (by exact rfl) nb.isinstance (by exact rfl) (da_cons (de_var (pv 0)) (da_cons (de_ty (by exact rfl) nb.int (by exact rfl)) da_nil (by exact rfl)) (by exact rfl))) (de_and (de_not (de_callB c_isi s_isi (by exact rfl) nb.isinstance (by exact rfl) (da_cons (de_var (pv 0)) (da_cons (de_ty (by exact rfl) nb.bool (by exact rfl)) da_nil (by exact rfl)) (by exact rfl)))) (de_one (de_chain op_le op_le p_le p_le (de_var (pv 1)) (de_var (pv 0)) (de_var (pv 2))))))))
abbrev s__law_cycles : Stmt := topS 27
theorem sc__law_cycles : FnScope ["perm", "found", "point", "cycle", "here"] ["perm"] (defScope s__law_cycles) := ⟨rfl, rfl, rfl, by decide +kernel, rfl, by decide +kernel, by decide +kernel⟩
def f__law_cycles : List D → FRes := runF 5 none (
  sSeq (sSet true 1 (cLst []))
  (sSeq (sFor [(2, false), (3, false), (4, false)] (cRng1 (cCall oLen [cV 0])) (gName' true 2)
  (sIf (tst (cBin oEq (cComp [3] (cSeq (cV 1)) (gName' false 3) (tst (cBin (inD false) (cV 2) (cV 3))) (cC (.int 1))) (cLst [])))
  (sSeq (sPar true [3, 4] [cLst [cF 2], cBin oIx (cV 0) (cV 2)])
  (sSeq (sWhile 1000000 [] (tst (cBin oNe (cV 4) (cV 2)))
  (sSeq (sDrop (cMut 3 .l "list" mApp [cF 4]))
  (sSet true 4 (cBin oIx (cV 0) (cV 4)))))
  (sDrop (cMut 1 .l "list" mApp [cCall oTuple [cV 3]]))))
  (sNx)))
  (sRet (cCall oTuple [cV 1]))))
theorem ok__law_cycles {f : Addr} {fd : FuncData} (F : Fun K "_law_cycles" "_law_cycles" s__law_cycles f fd) (nb : NB mg)  : FnOk P w K mg base (L2.CX P w) 1 f fd ["perm"] (spF (mkB K mg) 1 none f__law_cycles) := by
  refine fn_mk F sc__law_cycles fun cdv A outer s H E hr => ?_
  have sc_nd := sc__law_cycles.nd
  exact (dss_cons (ds_set (i := 1) sc_nd (by exact rfl) (by first | exact .inl rfl | exact .inr rfl) (de_lst da_nil) (by exact rfl))
  (dss_cons (ds_for (nr := [(2, false), (3, false), (4, false)]) (passes_of rfl) rfl (di_range1 (by exact rfl) nb.range (de_callB c_len s_len (by exact rfl) nb.len (by exact rfl) (da_cons (de_var (pv 0)) da_nil (by exact rfl))) (by exact rfl)) (dg_name (pg_name sc_nd (by exact rfl) (by first | exact .inl rfl | exact .inr rfl)))
  (dss_one (ds_if (dt_cmp (op_eqD (hr.lt)) s_eq (de_comp (own := [("cycle", 3)]) rfl sc_nd (di_seq (de_var (pv 1))) (by exact blkOk_by (N := ["perm", "found", "point", "cycle", "here"]) (sc := (defScope s__law_cycles)) (by decide +kernel)) (fun _ _ _ _ _ => (dg_name (pg_name sc_nd (by exact rfl) (by first | exact .inl rfl | exact .inr rfl)))) (fun _ _ _ _ _ => (pts_if (dt_cmp (op_inA hr) (s_inD false) (de_var (pv 2)) (de_var (pv 3)) (by exact rfl)))) (fun _ _ _ _ _ => de_int) (by decide)) (de_lst da_nil) (by exact rfl))
  (dss_cons (ds_par2 rfl sc_nd (by exact rfl) (by exact rfl) (by decide) (by exact rfl) (by exact rfl) (dao_cons (de_lst (da_cons (de_frz (pv 2)) da_nil (by exact rfl))) (dao_cons (de_ix (ix_A hr) s_ix (de_var (pv 0)) (de_var (pv 2)) (fun _ _ => rfl)) dao_nil (by exact rfl)) (by exact rfl)) (by exact rfl) (by exact rfl))
  (dss_cons (ds_while (nr := []) (fuel := 1000000) (passes_of rfl) (dt_cmp (op_neD (hr.lt)) s_ne (de_var (pv 4)) (de_var (pv 2)) (by exact rfl))
  (dss_cons (ds_expr (de_mut PySem.F.plainAttrs_list PySem.F.slot_list_append PySem.F.type_list_append mt_append m_app rfl (pv 3) (da_cons (de_frz (pv 4)) da_nil (by exact rfl))) (by exact rfl))
  (dss_one (ds_set (i := 4) sc_nd (by exact rfl) (by first | exact .inl rfl | exact .inr rfl) (de_ix (ix_A hr) s_ix (de_var (pv 0)) (de_var (pv 4)) (fun _ _ => rfl)) (by exact rfl)))))
  (dss_one (ds_expr (de_mut PySem.F.plainAttrs_list PySem.F.slot_list_append PySem.F.type_list_append mt_append m_app rfl (pv 1) (da_cons (de_callTy c_tuple s_tuple (by exact rfl) nb.tuple (by exact rfl) (da_cons (de_var (pv 3)) da_nil (by exact rfl))) da_nil (by exact rfl))) (by exact rfl)))))
  dss_nil)))
  (dss_one (ds_ret (de_callTy c_tuple s_tuple (by exact rfl) nb.tuple (by exact rfl) (da_cons (de_var (pv 1)) da_nil (by exact rfl)))))))
abbrev s__law_fault : Stmt := topS 28
theorem sc__law_fault : FnScope ["points", "thing", "place"] ["points", "thing"] (defScope s__law_fault) := ⟨rfl, rfl, rfl, by decide +kernel, rfl, by decide +kernel, by decide +kernel⟩
def f__law_fault : List D → FRes := runF 3 none (
  sSeq (sIf (tOrB (tNotB (tst (cCall oIsi [cV 1, cC (.ty "tuple")]))) (tst (cBin oNe (cCall oLen [cV 1]) (cV 0))))
  (sRet (cTup [cC .non]))
  (sNx))
  (sSeq (sFor [(2, false)] (cRng1 (cV 0)) (gName' true 2)
  (sIf (tOrB (tNotB (tst (cFn f__law_is_whole [cBin oIx (cV 1) (cV 2), cC (.int 0), cBin oSub (cV 0) (cC (.int 1))]))) (tst (cBin (inD false) (cBin oIx (cV 1) (cV 2)) (cSl oSl (cV 1) none (some (cV 2))))))
  (sRet (cTup [cF 2]))
  (sNx)))
  (sRet (cC .non))))
theorem ok__law_fault {f : Addr} {fd : FuncData} (F : Fun K "_law_fault" "_law_fault" s__law_fault f fd) (nb : NB mg) (c__law_is_whole : FnF P w K mg base 1 "_law_is_whole" ["thing", "least", "most"] none f__law_is_whole) : FnOk P w K mg base (L2.CX P w) 2 f fd ["points", "thing"] (spF (mkB K mg) 2 none f__law_fault) := by
  refine fn_mk F sc__law_fault fun cdv A outer s H E hr => ?_
  have sc_nd := sc__law_fault.nd
  exact (dss_cons (ds_if (dt_of (dw_or (dt_not (dt_val (de_callB c_isi s_isi (by exact rfl) nb.isinstance (by exact rfl) (da_cons (de_var (pv 1)) (da_cons (de_ty (by exact rfl) nb.tuple (by exact rfl)) da_nil (by exact rfl)) (by exact rfl))))) (dw_or1 (dt_cmp (op_neD (hr.lt)) s_ne (de_callB c_len s_len (by exact rfl) nb.len (by exact rfl) (da_cons (de_var (pv 1)) da_nil (by exact rfl))) (de_var (pv 0)) (by exact rfl)))))
  (dss_one (ds_ret (de_tup (da_cons de_non da_nil (by exact rfl)))))
  dss_nil)
  (dss_cons (ds_for (nr := [(2, false)]) (passes_of rfl) rfl (di_range1 (by exact rfl) nb.range (de_var (pv 0)) (by exact rfl)) (dg_name (pg_name sc_nd (by exact rfl) (by first | exact .inl rfl | exact .inr rfl)))
  (dss_one (ds_if (dt_of (dw_or (dt_not (dt_val (de_cf (κ := ()) c__law_is_whole (hr.mono (by decide)) (takes_of rfl rfl rfl rfl) (by exact rfl) (da_cons (de_ix (ix_A hr) s_ix (de_var (pv 1)) (de_var (pv 2)) (fun _ _ => rfl)) (da_cons de_int (da_cons (de_bin op_sub s_sub (de_var (pv 0)) de_int) da_nil (by exact rfl)) (by exact rfl)) (by exact rfl)) rfl (by decide) (by exact rfl) (by exact rfl)))) (dw_or1 (dt_cmp (op_inA hr) (s_inD false) (de_ix (ix_A hr) s_ix (de_var (pv 1)) (de_var (pv 2)) (fun _ _ => rfl)) (de_slice sl_All s_sl (de_var (pv 1)) do_none (do_some (de_var (pv 2)))) (by exact rfl)))))
  (dss_one (ds_ret (de_tup (da_cons (de_frz (pv 2)) da_nil (by exact rfl)))))
  dss_nil)))
  (dss_one (ds_ret de_non))))
abbrev s__law_told : Stmt := topS 29
theorem sc__law_told : FnScope ["points", "thing", "e"] ["points", "thing"] (defScope s__law_told) := ⟨rfl, rfl, rfl, by decide +kernel, rfl, by decide +kernel, by decide +kernel⟩
def f__law_told : List D → FRes := runF 3 none (
  sTryAs 2 (fun z => if z = "BadPerm" then some true else none) (sRet (cTup [cC (.str "told"), cFn (fun ds => f_need_perm (permL [1, 0] ds)) [cV 1, cV 0]])) (sPair "perm"))
theorem ok__law_told {f : Addr} {fd : FuncData} (F : Fun K "_law_told" "_law_told" s__law_told f fd) (nb : NB mg) (c_need_perm : FnF P w K mg base 5 "need_perm" ["points", "perm"] none f_need_perm) (x_BadPerm : ExF P w K mg base "BadPerm") (kw_need_perm : KwOk K c_need_perm.fd ["points", "perm"] ["perm", "points"] [1, 0]) (m_BadPerm : ∀ (X : Cx), X.K = K → X.mg = mg → MatchOk X (.ref x_BadPerm.C) (fun z => if z = "BadPerm" then some true else none)) : FnOk P w K mg base (L2.CX P w) 6 f fd ["points", "thing"] (spF (mkB K mg) 2 none f__law_told) := by
  refine fn_mk F sc__law_told fun cdv A outer s H E hr => ?_
  have sc_nd := sc__law_told.nd
  exact (dss_one (ds_try_as rfl rfl sc_nd (by exact rfl) (by exact rfl) ⟨(by exact rfl), (by decide), .inl x_BadPerm.hm⟩ (takes_of rfl rfl rfl rfl) (fun W pn xe tk => (dss_one (ds_ret (de_tup (da_cons de_str (da_cons (de_callKw c_need_perm.ok (hr.mono (by decide)) (by exact rfl) c_need_perm.hm c_need_perm.hk kw_need_perm tk (dk_cons (de_var (pv 1)) (dk_cons (de_var (pv 0)) dk_nil)) rfl) da_nil (by exact rfl)) (by exact rfl)))))) (suite_pair x_BadPerm.xf x_BadPerm.hno x_BadPerm.hm (by exact rfl) (fun z => by split <;> simp_all) (fun _ _ _ => pv 2)) (m_BadPerm _ rfl rfl)))
abbrev s__law_right : Stmt := topS 30
theorem sc__law_right : FnScope ["m", "points", "one", "other", "both", "cycles", "kind", "back", "n", "bads", "thing", "fault", "point", "bad", "cycle"] ["m", "points"] (defScope s__law_right) := ⟨rfl, rfl, rfl, by decide +kernel, rfl, by decide +kernel, by decide +kernel⟩
def f__law_right : List D → FRes := runF 15 (some .m) (
  sSeq (sPar false [2, 3] [cFnIo 0 .m f__law_perm [cV 1], cFnIo 0 .m f__law_perm [cV 1]])
  (sSeq (sSet false 4 (cCall oTuple [cComp [12] (cRng1 (cV 1)) (gName' false 12) (fun env => .ok true env) (cBin oIx (cV 3) (cBin oIx (cV 2) (cV 12)))]))
  (sSeq (sSet false 5 (cFn f__law_cycles [cV 2]))
  (sSeq (sSet false 6 (cCall oTuple [cUn oRev (cCall oSorted [cComp [14] (cSeq (cV 5)) (gName' false 14) (fun env => .ok true env) (cCall oLen [cV 14])])]))
  (sSeq (sIf (tNotB (tst (cFn (f__law_like 12) [cTup [cFn (fun ds => f_perm_then (permL [2, 1, 0] ds)) [cV 3, cV 2, cV 1], cFn (fun ds => f_cycles_of (permL [1, 0] ds)) [cV 2, cV 1], cFn (fun ds => f_type_of_perm (permL [1, 0] ds)) [cV 2, cV 1]], cTup [cF 4, cF 5, cF 6]])))
  (sRet (cC (.bl false)))
  (sNx))
  (sSeq (sSet false 7 (cFn (fun ds => f_perm_inverse (permL [1, 0] ds)) [cV 2, cV 1]))
  (sSeq (sIf (tOrB (tNotB (tst (cFn (f__law_like 12) [cFn f__law_then [cV 2, cV 7], cLRg1 false (cV 1)]))) (tNotB (tst (cFn (f__law_like 12) [cFn f_perm_then [cV 1, cV 7, cV 2], cLRg1 false (cV 1)]))))
  (sRet (cC (.bl false)))
  (sNx))
  (sSeq (sSet false 8 (cFnIo 0 .m f__law_next [cV 1]))
  (sSeq (sSet false 9 (cLst [cF 2, cUn oRev (cV 2), cCall oList [cV 2], cSl oSl (cV 2) (some (cC (.int 1))) none, cBin oAdd (cV 2) (cTup [cF 1]), cC .non, cTup [], cDnil, cBin oAdd (cBin oAdd (cSl oSl (cV 2) none (some (cV 8))) (cTup [cBin oIx (cV 2) (cC (.int 0))])) (cSl oSl (cV 2) (some (cBin oAdd (cV 8) (cC (.int 1)))) none)]))
  (sSeq (sFor [(10, false), (11, false)] (cSeq (cBin oAdd (cV 9) (cComp [13] (cSeq (cTup [cF 1, cUn oNeg (cC (.int 1)), cC (.bl true), cC .non, cC (.str "0"), cF 8])) (gName' false 13) (fun env => .ok true env) (cBin oAdd (cBin oAdd (cSl oSl (cV 2) none (some (cV 8))) (cTup [cF 13])) (cSl oSl (cV 2) (some (cBin oAdd (cV 8) (cC (.int 1)))) none))))) (gName' false 10)
  (sSeq (sSet false 11 (cFn f__law_fault [cV 1, cV 10]))
  (sIf (tst (cBin oNe (cCall oRepr [cFn f__law_told [cV 1, cV 10]]) (cCall oRepr [cIf (tst (cBin oIsN (cV 11) (cC .non))) (cTup [cC (.str "told"), cF 10]) (cTup [cC (.str "perm"), cBin oIx (cV 11) (cC (.int 0))])])))
  (sRet (cC (.bl false)))
  (sNx))))
  (sRet (cC (.bl true)))))))))))))
theorem ok__law_right {f : Addr} {fd : FuncData} (F : Fun K "_law_right" "_law_right" s__law_right f fd) (nb : NB mg) (c__law_perm : FnF P w K mg base 2 "_law_perm" ["m", "points"] (some .m) f__law_perm) (c__law_cycles : FnF P w K mg base 1 "_law_cycles" ["perm"] none f__law_cycles) (c__law_like : FnF P w K mg base 13 "_law_like" ["got", "due"] none (f__law_like 12)) (c_perm_then : FnF P w K mg base 6 "perm_then" ["points", "one", "other"] none f_perm_then) (c_cycles_of : FnF P w K mg base 6 "cycles_of" ["points", "perm"] none f_cycles_of) (c_type_of_perm : FnF P w K mg base 6 "type_of_perm" ["points", "perm"] none f_type_of_perm) (c_perm_inverse : FnF P w K mg base 6 "perm_inverse" ["points", "perm"] none f_perm_inverse) (c__law_then : FnF P w K mg base 1 "_law_then" ["one", "other"] none f__law_then) (c__law_next : FnF P w K mg base 1 "_law_next" ["m", "many"] (some .m) f__law_next) (c__law_fault : FnF P w K mg base 2 "_law_fault" ["points", "thing"] none f__law_fault) (c__law_told : FnF P w K mg base 6 "_law_told" ["points", "thing"] none f__law_told) (kw_cycles_of : KwOk K c_cycles_of.fd ["points", "perm"] ["perm", "points"] [1, 0]) (kw_perm_inverse : KwOk K c_perm_inverse.fd ["points", "perm"] ["perm", "points"] [1, 0]) (kw_perm_then : KwOk K c_perm_then.fd ["points", "one", "other"] ["other", "one", "points"] [2, 1, 0]) (kw_type_of_perm : KwOk K c_type_of_perm.fd ["points", "perm"] ["perm", "points"] [1, 0]) : FnOkG P w K mg base (L2.CX P w) 14 f fd ["m", "points"] (spF (mkB K mg) 2 (some .m) f__law_right) := by
  refine fn_mkG F sc__law_right fun cdv A outer s H E hgd hr => ?_
  have sc_nd := sc__law_right.nd
  exact (dss_cons (ds_parN rfl (pgs_n (pg_name sc_nd (by exact rfl) (by first | exact .inl rfl | exact .inr rfl)) (pgs_n (pg_name sc_nd (by exact rfl) (by first | exact .inl rfl | exact .inr rfl)) pgs_n0 (by exact rfl)) (by exact rfl)) (dao_cons (de_cfio c__law_perm (hr.mono (by decide)) (takes_of rfl rfl rfl rfl) (by exact rfl) (pv 0) (da_cons (de_var (pv 1)) da_nil (by exact rfl)) rfl (by decide) (by exact rfl) (by exact rfl)) (dao_cons (de_cfio c__law_perm (hr.mono (by decide)) (takes_of rfl rfl rfl rfl) (by exact rfl) (pv 0) (da_cons (de_var (pv 1)) da_nil (by exact rfl)) rfl (by decide) (by exact rfl) (by exact rfl)) dao_nil (by exact rfl)) (by exact rfl)) rfl)
  (dss_cons (ds_set (i := 4) sc_nd (by exact rfl) (by first | exact .inl rfl | exact .inr rfl) (de_callTy c_tuple s_tuple (by exact rfl) nb.tuple (by exact rfl) (da_cons (de_comp (own := [("point", 12)]) rfl sc_nd (di_range1 (by exact rfl) nb.range (de_var (pv 1)) (by exact rfl)) (by exact blkOk_by (N := ["m", "points", "one", "other", "both", "cycles", "kind", "back", "n", "bads", "thing", "fault", "point", "bad", "cycle"]) (sc := (defScope s__law_right)) (by decide +kernel)) (fun _ _ _ _ _ => (dg_name (pg_name sc_nd (by exact rfl) (by first | exact .inl rfl | exact .inr rfl)))) (fun _ _ _ _ _ => pts_yes) (fun _ _ _ _ _ => (de_ix (ix_A hr) s_ix (de_var (pv 3)) (de_ix (ix_A hr) s_ix (de_var (pv 2)) (de_var (pv 12)) (fun _ _ => rfl)) (fun _ _ => rfl))) (by decide)) da_nil (by exact rfl))) (by exact rfl))
  (dss_cons (ds_set (i := 5) sc_nd (by exact rfl) (by first | exact .inl rfl | exact .inr rfl) (de_cf (κ := ()) c__law_cycles (hr.mono (by decide)) (takes_of rfl rfl rfl rfl) (by exact rfl) (da_cons (de_var (pv 2)) da_nil (by exact rfl)) rfl (by decide) (by exact rfl) (by exact rfl)) (by exact rfl))
  (dss_cons (ds_set (i := 6) sc_nd (by exact rfl) (by first | exact .inl rfl | exact .inr rfl) (de_callTy c_tuple s_tuple (by exact rfl) nb.tuple (by exact rfl) (da_cons (de_rev (de_callB (c_sorted rfl hr) s_sorted (by exact rfl) nb.sorted (by exact rfl) (da_cons (de_comp (own := [("cycle", 14)]) rfl sc_nd (di_seq (de_var (pv 5))) (by exact blkOk_by (N := ["m", "points", "one", "other", "both", "cycles", "kind", "back", "n", "bads", "thing", "fault", "point", "bad", "cycle"]) (sc := (defScope s__law_right)) (by decide +kernel)) (fun _ _ _ _ _ => (dg_name (pg_name sc_nd (by exact rfl) (by first | exact .inl rfl | exact .inr rfl)))) (fun _ _ _ _ _ => pts_yes) (fun _ _ _ _ _ => (de_callB c_len s_len (by exact rfl) nb.len (by exact rfl) (da_cons (de_var (pv 14)) da_nil (by exact rfl)))) (by decide)) da_nil (by exact rfl)))) da_nil (by exact rfl))) (by exact rfl))
  (dss_cons (ds_if (dt_not (dt_val (de_cf (κ := ()) c__law_like (hr.mono (by decide)) (takes_of rfl rfl rfl rfl) (by exact rfl) (da_cons (de_tup (da_cons (de_callKw c_perm_then.ok (hr.mono (by decide)) (by exact rfl) c_perm_then.hm c_perm_then.hk kw_perm_then (takes_of rfl rfl rfl rfl) (dk_cons (de_var (pv 3)) (dk_cons (de_var (pv 2)) (dk_cons (de_var (pv 1)) dk_nil))) rfl) (da_cons (de_callKw c_cycles_of.ok (hr.mono (by decide)) (by exact rfl) c_cycles_of.hm c_cycles_of.hk kw_cycles_of (takes_of rfl rfl rfl rfl) (dk_cons (de_var (pv 2)) (dk_cons (de_var (pv 1)) dk_nil)) rfl) (da_cons (de_callKw c_type_of_perm.ok (hr.mono (by decide)) (by exact rfl) c_type_of_perm.hm c_type_of_perm.hk kw_type_of_perm (takes_of rfl rfl rfl rfl) (dk_cons (de_var (pv 2)) (dk_cons (de_var (pv 1)) dk_nil)) rfl) da_nil (by exact rfl)) (by exact rfl)) (by exact rfl))) (da_cons (de_tup (da_cons (de_frz (pv 4)) (da_cons (de_frz (pv 5)) (da_cons (de_frz (pv 6)) da_nil (by exact rfl)) (by exact rfl)) (by exact rfl))) da_nil (by exact rfl)) (by exact rfl)) rfl (by decide) (by exact rfl) (by exact rfl))))
  (dss_one (ds_ret de_bl))
  dss_nil)
  (dss_cons (ds_set (i := 7) sc_nd (by exact rfl) (by first | exact .inl rfl | exact .inr rfl) (de_callKw c_perm_inverse.ok (hr.mono (by decide)) (by exact rfl) c_perm_inverse.hm c_perm_inverse.hk kw_perm_inverse (takes_of rfl rfl rfl rfl) (dk_cons (de_var (pv 2)) (dk_cons (de_var (pv 1)) dk_nil)) rfl) (by exact rfl))
  (dss_cons (ds_if (dt_of (dw_or (dt_not (dt_val (de_cf (κ := ()) c__law_like (hr.mono (by decide)) (takes_of rfl rfl rfl rfl) (by exact rfl) (da_cons (de_cf (κ := ()) c__law_then (hr.mono (by decide)) (takes_of rfl rfl rfl rfl) (by exact rfl) (da_cons (de_var (pv 2)) (da_cons (de_var (pv 7)) da_nil (by exact rfl)) (by exact rfl)) rfl (by decide) (by exact rfl) (by exact rfl)) (da_cons (de_tupleRg1 rfl (by exact rfl) nb.tuple (by exact rfl) nb.range (de_var (pv 1)) (by exact rfl) (by exact rfl)) da_nil (by exact rfl)) (by exact rfl)) rfl (by decide) (by exact rfl) (by exact rfl)))) (dw_or1 (dt_not (dt_val (de_cf (κ := ()) c__law_like (hr.mono (by decide)) (takes_of rfl rfl rfl rfl) (by exact rfl) (da_cons (de_cf (κ := ()) c_perm_then (hr.mono (by decide)) (takes_of rfl rfl rfl rfl) (by exact rfl) (da_cons (de_var (pv 1)) (da_cons (de_var (pv 7)) (da_cons (de_var (pv 2)) da_nil (by exact rfl)) (by exact rfl)) (by exact rfl)) rfl (by decide) (by exact rfl) (by exact rfl)) (da_cons (de_tupleRg1 rfl (by exact rfl) nb.tuple (by exact rfl) nb.range (de_var (pv 1)) (by exact rfl) (by exact rfl)) da_nil (by exact rfl)) (by exact rfl)) rfl (by decide) (by exact rfl) (by exact rfl)))))))
  (dss_one (ds_ret de_bl))
  dss_nil)
  (dss_cons (ds_set (i := 8) sc_nd (by exact rfl) (by first | exact .inl rfl | exact .inr rfl) (de_cfio c__law_next (hr.mono (by decide)) (takes_of rfl rfl rfl rfl) (by exact rfl) (pv 0) (da_cons (de_var (pv 1)) da_nil (by exact rfl)) rfl (by decide) (by exact rfl) (by exact rfl)) (by exact rfl))
  (dss_cons (ds_set (i := 9) sc_nd (by exact rfl) (by first | exact .inl rfl | exact .inr rfl) (de_lst (da_cons (de_frz (pv 2)) (da_cons (de_rev (de_var (pv 2))) (da_cons (de_callTy (c_list rfl) s_list (by exact rfl) nb.list (by exact rfl) (da_cons (de_var (pv 2)) da_nil (by exact rfl))) (da_cons (de_slice sl_All s_sl (de_var (pv 2)) (do_some de_int) do_none) (da_cons (de_bin op_addAll s_add (de_var (pv 2)) (de_tup (da_cons (de_frz (pv 1)) da_nil (by exact rfl)))) (da_cons de_non (da_cons (de_tup da_nil) (da_cons de_dnil (da_cons (de_bin op_addAll s_add (de_bin op_addAll s_add (de_slice sl_All s_sl (de_var (pv 2)) do_none (do_some (de_var (pv 8)))) (de_tup (da_cons (de_ix (ix_A hr) s_ix (de_var (pv 2)) de_int (fun _ _ => rfl)) da_nil (by exact rfl)))) (de_slice sl_All s_sl (de_var (pv 2)) (do_some (de_bin op_addAll s_add (de_var (pv 8)) de_int)) do_none)) da_nil (by exact rfl)) (by exact rfl)) (by exact rfl)) (by exact rfl)) (by exact rfl)) (by exact rfl)) (by exact rfl)) (by exact rfl)) (by exact rfl))) (by exact rfl))
  (dss_cons (ds_for (nr := [(10, false), (11, false)]) (passes_of rfl) rfl (di_seq (de_bin op_addAll s_add (de_var (pv 9)) (de_comp (own := [("bad", 13)]) rfl sc_nd (di_seq (de_tup (da_cons (de_frz (pv 1)) (da_cons (de_un un_neg s_neg de_int) (da_cons de_bl (da_cons de_non (da_cons de_str (da_cons (de_frz (pv 8)) da_nil (by exact rfl)) (by exact rfl)) (by exact rfl)) (by exact rfl)) (by exact rfl)) (by exact rfl)))) (by exact blkOk_by (N := ["m", "points", "one", "other", "both", "cycles", "kind", "back", "n", "bads", "thing", "fault", "point", "bad", "cycle"]) (sc := (defScope s__law_right)) (by decide +kernel)) (fun _ _ _ _ _ => (dg_name (pg_name sc_nd (by exact rfl) (by first | exact .inl rfl | exact .inr rfl)))) (fun _ _ _ _ _ => pts_yes) (fun _ _ _ _ _ => (de_bin op_addAll s_add (de_bin op_addAll s_add (de_slice sl_All s_sl (de_var (pv 2)) do_none (do_some (de_var (pv 8)))) (de_tup (da_cons (de_frz (pv 13)) da_nil (by exact rfl)))) (de_slice sl_All s_sl (de_var (pv 2)) (do_some (de_bin op_addAll s_add (de_var (pv 8)) de_int)) do_none))) (by decide)))) (dg_name (pg_name sc_nd (by exact rfl) (by first | exact .inl rfl | exact .inr rfl)))
  (dss_cons (ds_set (i := 11) sc_nd (by exact rfl) (by first | exact .inl rfl | exact .inr rfl) (de_cf (κ := ()) c__law_fault (hr.mono (by decide)) (takes_of rfl rfl rfl rfl) (by exact rfl) (da_cons (de_var (pv 1)) (da_cons (de_var (pv 10)) da_nil (by exact rfl)) (by exact rfl)) rfl (by decide) (by exact rfl) (by exact rfl)) (by exact rfl))
  (dss_one (ds_if (dt_cmp (op_neD (hr.lt)) s_ne (de_callB (c_repr (by exact hgd) hr.u) s_repr (by exact rfl) nb.repr (by exact rfl) (da_cons (de_cf (κ := ()) c__law_told (hr.mono (by decide)) (takes_of rfl rfl rfl rfl) (by exact rfl) (da_cons (de_var (pv 1)) (da_cons (de_var (pv 10)) da_nil (by exact rfl)) (by exact rfl)) rfl (by decide) (by exact rfl) (by exact rfl)) da_nil (by exact rfl))) (de_callB (c_repr (by exact hgd) hr.u) s_repr (by exact rfl) nb.repr (by exact rfl) (da_cons (de_if (dt_cmp op_isN1 s_isN (de_var (pv 11)) de_non (by exact rfl)) (de_tup (da_cons de_str (da_cons (de_frz (pv 10)) da_nil (by exact rfl)) (by exact rfl))) (de_tup (da_cons de_str (da_cons (de_ix (ix_A hr) s_ix (de_var (pv 11)) de_int (fun _ _ => rfl)) da_nil (by exact rfl)) (by exact rfl)))) da_nil (by exact rfl))) (by exact rfl))
  (dss_one (ds_ret de_bl))
  dss_nil))))
  (dss_one (ds_ret de_bl))))))))))))
abbrev s__law_refusal : Stmt := topS 31
theorem sc__law_refusal : FnScope ["ask", "e"] ["ask"] (defScope s__law_refusal) := ⟨rfl, rfl, rfl, by decide +kernel, rfl, by decide +kernel, by decide +kernel⟩
def mf__law_refusal_BadPerm : Str → Option Bool := fun z => if z = "BadPerm" then some true else if z = "BadNumber" then some false else none
def mf__law_refusal_BadNumber : Str → Option Bool := fun z => if z = "BadNumber" then some true else if z = "BadPerm" then some false else none
theorem me__law_refusal_BadPerm : ∀ z, mf__law_refusal_BadPerm z = some true → z = "BadPerm" := by
  intro z h
  unfold mf__law_refusal_BadPerm at h
  repeat (split at h; first | assumption | (cases h; done) | skip)
  all_goals first | assumption | cases h
theorem me__law_refusal_BadNumber : ∀ z, mf__law_refusal_BadNumber z = some true → z = "BadNumber" := by
  intro z h
  unfold mf__law_refusal_BadNumber at h
  repeat (split at h; first | assumption | (cases h; done) | skip)
  all_goals first | assumption | cases h
def tl__law_refusal : List TC := [("perm", mf__law_refusal_BadPerm), ("number", mf__law_refusal_BadNumber)]
abbrev s_law : Stmt := topS 32
theorem sc_law : FnScope ["script", "m", "turn", "asks", "told", "bad", "ask"] ["script"] (defScope s_law) := ⟨rfl, rfl, rfl, by decide +kernel, rfl, by decide +kernel, by decide +kernel⟩
noncomputable def f_law : List D → FRes := unC fun C => runF 7 none (
  sSeq (sSet true 1 (cFn f__law_begun [cV 0]))
  (sSeq (sFor [(2, false)] (cRng1 (cC (.int 4))) (gName' true 2)
  (sIf (tOrB (tNotB (tst (cFnIo 1 .m f__law_right [cBin oAdd (cC (.int 1)) (cFnIo 1 .m f__law_next [cC (.int 8)])]))) (tNotB (tst (cFnIo 1 .m f__law_right [cBin oAdd (cC (.int 1)) (cFnIo 1 .m f__law_next [cC (.int 3)])]))))
  (sRet (cC (.bl false)))
  (sNx)))
  (sSeq (sFor [(3, false), (5, false)] (cSeq (cTup [cC (.int 0), cC (.int 9), cC (.bl true), cC .non, cC (.str "3"), cUn oNeg (cC (.int 1))])) (gName' true 5)
  (sSeq (sSet true 3 (cLst [cClo 0 C, cClo 1 C, cClo 2 C]))
  (sSeq (sSet true 3 (cBin oAdd (cV 3) (cLst [cClo 3 C, cClo 4 C])))
  (sIf (tst (cBin oNe (cComp [6] (cSeq (cV 3)) (gName' false 6) (tst (cBin oNe (cCall oRepr [cThunk "told" tl__law_refusal C [(0, cFn f_need_perm [cV 5, cC .non]), (1, cFn f_perm_then [cV 5, cC .non, cC .non]), (2, cFn f_perm_inverse [cV 5, cC .non]), (3, cFn f_cycles_of [cV 5, cC .non]), (4, cFn f_type_of_perm [cV 5, cC .non])] (cV 6)]) (cCall oRepr [cTup [cC (.str "number"), cF 5]]))) (cC (.int 1))) (cLst [])))
  (sRet (cC (.bl false)))
  (sNx)))))
  (sSeq (sSet true 4 (cLst [cThunk "told" tl__law_refusal C [(5, cFn f_perm_then [cC (.int 3), cTup [cC (.int 0), cC (.int 1)], cC .non])] (cClo 5 C), cThunk "told" tl__law_refusal C [(6, cFn f_perm_then [cC (.int 3), cTup [cC (.int 0), cC (.int 1), cC (.int 2)], cTup [cC (.int 0), cC (.int 0), cC (.int 3)]])] (cClo 6 C), cThunk "told" tl__law_refusal C [(7, cFn f_perm_inverse [cC (.int 3), cTup [cC (.int 0), cC (.int 1), cC (.int 3)]])] (cClo 7 C)]))
  (sSeq (sSet true 4 (cBin oAdd (cV 4) (cLst [cThunk "told" tl__law_refusal C [(8, cFn f_cycles_of [cC (.int 2), cTup [cC (.bl true), cC (.int 0)]])] (cClo 8 C), cThunk "told" tl__law_refusal C [(9, cFn f_type_of_perm [cC (.int 2), cLst [cC (.int 0), cC (.int 1)]])] (cClo 9 C)])))
  (sSeq (sIf (tst (cBin oNe (cV 4) (cLst [cTup [cC (.str "perm"), cC .non], cTup [cC (.str "perm"), cC (.int 1)], cTup [cC (.str "perm"), cC (.int 2)], cTup [cC (.str "perm"), cC (.int 0)], cTup [cC (.str "perm"), cC .non]])))
  (sRet (cC (.bl false)))
  (sNx))
  (sRet (cFn (f__law_like 12) [cTup [cFn f_cycles_of [cC (.int 5), cTup [cC (.int 2), cC (.int 1), cC (.int 4), cC (.int 3), cC (.int 0)]], cFn f_type_of_perm [cC (.int 5), cTup [cC (.int 2), cC (.int 1), cC (.int 4), cC (.int 3), cC (.int 0)]], cFn f_perm_then [cC (.int 3), cTup [cC (.int 1), cC (.int 2), cC (.int 0)], cTup [cC (.int 1), cC (.int 0), cC (.int 2)]]], cTup [cTup [cTup [cC (.int 0), cC (.int 2), cC (.int 4)], cTup [cC (.int 1)], cTup [cC (.int 3)]], cTup [cC (.int 3), cC (.int 1), cC (.int 1)], cTup [cC (.int 0), cC (.int 2), cC (.int 1)]]]))))))))
def lam_0 : VL.LamS := toLam (exAt (kids (valOf (stAt (bodyOf (stAt (defBody s_law) 2)) 0))) 0) "law.<locals>."
theorem lp_0 : LamP (defScope s_law) lam_0.scope := lamP_by (by decide +kernel)
theorem lb_0 : LBind lam_0.params lam_0.body lam_0.scope [] := by exact lb0 (by decide +kernel)
theorem lc_0 : ∀ y ∈ ([] : List Str), y ∉ (["script", "m", "turn", "asks", "told", "bad", "ask"] : List Str) := by decide
def lam_1 : VL.LamS := toLam (exAt (kids (valOf (stAt (bodyOf (stAt (defBody s_law) 2)) 0))) 1) "law.<locals>."
theorem lp_1 : LamP (defScope s_law) lam_1.scope := lamP_by (by decide +kernel)
theorem lb_1 : LBind lam_1.params lam_1.body lam_1.scope ["one"] := by exact lb1 (by decide +kernel) (by decide +kernel) (fun _ _ _ _ _ _ _ => ⟨_, rfl, fun _ => rfl⟩)
theorem lc_1 : ∀ y ∈ (["one"] : List Str), y ∉ (["script", "m", "turn", "asks", "told", "bad", "ask"] : List Str) := by decide
def lam_2 : VL.LamS := toLam (exAt (kids (valOf (stAt (bodyOf (stAt (defBody s_law) 2)) 0))) 2) "law.<locals>."
theorem lp_2 : LamP (defScope s_law) lam_2.scope := lamP_by (by decide +kernel)
theorem lb_2 : LBind lam_2.params lam_2.body lam_2.scope ["two"] := by exact lb1 (by decide +kernel) (by decide +kernel) (fun _ _ _ _ _ _ _ => ⟨_, rfl, fun _ => rfl⟩)
theorem lc_2 : ∀ y ∈ (["two"] : List Str), y ∉ (["script", "m", "turn", "asks", "told", "bad", "ask"] : List Str) := by decide
def lam_3 : VL.LamS := toLam (exAt (kids (exAt (kids (valOf (stAt (bodyOf (stAt (defBody s_law) 2)) 1))) 1)) 0) "law.<locals>."
theorem lp_3 : LamP (defScope s_law) lam_3.scope := lamP_by (by decide +kernel)
theorem lb_3 : LBind lam_3.params lam_3.body lam_3.scope [] := by exact lb0 (by decide +kernel)
theorem lc_3 : ∀ y ∈ ([] : List Str), y ∉ (["script", "m", "turn", "asks", "told", "bad", "ask"] : List Str) := by decide
def lam_4 : VL.LamS := toLam (exAt (kids (exAt (kids (valOf (stAt (bodyOf (stAt (defBody s_law) 2)) 1))) 1)) 1) "law.<locals>."
theorem lp_4 : LamP (defScope s_law) lam_4.scope := lamP_by (by decide +kernel)
theorem lb_4 : LBind lam_4.params lam_4.body lam_4.scope ["one"] := by exact lb1 (by decide +kernel) (by decide +kernel) (fun _ _ _ _ _ _ _ => ⟨_, rfl, fun _ => rfl⟩)
theorem lc_4 : ∀ y ∈ (["one"] : List Str), y ∉ (["script", "m", "turn", "asks", "told", "bad", "ask"] : List Str) := by decide
def lam_5 : VL.LamS := toLam (exAt (kids (exAt (kids (valOf (stAt (defBody s_law) 3))) 0)) 0) "law.<locals>."
theorem lp_5 : LamP (defScope s_law) lam_5.scope := lamP_by (by decide +kernel)
theorem lb_5 : LBind lam_5.params lam_5.body lam_5.scope [] := by exact lb0 (by decide +kernel)
theorem lc_5 : ∀ y ∈ ([] : List Str), y ∉ (["script", "m", "turn", "asks", "told", "bad", "ask"] : List Str) := by decide
def lam_6 : VL.LamS := toLam (exAt (kids (exAt (kids (valOf (stAt (defBody s_law) 3))) 1)) 0) "law.<locals>."
theorem lp_6 : LamP (defScope s_law) lam_6.scope := lamP_by (by decide +kernel)
theorem lb_6 : LBind lam_6.params lam_6.body lam_6.scope ["one"] := by exact lb1 (by decide +kernel) (by decide +kernel) (fun _ _ _ _ _ _ _ => ⟨_, rfl, fun _ => rfl⟩)
theorem lc_6 : ∀ y ∈ (["one"] : List Str), y ∉ (["script", "m", "turn", "asks", "told", "bad", "ask"] : List Str) := by decide
def lam_7 : VL.LamS := toLam (exAt (kids (exAt (kids (valOf (stAt (defBody s_law) 3))) 2)) 0) "law.<locals>."
theorem lp_7 : LamP (defScope s_law) lam_7.scope := lamP_by (by decide +kernel)
theorem lb_7 : LBind lam_7.params lam_7.body lam_7.scope ["two"] := by exact lb1 (by decide +kernel) (by decide +kernel) (fun _ _ _ _ _ _ _ => ⟨_, rfl, fun _ => rfl⟩)
theorem lc_7 : ∀ y ∈ (["two"] : List Str), y ∉ (["script", "m", "turn", "asks", "told", "bad", "ask"] : List Str) := by decide
def lam_8 : VL.LamS := toLam (exAt (kids (exAt (kids (exAt (kids (valOf (stAt (defBody s_law) 4))) 1)) 0)) 0) "law.<locals>."
theorem lp_8 : LamP (defScope s_law) lam_8.scope := lamP_by (by decide +kernel)
theorem lb_8 : LBind lam_8.params lam_8.body lam_8.scope [] := by exact lb0 (by decide +kernel)
theorem lc_8 : ∀ y ∈ ([] : List Str), y ∉ (["script", "m", "turn", "asks", "told", "bad", "ask"] : List Str) := by decide
def lam_9 : VL.LamS := toLam (exAt (kids (exAt (kids (exAt (kids (valOf (stAt (defBody s_law) 4))) 1)) 1)) 0) "law.<locals>."
theorem lp_9 : LamP (defScope s_law) lam_9.scope := lamP_by (by decide +kernel)
theorem lb_9 : LBind lam_9.params lam_9.body lam_9.scope ["one"] := by exact lb1 (by decide +kernel) (by decide +kernel) (fun _ _ _ _ _ _ _ => ⟨_, rfl, fun _ => rfl⟩)
theorem lc_9 : ∀ y ∈ (["one"] : List Str), y ∉ (["script", "m", "turn", "asks", "told", "bad", "ask"] : List Str) := by decide
theorem ok_law {f : Addr} {fd : FuncData} (F : Fun K "law" "law" s_law f fd) (nb : NB mg) (c__law_begun : FnF P w K mg base 1 "_law_begun" ["script"] none f__law_begun) (c__law_right : FnG P w K mg base 14 "_law_right" ["m", "points"] (some .m) f__law_right) (c__law_next : FnF P w K mg base 1 "_law_next" ["m", "many"] (some .m) f__law_next) (c__law_like : FnF P w K mg base 13 "_law_like" ["got", "due"] none (f__law_like 12)) (c_cycles_of : FnF P w K mg base 6 "cycles_of" ["points", "perm"] none f_cycles_of) (c_type_of_perm : FnF P w K mg base 6 "type_of_perm" ["points", "perm"] none f_type_of_perm) (c_perm_then : FnF P w K mg base 6 "perm_then" ["points", "one", "other"] none f_perm_then) (c_need_perm : FnF P w K mg base 5 "need_perm" ["points", "perm"] none f_need_perm) (c_perm_inverse : FnF P w K mg base 6 "perm_inverse" ["points", "perm"] none f_perm_inverse) (hl_0 : tt.lam 0 = lam_0) (hl_1 : tt.lam 1 = lam_1) (hl_2 : tt.lam 2 = lam_2) (hl_3 : tt.lam 3 = lam_3) (hl_4 : tt.lam 4 = lam_4) (hl_5 : tt.lam 5 = lam_5) (hl_6 : tt.lam 6 = lam_6) (hl_7 : tt.lam 7 = lam_7) (hl_8 : tt.lam 8 = lam_8) (hl_9 : tt.lam 9 = lam_9) (th__law_refusal : ThF K mg "_law_refusal" s__law_refusal "ask") (x_BadPerm : ExF P w K mg base "BadPerm") (mm__law_refusal_BadPerm : ∀ (X : Cx), X.K = K → X.mg = mg → MatchOk X (.ref x_BadPerm.C) (mf__law_refusal_BadPerm)) (x_BadNumber : ExF P w K mg base "BadNumber") (mm__law_refusal_BadNumber : ∀ (X : Cx), X.K = K → X.mg = mg → MatchOk X (.ref x_BadNumber.C) (mf__law_refusal_BadNumber)) (LT : LamTb mg base fd "law.<locals>.") : FnOkG P w K mg base (L2.CX P w) 15 f fd ["script"] (spF (mkB K mg) 1 none f_law) := by
  refine fn_mkGL F sc_law fun A outer s H E hgd hr => ?_
  have sc_nd := sc_law.nd
  exact (dss_cons (ds_set (i := 1) sc_nd (by exact rfl) (by first | exact .inl rfl | exact .inr rfl) (de_cf (κ := ()) c__law_begun (hr.mono (by decide)) (takes_of rfl rfl rfl rfl) (by exact rfl) (da_cons (de_var (pv 0)) da_nil (by exact rfl)) rfl (by decide) (by exact rfl) (by exact rfl)) (by exact rfl))
  (dss_cons (ds_for (nr := [(2, false)]) (passes_of rfl) rfl (di_range1 (by exact rfl) nb.range de_int (by exact rfl)) (dg_name (pg_name sc_nd (by exact rfl) (by first | exact .inl rfl | exact .inr rfl)))
  (dss_one (ds_if (dt_of (dw_or (dt_not (dt_val (de_cgio c__law_right (by exact hgd) (hr.mono (by decide)) (takes_of rfl rfl rfl rfl) (by exact rfl) (pv 1) (da_cons (de_bin op_addAll s_add de_int (de_cfio c__law_next (hr.mono (by decide)) (takes_of rfl rfl rfl rfl) (by exact rfl) (pv 1) (da_cons de_int da_nil (by exact rfl)) rfl (by decide) (by exact rfl) (by exact rfl))) da_nil (by exact rfl)) rfl (by decide) (by exact rfl) (by exact rfl)))) (dw_or1 (dt_not (dt_val (de_cgio c__law_right (by exact hgd) (hr.mono (by decide)) (takes_of rfl rfl rfl rfl) (by exact rfl) (pv 1) (da_cons (de_bin op_addAll s_add de_int (de_cfio c__law_next (hr.mono (by decide)) (takes_of rfl rfl rfl rfl) (by exact rfl) (pv 1) (da_cons de_int da_nil (by exact rfl)) rfl (by decide) (by exact rfl) (by exact rfl))) da_nil (by exact rfl)) rfl (by decide) (by exact rfl) (by exact rfl)))))))
  (dss_one (ds_ret de_bl))
  dss_nil)))
  (dss_cons (ds_for (nr := [(3, false), (5, false)]) (passes_of rfl) rfl (di_seq (de_tup (da_cons de_int (da_cons de_int (da_cons de_bl (da_cons de_non (da_cons de_str (da_cons (de_un un_neg s_neg de_int) da_nil (by exact rfl)) (by exact rfl)) (by exact rfl)) (by exact rfl)) (by exact rfl)) (by exact rfl)))) (dg_name (pg_name sc_nd (by exact rfl) (by first | exact .inl rfl | exact .inr rfl)))
  (dss_cons (ds_set (i := 3) sc_nd (by exact rfl) (by first | exact .inl rfl | exact .inr rfl) (de_lst (da_cons (de_lam LT.tb LT.code LT.mem LT.uni lp_0 ⟨rfl, .inl rfl⟩ (by rw [hl_0]; rfl)) (da_cons (de_lam LT.tb LT.code LT.mem LT.uni lp_1 ⟨rfl, .inr ⟨_, _, _, rfl⟩⟩ (by rw [hl_1]; rfl)) (da_cons (de_lam LT.tb LT.code LT.mem LT.uni lp_2 ⟨rfl, .inr ⟨_, _, _, rfl⟩⟩ (by rw [hl_2]; rfl)) da_nil (by exact rfl)) (by exact rfl)) (by exact rfl))) (by exact rfl))
  (dss_cons (ds_set (i := 3) sc_nd (by exact rfl) (by first | exact .inl rfl | exact .inr rfl) (de_bin op_addAll s_add (de_var (pv 3)) (de_lst (da_cons (de_lam LT.tb LT.code LT.mem LT.uni lp_3 ⟨rfl, .inl rfl⟩ (by rw [hl_3]; rfl)) (da_cons (de_lam LT.tb LT.code LT.mem LT.uni lp_4 ⟨rfl, .inr ⟨_, _, _, rfl⟩⟩ (by rw [hl_4]; rfl)) da_nil (by exact rfl)) (by exact rfl)))) (by exact rfl))
  (dss_one (ds_if (dt_cmp (op_neD (hr.lt)) s_ne (de_compL (own := [("ask", 6)]) rfl sc_nd (di_seq (de_var (pv 3))) (by exact blkOk_by (N := ["script", "m", "turn", "asks", "told", "bad", "ask"]) (sc := (defScope s_law)) (by decide +kernel)) (fun _ _ _ _ _ => (dg_name (pg_name sc_nd (by exact rfl) (by first | exact .inl rfl | exact .inr rfl)))) (fun _ _ _ _ _ => (pts_if (dt_cmp (op_neD (hr.lt)) s_ne (de_callB (c_repr (by exact hgd) hr.u) s_repr (by exact rfl) nb.repr (by exact rfl) (da_cons (de_thunk (k := 6) (N := ["ask", "e"]) th__law_refusal.F sc__law_refusal th__law_refusal.hb (by exact rfl) th__law_refusal.hm (by exact rfl) (fun A outer s H E => (.cons ⟨(by exact rfl), (by decide), .inl x_BadPerm.hm⟩ (by exact rfl) (by exact rfl) x_BadPerm.xf x_BadPerm.hno x_BadPerm.hm (by exact rfl) me__law_refusal_BadPerm (mm__law_refusal_BadPerm _ rfl rfl) (fun _ _ _ => pv 1) (by intro _; rfl) (by intro _; rfl) (by intro _; rfl) (.cons ⟨(by exact rfl), (by decide), .inl x_BadNumber.hm⟩ (by exact rfl) (by exact rfl) x_BadNumber.xf x_BadNumber.hno x_BadNumber.hm (by exact rfl) me__law_refusal_BadNumber (mm__law_refusal_BadNumber _ rfl rfl) (fun _ _ _ => pv 1) (by intro _; rfl) (by intro _; rfl) (by intro _; rfl) .nil))) (.inl (by exact rfl)) (by exact rfl) (la_cons (LamOk.of hl_0 rfl rfl (lamP_by rfl) ⟨_, lb_0, lc_0⟩ (fun A outer s H E f0 c0 hr => (de_cf (κ := ()) c_need_perm (hr.mono (by decide)) (takes_of rfl rfl rfl rfl) (by exact rfl) (da_cons (de_var (pv 5)) (da_cons de_non da_nil (by exact rfl)) (by exact rfl)) rfl (by decide) (by exact rfl) (by exact rfl)))) (la_cons (LamOk.of hl_1 rfl rfl (lamP_by rfl) ⟨_, lb_1, lc_1⟩ (fun A outer s H E f0 c0 hr => (de_cf (κ := ()) c_perm_then (hr.mono (by decide)) (takes_of rfl rfl rfl rfl) (by exact rfl) (da_cons (de_var (pv 5)) (da_cons de_non (da_cons de_non da_nil (by exact rfl)) (by exact rfl)) (by exact rfl)) rfl (by decide) (by exact rfl) (by exact rfl)))) (la_cons (LamOk.of hl_2 rfl rfl (lamP_by rfl) ⟨_, lb_2, lc_2⟩ (fun A outer s H E f0 c0 hr => (de_cf (κ := ()) c_perm_inverse (hr.mono (by decide)) (takes_of rfl rfl rfl rfl) (by exact rfl) (da_cons (de_var (pv 5)) (da_cons de_non da_nil (by exact rfl)) (by exact rfl)) rfl (by decide) (by exact rfl) (by exact rfl)))) (la_cons (LamOk.of hl_3 rfl rfl (lamP_by rfl) ⟨_, lb_3, lc_3⟩ (fun A outer s H E f0 c0 hr => (de_cf (κ := ()) c_cycles_of (hr.mono (by decide)) (takes_of rfl rfl rfl rfl) (by exact rfl) (da_cons (de_var (pv 5)) (da_cons de_non da_nil (by exact rfl)) (by exact rfl)) rfl (by decide) (by exact rfl) (by exact rfl)))) (la_cons (LamOk.of hl_4 rfl rfl (lamP_by rfl) ⟨_, lb_4, lc_4⟩ (fun A outer s H E f0 c0 hr => (de_cf (κ := ()) c_type_of_perm (hr.mono (by decide)) (takes_of rfl rfl rfl rfl) (by exact rfl) (da_cons (de_var (pv 5)) (da_cons de_non da_nil (by exact rfl)) (by exact rfl)) rfl (by decide) (by exact rfl) (by exact rfl)))) la_nil))))) (hr.mono (by decide)) (de_var (pv 6))) da_nil (by exact rfl))) (de_callB (c_repr (by exact hgd) hr.u) s_repr (by exact rfl) nb.repr (by exact rfl) (da_cons (de_tup (da_cons de_str (da_cons (de_frz (pv 5)) da_nil (by exact rfl)) (by exact rfl))) da_nil (by exact rfl))) (by exact rfl)))) (fun _ _ _ _ _ => de_int) (by decide)) (de_lst da_nil) (by exact rfl))
  (dss_one (ds_ret de_bl))
  dss_nil)))))
  (dss_cons (ds_set (i := 4) sc_nd (by exact rfl) (by first | exact .inl rfl | exact .inr rfl) (de_lst (da_cons (de_thunk (k := 6) (N := ["ask", "e"]) th__law_refusal.F sc__law_refusal th__law_refusal.hb (by exact rfl) th__law_refusal.hm (by exact rfl) (fun A outer s H E => (.cons ⟨(by exact rfl), (by decide), .inl x_BadPerm.hm⟩ (by exact rfl) (by exact rfl) x_BadPerm.xf x_BadPerm.hno x_BadPerm.hm (by exact rfl) me__law_refusal_BadPerm (mm__law_refusal_BadPerm _ rfl rfl) (fun _ _ _ => pv 1) (by intro _; rfl) (by intro _; rfl) (by intro _; rfl) (.cons ⟨(by exact rfl), (by decide), .inl x_BadNumber.hm⟩ (by exact rfl) (by exact rfl) x_BadNumber.xf x_BadNumber.hno x_BadNumber.hm (by exact rfl) me__law_refusal_BadNumber (mm__law_refusal_BadNumber _ rfl rfl) (fun _ _ _ => pv 1) (by intro _; rfl) (by intro _; rfl) (by intro _; rfl) .nil))) (.inl (by exact rfl)) (by exact rfl) (la_cons (LamOk.of hl_5 rfl rfl lp_5 ⟨_, lb_5, lc_5⟩ (fun A outer s H E f0 c0 hr => (de_cf (κ := ()) c_perm_then (hr.mono (by decide)) (takes_of rfl rfl rfl rfl) (by exact rfl) (da_cons de_int (da_cons (de_tup (da_cons de_int (da_cons de_int da_nil (by exact rfl)) (by exact rfl))) (da_cons de_non da_nil (by exact rfl)) (by exact rfl)) (by exact rfl)) rfl (by decide) (by exact rfl) (by exact rfl)))) la_nil) (hr.mono (by decide)) (de_lam LT.tb LT.code LT.mem LT.uni lp_5 ⟨rfl, .inl rfl⟩ (by rw [hl_5]; rfl))) (da_cons (de_thunk (k := 6) (N := ["ask", "e"]) th__law_refusal.F sc__law_refusal th__law_refusal.hb (by exact rfl) th__law_refusal.hm (by exact rfl) (fun A outer s H E => (.cons ⟨(by exact rfl), (by decide), .inl x_BadPerm.hm⟩ (by exact rfl) (by exact rfl) x_BadPerm.xf x_BadPerm.hno x_BadPerm.hm (by exact rfl) me__law_refusal_BadPerm (mm__law_refusal_BadPerm _ rfl rfl) (fun _ _ _ => pv 1) (by intro _; rfl) (by intro _; rfl) (by intro _; rfl) (.cons ⟨(by exact rfl), (by decide), .inl x_BadNumber.hm⟩ (by exact rfl) (by exact rfl) x_BadNumber.xf x_BadNumber.hno x_BadNumber.hm (by exact rfl) me__law_refusal_BadNumber (mm__law_refusal_BadNumber _ rfl rfl) (fun _ _ _ => pv 1) (by intro _; rfl) (by intro _; rfl) (by intro _; rfl) .nil))) (.inl (by exact rfl)) (by exact rfl) (la_cons (LamOk.of hl_6 rfl rfl lp_6 ⟨_, lb_6, lc_6⟩ (fun A outer s H E f0 c0 hr => (de_cf (κ := ()) c_perm_then (hr.mono (by decide)) (takes_of rfl rfl rfl rfl) (by exact rfl) (da_cons de_int (da_cons (de_tup (da_cons de_int (da_cons de_int (da_cons de_int da_nil (by exact rfl)) (by exact rfl)) (by exact rfl))) (da_cons (de_tup (da_cons de_int (da_cons de_int (da_cons de_int da_nil (by exact rfl)) (by exact rfl)) (by exact rfl))) da_nil (by exact rfl)) (by exact rfl)) (by exact rfl)) rfl (by decide) (by exact rfl) (by exact rfl)))) la_nil) (hr.mono (by decide)) (de_lam LT.tb LT.code LT.mem LT.uni lp_6 ⟨rfl, .inr ⟨_, _, _, rfl⟩⟩ (by rw [hl_6]; rfl))) (da_cons (de_thunk (k := 6) (N := ["ask", "e"]) th__law_refusal.F sc__law_refusal th__law_refusal.hb (by exact rfl) th__law_refusal.hm (by exact rfl) (fun A outer s H E => (.cons ⟨(by exact rfl), (by decide), .inl x_BadPerm.hm⟩ (by exact rfl) (by exact rfl) x_BadPerm.xf x_BadPerm.hno x_BadPerm.hm (by exact rfl) me__law_refusal_BadPerm (mm__law_refusal_BadPerm _ rfl rfl) (fun _ _ _ => pv 1) (by intro _; rfl) (by intro _; rfl) (by intro _; rfl) (.cons ⟨(by exact rfl), (by decide), .inl x_BadNumber.hm⟩ (by exact rfl) (by exact rfl) x_BadNumber.xf x_BadNumber.hno x_BadNumber.hm (by exact rfl) me__law_refusal_BadNumber (mm__law_refusal_BadNumber _ rfl rfl) (fun _ _ _ => pv 1) (by intro _; rfl) (by intro _; rfl) (by intro _; rfl) .nil))) (.inl (by exact rfl)) (by exact rfl) (la_cons (LamOk.of hl_7 rfl rfl lp_7 ⟨_, lb_7, lc_7⟩ (fun A outer s H E f0 c0 hr => (de_cf (κ := ()) c_perm_inverse (hr.mono (by decide)) (takes_of rfl rfl rfl rfl) (by exact rfl) (da_cons de_int (da_cons (de_tup (da_cons de_int (da_cons de_int (da_cons de_int da_nil (by exact rfl)) (by exact rfl)) (by exact rfl))) da_nil (by exact rfl)) (by exact rfl)) rfl (by decide) (by exact rfl) (by exact rfl)))) la_nil) (hr.mono (by decide)) (de_lam LT.tb LT.code LT.mem LT.uni lp_7 ⟨rfl, .inr ⟨_, _, _, rfl⟩⟩ (by rw [hl_7]; rfl))) da_nil (by exact rfl)) (by exact rfl)) (by exact rfl))) (by exact rfl))
  (dss_cons (ds_set (i := 4) sc_nd (by exact rfl) (by first | exact .inl rfl | exact .inr rfl) (de_bin op_addAll s_add (de_var (pv 4)) (de_lst (da_cons (de_thunk (k := 6) (N := ["ask", "e"]) th__law_refusal.F sc__law_refusal th__law_refusal.hb (by exact rfl) th__law_refusal.hm (by exact rfl) (fun A outer s H E => (.cons ⟨(by exact rfl), (by decide), .inl x_BadPerm.hm⟩ (by exact rfl) (by exact rfl) x_BadPerm.xf x_BadPerm.hno x_BadPerm.hm (by exact rfl) me__law_refusal_BadPerm (mm__law_refusal_BadPerm _ rfl rfl) (fun _ _ _ => pv 1) (by intro _; rfl) (by intro _; rfl) (by intro _; rfl) (.cons ⟨(by exact rfl), (by decide), .inl x_BadNumber.hm⟩ (by exact rfl) (by exact rfl) x_BadNumber.xf x_BadNumber.hno x_BadNumber.hm (by exact rfl) me__law_refusal_BadNumber (mm__law_refusal_BadNumber _ rfl rfl) (fun _ _ _ => pv 1) (by intro _; rfl) (by intro _; rfl) (by intro _; rfl) .nil))) (.inl (by exact rfl)) (by exact rfl) (la_cons (LamOk.of hl_8 rfl rfl lp_8 ⟨_, lb_8, lc_8⟩ (fun A outer s H E f0 c0 hr => (de_cf (κ := ()) c_cycles_of (hr.mono (by decide)) (takes_of rfl rfl rfl rfl) (by exact rfl) (da_cons de_int (da_cons (de_tup (da_cons de_bl (da_cons de_int da_nil (by exact rfl)) (by exact rfl))) da_nil (by exact rfl)) (by exact rfl)) rfl (by decide) (by exact rfl) (by exact rfl)))) la_nil) (hr.mono (by decide)) (de_lam LT.tb LT.code LT.mem LT.uni lp_8 ⟨rfl, .inl rfl⟩ (by rw [hl_8]; rfl))) (da_cons (de_thunk (k := 6) (N := ["ask", "e"]) th__law_refusal.F sc__law_refusal th__law_refusal.hb (by exact rfl) th__law_refusal.hm (by exact rfl) (fun A outer s H E => (.cons ⟨(by exact rfl), (by decide), .inl x_BadPerm.hm⟩ (by exact rfl) (by exact rfl) x_BadPerm.xf x_BadPerm.hno x_BadPerm.hm (by exact rfl) me__law_refusal_BadPerm (mm__law_refusal_BadPerm _ rfl rfl) (fun _ _ _ => pv 1) (by intro _; rfl) (by intro _; rfl) (by intro _; rfl) (.cons ⟨(by exact rfl), (by decide), .inl x_BadNumber.hm⟩ (by exact rfl) (by exact rfl) x_BadNumber.xf x_BadNumber.hno x_BadNumber.hm (by exact rfl) me__law_refusal_BadNumber (mm__law_refusal_BadNumber _ rfl rfl) (fun _ _ _ => pv 1) (by intro _; rfl) (by intro _; rfl) (by intro _; rfl) .nil))) (.inl (by exact rfl)) (by exact rfl) (la_cons (LamOk.of hl_9 rfl rfl lp_9 ⟨_, lb_9, lc_9⟩ (fun A outer s H E f0 c0 hr => (de_cf (κ := ()) c_type_of_perm (hr.mono (by decide)) (takes_of rfl rfl rfl rfl) (by exact rfl) (da_cons de_int (da_cons (de_lst (da_cons de_int (da_cons de_int da_nil (by exact rfl)) (by exact rfl))) da_nil (by exact rfl)) (by exact rfl)) rfl (by decide) (by exact rfl) (by exact rfl)))) la_nil) (hr.mono (by decide)) (de_lam LT.tb LT.code LT.mem LT.uni lp_9 ⟨rfl, .inr ⟨_, _, _, rfl⟩⟩ (by rw [hl_9]; rfl))) da_nil (by exact rfl)) (by exact rfl)))) (by exact rfl))
  (dss_cons (ds_if (dt_cmp (op_neD (hr.lt)) s_ne (de_var (pv 4)) (de_lst (da_cons (de_tup (da_cons de_str (da_cons de_non da_nil (by exact rfl)) (by exact rfl))) (da_cons (de_tup (da_cons de_str (da_cons de_int da_nil (by exact rfl)) (by exact rfl))) (da_cons (de_tup (da_cons de_str (da_cons de_int da_nil (by exact rfl)) (by exact rfl))) (da_cons (de_tup (da_cons de_str (da_cons de_int da_nil (by exact rfl)) (by exact rfl))) (da_cons (de_tup (da_cons de_str (da_cons de_non da_nil (by exact rfl)) (by exact rfl))) da_nil (by exact rfl)) (by exact rfl)) (by exact rfl)) (by exact rfl)) (by exact rfl))) (by exact rfl))
  (dss_one (ds_ret de_bl))
  dss_nil)
  (dss_one (ds_ret (de_cf (κ := ()) c__law_like (hr.mono (by decide)) (takes_of rfl rfl rfl rfl) (by exact rfl) (da_cons (de_tup (da_cons (de_cf (κ := ()) c_cycles_of (hr.mono (by decide)) (takes_of rfl rfl rfl rfl) (by exact rfl) (da_cons de_int (da_cons (de_tup (da_cons de_int (da_cons de_int (da_cons de_int (da_cons de_int (da_cons de_int da_nil (by exact rfl)) (by exact rfl)) (by exact rfl)) (by exact rfl)) (by exact rfl))) da_nil (by exact rfl)) (by exact rfl)) rfl (by decide) (by exact rfl) (by exact rfl)) (da_cons (de_cf (κ := ()) c_type_of_perm (hr.mono (by decide)) (takes_of rfl rfl rfl rfl) (by exact rfl) (da_cons de_int (da_cons (de_tup (da_cons de_int (da_cons de_int (da_cons de_int (da_cons de_int (da_cons de_int da_nil (by exact rfl)) (by exact rfl)) (by exact rfl)) (by exact rfl)) (by exact rfl))) da_nil (by exact rfl)) (by exact rfl)) rfl (by decide) (by exact rfl) (by exact rfl)) (da_cons (de_cf (κ := ()) c_perm_then (hr.mono (by decide)) (takes_of rfl rfl rfl rfl) (by exact rfl) (da_cons de_int (da_cons (de_tup (da_cons de_int (da_cons de_int (da_cons de_int da_nil (by exact rfl)) (by exact rfl)) (by exact rfl))) (da_cons (de_tup (da_cons de_int (da_cons de_int (da_cons de_int da_nil (by exact rfl)) (by exact rfl)) (by exact rfl))) da_nil (by exact rfl)) (by exact rfl)) (by exact rfl)) rfl (by decide) (by exact rfl) (by exact rfl)) da_nil (by exact rfl)) (by exact rfl)) (by exact rfl))) (da_cons (de_tup (da_cons (de_tup (da_cons (de_tup (da_cons de_int (da_cons de_int (da_cons de_int da_nil (by exact rfl)) (by exact rfl)) (by exact rfl))) (da_cons (de_tup (da_cons de_int da_nil (by exact rfl))) (da_cons (de_tup (da_cons de_int da_nil (by exact rfl))) da_nil (by exact rfl)) (by exact rfl)) (by exact rfl))) (da_cons (de_tup (da_cons de_int (da_cons de_int (da_cons de_int da_nil (by exact rfl)) (by exact rfl)) (by exact rfl))) (da_cons (de_tup (da_cons de_int (da_cons de_int (da_cons de_int da_nil (by exact rfl)) (by exact rfl)) (by exact rfl))) da_nil (by exact rfl)) (by exact rfl)) (by exact rfl))) da_nil (by exact rfl)) (by exact rfl)) rfl (by decide) (by exact rfl) (by exact rfl))))))))))
end
end K04
open PySem PySem.Spec PyProof.Rows L2 VL
local macro_rules
  | `(tactic| simp_arith [$xs,*]) => `(tactic| simp only [wr_ok, wr_bind, wr_bindN, wf_ok, wf_ex, gv_fz, gv_ow, gv_sl, gs_fz, gs_ow, gs_lk, gvs_nil, gvs_cons, gb1_fz, gb1_ow, gb1_sl, gbs_fz, gbs_ow, gbs_lk, gb_nil, gb_cons, gf1_fz, gf1_ow, gf_nil, gf_cons, go_some, cv_fz, cv_ow, cv_lk, cfz_fz, cfz_ow, cm_fz, cm_ow, gw_ow, kv_f, kv_o, kv_tf, kv_to, sv1_fz, sv1_ow, bl_, int_, w_C, w_V, w_F, w_M, wr_fin_val, wr_fin_new, wr_fin_stuck, wr_fin_if, w_bin, w_un, ifb_t, ifb_f, w_if, w_andV, w_orV, w_tst, w_tAnd, w_tOr, w_tNot, w_tt, orb_, w_chain, w_args0, w_args1, w_tup, w_lst, w_call, w_opt0, w_opt1, w_sl, w_mut, w_fn, w_fnio, itm_l, itm_t, itq_fz, itq_ow, itq_sl, itq1_ow, itq1_lk, w_seq, w_enum, w_rng1, w_rng2, w_comp, ws_seq, ws_nx, ws_if, ws_drop, rtv_fz, rtv_ow, ws_ret, ws_retN, ws_set, ws_asg, svs_nil, svs_cons, ws_par, ws_raise, ws_try1, ws_tryAs, ws_pair, ws_for, ws_while, lke_none, lke_some, lke_lk, lke_ow, lke_fz, lke_no, wipe_nil, wipe_cons, rest_nil, rest_cons, own_nil, own_cons, ok1_no, ok1_fz, nrm_nil, nrm_cons, nrm_no, nrm_lk, nrm_owt, nrm_owf, nrm_fzt, nrm_fzf, inite_io, inite_no, ioof_none, ioof_m, ioq_fz, ioq_ow, go_bind, gt_tup, gt_cons, gt_nil, gt_name, gt_ix, rows_, gl_lk, gt_ix2, w_ix2, o_add, o_sub, o_mul, o_fdiv, o_mod, o_neg, o_not, o_lt, o_le, o_gt, o_ge, o_eq, o_ne, o_isN, o_notN, nond_n, nond_i, nond_t, nond_l, nond_b, mso_, md_, ms_ow, ms_lk, deq_nil, deq_int, pls_ints, deq_nD, deq_row, deq_lnL, pls_nL, pl_row, pls_tab, cut_lo, cut_hi, cut_lo1, cut_lo_1, cut_hi_1, cut_hi1, nc_eq, Int.ofNat_le, Int.ofNat_lt, Int.natCast_eq_zero, kOf_int, o_sortt, o_sortd, inD_nL, Bool.true_bne, Bool.false_bne, w_begun, o_1018, pl_str, deq_str, atI_0, atI_1, atI_2, atI_3, atI_4, go_app, w_lrg, w_olrg_t, w_olrg_f, go_set0, go_set1, w_meth, tyd_l, fz_, w_dnil, w_done, w_dc, owl_, w_comp2, iox_f, sub0_toNat, Int.toNat_natCast, rangeD_nL, o_lenl, o_lent, o_lend, o_addl, o_addt, o_inti, o_listl, o_listt, o_tupl, o_tupt, o_sll, o_slt, o_revl, o_revt, w_ixt, w_ixl, pl_int, pl_non, pl_bl, pl_tup, pl_lst, pls_nil, pls_cons, ko_l, ko_dk, ko_dt, ko_l2, ko_m, nond_s, nond_d, Bool.or_false, Bool.false_or, Bool.and_true, Bool.true_and, Bool.or_self, Bool.and_self, Bool.not_true, Bool.not_false, List.getElem?_cons_zero, List.getElem?_cons_succ, List.set_cons_zero, List.set_cons_succ, List.length_cons, List.length_nil, List.length_set, List.map_cons, List.map_nil, List.cons_append, List.nil_append, List.append_nil, List.replicate_succ, List.replicate_zero, List.getD_cons_zero, List.getD_cons_succ, Nat.reduceAdd, Nat.reduceSub, Nat.reduceLT, Nat.reduceEqDiff, Nat.reduceLeDiff, Nat.reduceMul, Nat.reduceBNe, Nat.reduceBEq, Nat.zero_add, Nat.add_zero, ne_eq, List.mem_cons, List.not_mem_nil, or_self, Nat.succ_ne_zero, not_false_eq_true, not_true_eq_false, true_or, or_true, false_or, or_false, true_and, and_true, and_self, false_and, and_false, Bool.false_eq_true, if_true, if_false, reduceIte, Option.bind_some, reduceCtorEq, Nat.one_ne_zero, Int.reduceLT, Int.reduceLE, Int.reduceToNat, Bool.true_eq_false, w_clo, w_ask, w_thunk, lk_cons, clo_, wr_ex, ws_trys, ws_go0, ws_go1, ws_go2, $xs,*])
local macro_rules
  | `(tactic| simp_arith) => `(tactic| simp only [wr_ok, wr_bind, wr_bindN, wf_ok, wf_ex, gv_fz, gv_ow, gv_sl, gs_fz, gs_ow, gs_lk, gvs_nil, gvs_cons, gb1_fz, gb1_ow, gb1_sl, gbs_fz, gbs_ow, gbs_lk, gb_nil, gb_cons, gf1_fz, gf1_ow, gf_nil, gf_cons, go_some, cv_fz, cv_ow, cv_lk, cfz_fz, cfz_ow, cm_fz, cm_ow, gw_ow, kv_f, kv_o, kv_tf, kv_to, sv1_fz, sv1_ow, bl_, int_, w_C, w_V, w_F, w_M, wr_fin_val, wr_fin_new, wr_fin_stuck, wr_fin_if, w_bin, w_un, ifb_t, ifb_f, w_if, w_andV, w_orV, w_tst, w_tAnd, w_tOr, w_tNot, w_tt, orb_, w_chain, w_args0, w_args1, w_tup, w_lst, w_call, w_opt0, w_opt1, w_sl, w_mut, w_fn, w_fnio, itm_l, itm_t, itq_fz, itq_ow, itq_sl, itq1_ow, itq1_lk, w_seq, w_enum, w_rng1, w_rng2, w_comp, ws_seq, ws_nx, ws_if, ws_drop, rtv_fz, rtv_ow, ws_ret, ws_retN, ws_set, ws_asg, svs_nil, svs_cons, ws_par, ws_raise, ws_try1, ws_tryAs, ws_pair, ws_for, ws_while, lke_none, lke_some, lke_lk, lke_ow, lke_fz, lke_no, wipe_nil, wipe_cons, rest_nil, rest_cons, own_nil, own_cons, ok1_no, ok1_fz, nrm_nil, nrm_cons, nrm_no, nrm_lk, nrm_owt, nrm_owf, nrm_fzt, nrm_fzf, inite_io, inite_no, ioof_none, ioof_m, ioq_fz, ioq_ow, go_bind, gt_tup, gt_cons, gt_nil, gt_name, gt_ix, rows_, gl_lk, gt_ix2, w_ix2, o_add, o_sub, o_mul, o_fdiv, o_mod, o_neg, o_not, o_lt, o_le, o_gt, o_ge, o_eq, o_ne, o_isN, o_notN, nond_n, nond_i, nond_t, nond_l, nond_b, mso_, md_, ms_ow, ms_lk, deq_nil, deq_int, pls_ints, deq_nD, deq_row, deq_lnL, pls_nL, pl_row, pls_tab, cut_lo, cut_hi, cut_lo1, cut_lo_1, cut_hi_1, cut_hi1, nc_eq, Int.ofNat_le, Int.ofNat_lt, Int.natCast_eq_zero, kOf_int, o_sortt, o_sortd, inD_nL, Bool.true_bne, Bool.false_bne, w_begun, o_1018, pl_str, deq_str, atI_0, atI_1, atI_2, atI_3, atI_4, go_app, w_lrg, w_olrg_t, w_olrg_f, go_set0, go_set1, w_meth, tyd_l, fz_, w_dnil, w_done, w_dc, owl_, w_comp2, iox_f, sub0_toNat, Int.toNat_natCast, rangeD_nL, o_lenl, o_lent, o_lend, o_addl, o_addt, o_inti, o_listl, o_listt, o_tupl, o_tupt, o_sll, o_slt, o_revl, o_revt, w_ixt, w_ixl, pl_int, pl_non, pl_bl, pl_tup, pl_lst, pls_nil, pls_cons, ko_l, ko_dk, ko_dt, ko_l2, ko_m, nond_s, nond_d, Bool.or_false, Bool.false_or, Bool.and_true, Bool.true_and, Bool.or_self, Bool.and_self, Bool.not_true, Bool.not_false, List.getElem?_cons_zero, List.getElem?_cons_succ, List.set_cons_zero, List.set_cons_succ, List.length_cons, List.length_nil, List.length_set, List.map_cons, List.map_nil, List.cons_append, List.nil_append, List.append_nil, List.replicate_succ, List.replicate_zero, List.getD_cons_zero, List.getD_cons_succ, Nat.reduceAdd, Nat.reduceSub, Nat.reduceLT, Nat.reduceEqDiff, Nat.reduceLeDiff, Nat.reduceMul, Nat.reduceBNe, Nat.reduceBEq, Nat.zero_add, Nat.add_zero, ne_eq, List.mem_cons, List.not_mem_nil, or_self, Nat.succ_ne_zero, not_false_eq_true, not_true_eq_false, true_or, or_true, false_or, or_false, true_and, and_true, and_self, false_and, and_false, Bool.false_eq_true, if_true, if_false, reduceIte, Option.bind_some, reduceCtorEq, Nat.one_ne_zero, Int.reduceLT, Int.reduceLE, Int.reduceToNat, Bool.true_eq_false, w_clo, w_ask, w_thunk, lk_cons, clo_, wr_ex, ws_trys, ws_go0, ws_go1, ws_go2])
namespace K04
theorem lg2 {x y : Int} (hx : -1267650600228229401496703205376 < x ∧ x < 1267650600228229401496703205376) (hy : -1267650600228229401496703205376 < y ∧ y < 1267650600228229401496703205376) : x.natAbs.log2 + y.natAbs.log2 < 1000000 := by
  have h1 := log_le (x := x) (k := 100) (by omega) (by decide)
  have h2 := log_le (x := y) (k := 100) (by omega) (by decide)
  omega
theorem lg1 {x : Int} (hx : -1267650600228229401496703205376 < x ∧ x < 1267650600228229401496703205376) : x.natAbs.log2 < 9000 := by
  have h1 := log_le (x := x) (k := 100) (by omega) (by decide)
  omega
theorem next_fin {n i : Nat} {c a b : Int} {m : D} (h0 : 0 < b) (hm : MW n m) : ∃ (r : Int) (m' : D), TV.fz (.int (a % b)) = TV.fz (.int r) ∧ some m = some m' ∧ 0 ≤ r ∧ r < b ∧ MW n m' :=
  ⟨_, _, rfl, rfl, Int.emod_nonneg _ (by omega), Int.emod_lt_of_pos _ h0, hm⟩
theorem next_w {n : Nat} {m : D} {many : Int} (hm : MW n m) (hn : n ≤ 1000000000) (h0 : 0 < many) (h1 : many ≤ 1000000000) : WF (f__law_next [m, .int many]) (fun tv io => ∃ r m', tv = .fz (.int r) ∧ io = some m' ∧ 0 ≤ r ∧ r < many ∧ MW (n + 1) m') (fun _ _ => False) := by
  obtain ⟨cs, i, ls, rfl, hi⟩ := hm
  unfold f__law_next
  rw [wf_run]
  simp_arith
  apply m_tmne
  simp_arith
  cases ls with
  | nil =>
    simp_arith [decide_true]
    apply m_mat
    simp_arith
    apply m_gmat
    simp_arith
    apply m_tmne
    simp_arith
    cases cs with
    | nil =>
      simp_arith [decide_true]
      rw [o_mod h0]
      simp_arith
      refine ⟨lg2 (by omega) (by omega), lg2 (by omega) (by omega), lg2 (by omega) (by omega), lg2 (by omega) (by omega), lg2 (by omega) (by omega), lg2 (by omega) (by omega), lg2 (by omega) (by omega), lg1 (by omega), ?_⟩
      exact next_fin (i := i) (c := 0) h0 ⟨[], i + 1, [], rfl, by omega⟩
    | cons c cs => 
      simp_arith [decide_false]
      apply m_mix
      simp_arith
      apply m_mlen
      simp_arith
      rw [o_mod (by omega)]
      simp_arith
      rw [atI_of (Int.emod_nonneg _ (by omega))]
      have hk : ((i : Int) % ((List.map D.int cs).length + 1 : Nat)).toNat < (c :: cs).length := by
        have := Int.emod_lt_of_pos (i : Int) (b := ((List.map D.int cs).length + 1 : Nat)) (by omega)
        have := Int.emod_nonneg (i : Int) (b := ((List.map D.int cs).length + 1 : Nat)) (by omega)
        simp only [List.length_map, List.length_cons] at *
        omega
      rw [show D.int c :: List.map D.int cs = (c :: cs).map D.int from rfl, List.getElem?_map, List.getElem?_eq_getElem hk, Option.map_some]
      generalize (c :: cs)[((i : Int) % ((List.map D.int cs).length + 1 : Nat)).toNat] = z
      rw [go_some]
      simp_arith
      rw [o_mod h0]
      simp_arith
      refine ⟨lg2 (by omega) (by omega), lg2 (by omega) (by omega), lg2 (by omega) (by omega), lg2 (by omega) (by omega), lg2 (by omega) (by omega), lg2 (by omega) (by omega), lg2 (by omega) (by omega), lg1 (by omega), ?_⟩
      exact next_fin (i := i) (c := 0) h0 ⟨c :: cs, i + 1, [], rfl, by omega⟩
  | cons l ls =>
    simp_arith [decide_false]
    apply m_mix
    simp_arith
    refine ⟨⟨h0, lg1 (by omega)⟩, ?_⟩
    apply m_gmleft
    simp_arith
    rw [show ixN ((List.map D.int ls).length + 1) 0 = some 0 from ixN_nat (k := 0) (by omega)]
    simp_arith
    apply m_mix
    simp_arith
    refine ifb_of ?_
    split
    · apply m_sleft
      apply m_msl
      simp_arith
      rw [o_mod h0]
      simp_arith
      exact next_fin (i := i) (c := 0) h0 ⟨cs, i, ls, rfl, by omega⟩
    · rw [o_mod h0]
      simp_arith
      exact next_fin (i := i) (c := 0) h0 ⟨cs, i, l / many :: ls, rfl, by omega⟩
end K04
namespace K04
theorem perm_w {n k : Nat} {m : D} (hm : MW n m) (hn : n + k ≤ 1000000000) (hk : k ≤ 1000) : WF (f__law_perm [m, nD k]) (fun tv io => ∃ ps m', tv = .fz (rowD ps) ∧ ps.Perm (List.range k) ∧ io = some m' ∧ MW (n + k) m') (fun _ _ => False) := by
  unfold f__law_perm
  rw [wf_run]
  simp_arith
  refine ⟨rgOk2_nat (by omega), rgOk_nat (by omega), ?_⟩
  refine forL_inv (fun items env => ∃ rest found m', env = [.ow .m m', .fz (nD k), .ow .l (.lst (nL rest)), .ow .l (.lst (nL found)), .no] ∧ (found ++ rest).Perm (List.range k) ∧ items.length = rest.length ∧ MW (n + found.length) m') ?_ ?_ _ _ ?_
  · rintro d ds _ ⟨rest, found, m', rfl, hp, hl, hm'⟩
    simp_arith
    have hl1 : rest.length = ds.length + 1 := by simpa using hl.symm
    have hlk : found.length + rest.length = k := by have := hp.length_eq; rw [List.length_append, List.length_range] at this; exact this
    have hll : (nL rest).length = rest.length := by simp
    rw [hll]
    refine (next_w hm' (by omega) (by omega) (by omega)).mono ?_ fun _ _ z => z.elim
    rintro _ _ ⟨r, m1, rfl, rfl, h2, h3, hm1⟩
    obtain ⟨j, rfl⟩ := Int.eq_ofNat_of_zero_le h2
    have hj : j < rest.length := by omega
    simp_arith
    rw [pop_i (by omega) (by omega)]
    simp_arith
    refine ⟨sizeLine_lt (by simp; omega), rest.eraseIdx j, found ++ [rest[j]], m1, ?_, ?_, ?_, ?_⟩
    · simp [nL, M0.map_erase]
    · refine List.Perm.trans ?_ hp
      rw [List.append_assoc, List.singleton_append]
      exact (M0.perm_erase rest j hj).append_left found
    · rw [List.length_eraseIdx, if_pos hj]; omega
    · rw [List.length_append, List.length_singleton]; exact hm1
  · rintro _ ⟨rest, found, m', rfl, hp, hl, hm'⟩
    simp_arith
    have hr : rest = [] := List.length_eq_zero_iff.1 hl.symm
    subst hr
    rw [List.append_nil] at hp
    have : found.length = k := by have := hp.length_eq; rwa [List.length_range] at this
    exact ⟨_, _, rfl, hp, rfl, this ▸ hm'⟩
  · exact ⟨_, [], m, rfl, .refl _, by simp, hm⟩
end K04
namespace K04
theorem number_eq {d : D} (h : tyN d ≠ none) : f_is_number [d] = .ok (.fz (.bl (dInt d))) none := by
  rw [wf_eq]
  unfold f_is_number
  rw [wf_run]
  simp_arith [isi_int h, isi_bl h]
  cases d <;> first | exact absurd rfl h | simp_arith [dInt, dBl]
theorem among_eq {d : D} {lo hi : Int} (h : tyN d ≠ none) : f_is_among [d, .int lo, .int hi] = .ok (.fz (.bl (inB lo hi d))) none := by
  rw [wf_eq]
  unfold f_is_among
  rw [wf_run]
  simp_arith [number_eq h]
  cases d with
  | int i =>
    simp_arith [dInt, inB]
    cases h1 : decide (lo ≤ i) <;> cases h2 : decide (i ≤ hi) <;> simp_arith
  | _ => first | exact absurd rfl h | simp_arith [dInt, inB]
theorem tupleof_eq {d : D} {lo hi : Int} (h : tyN d ≠ none) : f_is_tuple_of [d, .int lo, .int hi] = .ok (.fz (.bl (match d with | .tup xs => decide (lo ≤ (xs.length : Int)) && decide ((xs.length : Int) ≤ hi) | _ => false))) none := by
  rw [wf_eq]
  unfold f_is_tuple_of
  rw [wf_run]
  simp_arith [isi_tup h]
  cases d with
  | tup xs =>
    simp_arith [dTup]
    cases h1 : decide (lo ≤ (xs.length : Int)) <;> cases h2 : decide ((xs.length : Int) ≤ hi) <;> simp_arith
  | _ => first | exact absurd rfl h | simp_arith [dTup]
theorem whole_eq {d : D} {lo hi : Int} (h : tyN d ≠ none) : f__law_is_whole [d, .int lo, .int hi] = .ok (.fz (.bl (inB lo hi d))) none := by
  rw [wf_eq]
  unfold f__law_is_whole
  rw [wf_run]
  simp_arith [isi_int h, isi_bl h]
  cases d with
  | int i =>
    simp_arith [dInt, dBl, inB]
    cases h1 : decide (lo ≤ i) <;> cases h2 : decide (i ≤ hi) <;> simp_arith
  | bl b => simp_arith [dInt, dBl, inB]
  | _ => first | exact absurd rfl h | simp_arith [dInt, dBl, inB]
end K04
namespace K04
theorem filt_eq {c : Int} {ns : List Int} : ns.filterMap (fun n => if c ≤ n then some (D.int n) else none) = (ns.filter fun n => decide (c ≤ n)).map D.int := by
  induction ns with
  | nil => rfl
  | cons n ns ih =>
    by_cases h : c ≤ n
    · simp only [List.filterMap_cons, List.filter_cons, h, if_true, decide_true, List.map_cons, ih]
    · simp only [List.filterMap_cons, List.filter_cons, h, if_false, decide_false, ih, Bool.false_eq_true]
theorem begun_w {ns : List Int} : WF (f__law_begun [.lst (ns.map D.int)]) (fun tv io => ∃ m, tv = .ow .m m ∧ MW 0 m) (fun _ _ => False) := by
  unfold f__law_begun
  rw [wf_run]
  simp_arith
  refine wr_comp_fm D.int (fun n => if (1000000000000000000 : Int) ≤ n then some (.int n) else none) rfl (fun x hx => ?_) ?_
  · simp_arith
    refine ifb_and (fun z => ?_) fun z => ?_
    · exact if_pos (of_decide_eq_true z)
    · exact if_neg (of_decide_eq_false z)
  refine ⟨_, rfl, ns, 0, ns.filter fun n => decide ((1000000000000000000 : Int) ≤ n), ?_, Nat.le_refl _⟩
  rw [filt_eq]; rfl
end K04
namespace K04
theorem like_refl : ∀ (n m : Nat) (d : D), LKD n d → n < m → f__law_like m [d, d] = .ok (.fz (.bl true)) none
  | n, 0, d, h, hm => absurd hm (Nat.not_lt_zero _)
  | n, m + 1, d, h, hm => by
    have ht := h.ty
    rw [wf_eq]
    unfold f__law_like
    rw [wf_run]
    cases h with
    | non => simp_arith [isi_tup ht, isi_str ht, isi_int ht, isi_bl ht, dTup, dStr, dInt, dBl]
    | bl b => simp_arith [isi_tup ht, isi_str ht, isi_int ht, isi_bl ht, dTup, dStr, dInt, dBl, deq_bl, beq_self_eq_true]
    | int i => simp_arith [isi_tup ht, isi_str ht, isi_int ht, isi_bl ht, dTup, dStr, dInt, dBl, deq_bl, beq_self_eq_true, decide_true]
    | str hx => simp_arith [isi_tup ht, isi_str ht, isi_int ht, isi_bl ht, dTup, dStr, dInt, dBl, deq_bl, beq_self_eq_true, decide_true, hx]
    | tup hl hd =>
      rename_i n ds
      simp_arith [isi_tup ht, dTup, decide_true]
      refine ⟨rgOk_nat hl, ?_⟩
      refine wr_comp_map nD (fun _ => .bl true) rfl (fun i hi => ?_) ?_
      · have hi := List.mem_range.1 hi
        simp_arith [go_get hi, like_refl n m _ (hd _ (List.getElem_mem hi)) (by omega)]
      simp_arith [o_all_t]
end K04
namespace K04
/-- what is wrong with a thing in a permutation's place -/
inductive VP (p : Nat) : D → Option D → Prop
  | no {d : D} : (∀ xs, d = .tup xs → xs.length ≠ p) → VP p d (some .non)
  | bad {r : List Nat} {x : D} {rest : List D} : (nL r ++ x :: rest).length = p → r.Nodup → (∀ y ∈ r, y < p) → (∀ j, x = nD j → j < p → j ∈ r) → VP p (.tup (nL r ++ x :: rest)) (some (nD r.length))
  | ok {ps : List Nat} : ps.Perm (List.range p) → VP p (rowD ps) none
theorem in_nat {p : Nat} {x : D} (h : inB 0 ((p : Int) - 1) x = true) : ∃ j, x = nD j ∧ j < p := by
  cases x with
  | int i =>
    simp only [inB, Bool.and_eq_true, decide_eq_true_eq] at h
    obtain ⟨k, rfl⟩ := Int.eq_ofNat_of_zero_le h.1
    exact ⟨k, rfl, by omega⟩
  | _ => cases h
theorem in_of {p j : Nat} (h : j < p) : inB 0 ((p : Int) - 1) (nD j) = true := by
  simp only [inB, Bool.and_eq_true, decide_eq_true_eq]; omega
theorem VP_go {p : Nat} : ∀ {ys : List D} {r : List Nat}, (nL r ++ ys).length = p → r.Nodup → (∀ y ∈ r, y < p) → ∃ o, VP p (.tup (nL r ++ ys)) o
  | [], r, h1, h2, h3 => by
    rw [List.append_nil] at h1 ⊢
    rw [List.length_map] at h1
    exact ⟨none, .ok ((M0.row_iff h3).2 ⟨h1, h2⟩)⟩
  | x :: ys, r, h1, h2, h3 => by
    by_cases hx : ∃ j, x = nD j ∧ j < p ∧ j ∉ r
    · obtain ⟨j, rfl, hj, hn⟩ := hx
      have e : nL r ++ nD j :: ys = nL (r ++ [j]) ++ ys := by simp [nL]
      rw [e] at h1 ⊢
      refine VP_go h1 ?_ fun y hy => ?_
      · rw [List.nodup_append]
        refine ⟨h2, by simp, fun a ha b hb e => ?_⟩
        rw [List.mem_singleton] at hb
        exact hn (hb ▸ e ▸ ha)
      · rcases List.mem_append.1 hy with hy | hy
        · exact h3 y hy
        · rw [List.mem_singleton.1 hy]; exact hj
    · exact ⟨_, .bad h1 h2 h3 fun j e hj => Classical.byContradiction fun hn => hx ⟨j, e, hj, hn⟩⟩
theorem VP_total {p : Nat} (d : D) : ∃ o, VP p d o := by
  by_cases h : ∃ xs, d = .tup xs ∧ xs.length = p
  · obtain ⟨xs, rfl, hl⟩ := h
    exact VP_go (r := []) hl List.nodup_nil fun y hy => by cases hy
  · exact ⟨_, .no fun xs e hl => h ⟨xs, e, hl⟩⟩
theorem points_eq {d : D} (h : tyN d ≠ none) : WF (f_need_points [d]) (fun tv io => tv = .fz d ∧ io = none ∧ inB 1 8 d = true) (fun x io => x = ⟨"BadNumber", d⟩ ∧ io = none ∧ inB 1 8 d = false) := by
  unfold f_need_points
  rw [wf_run]
  simp_arith [among_eq h]
  cases hb : inB 1 8 d <;> simp_arith
theorem points_ok {p : Nat} (h1 : 1 ≤ p) (h8 : p ≤ 8) : f_need_points [nD p] = .ok (.fz (nD p)) none := by
  rw [wf_eq]
  refine (points_eq tyN_int).mono (fun _ _ h => ⟨h.1, h.2.1⟩) fun x io h => ?_
  have : inB 1 8 (nD p) = true := by simp only [inB, Bool.and_eq_true, decide_eq_true_eq]; omega
  rw [this] at h; exact Bool.noConfusion h.2.2
theorem points_bad {d : D} (h : tyN d ≠ none) (hb : inB 1 8 d = false) : WF (f_need_points [d]) (fun _ _ => False) (fun x io => x = ⟨"BadNumber", d⟩ ∧ io = none) :=
  (points_eq h).mono (fun _ _ h => by rw [hb] at h; exact Bool.noConfusion h.2.2) fun x io h => ⟨h.1, h.2.1⟩
/-- the walk along the places -/
theorem perm_at {p : Nat} {r : List Nat} {ys : List D} {i : Nat} {x : D} (hi : (nL r ++ ys)[i]? = some x) (hir : i < r.length) (h2 : r.Nodup) (h3 : ∀ y ∈ r, y < p) : ∃ j, x = nD j ∧ j < p ∧ j ∉ r.take i := by
  rw [List.getElem?_append_left (by rw [List.length_map]; exact hir), List.getElem?_map, List.getElem?_eq_getElem hir] at hi
  cases hi
  refine ⟨r[i], rfl, h3 _ (List.getElem_mem _), fun h => ?_⟩
  obtain ⟨j, hj, e⟩ := List.mem_iff_getElem.1 h
  rw [List.getElem_take] at e
  rw [List.length_take] at hj
  have := (List.getElem_inj h2).1 e
  omega
theorem take_nL {r : List Nat} {ys : List D} {i : Nat} (hi : i ≤ r.length) : (nL r ++ ys).take i = nL (r.take i) := by
  rw [List.take_append_of_le_length (by rw [List.length_map]; exact hi), ← List.map_take]
theorem needperm_go {p : Nat} {o : Option D} (h1 : 1 ≤ p) (h8 : p ≤ 8) (r : List Nat) (ys : List D) (hd : Nr (.tup (nL r ++ ys))) (hl : (nL r ++ ys).length = p) (h2 : r.Nodup) (h3 : ∀ y ∈ r, y < p) (ho : ys = [] ∧ o = none ∨ ∃ x rest, ys = x :: rest ∧ (∀ j, x = nD j → j < p → j ∈ r) ∧ o = some (nD r.length)) : WF (f_need_perm [nD p, .tup (nL r ++ ys)]) (fun tv io => tv = .fz (.tup (nL r ++ ys)) ∧ io = none ∧ o = none) (fun x io => ∃ a, o = some a ∧ x = ⟨"BadPerm", a⟩ ∧ io = none) := by
  unfold f_need_perm
  rw [wf_run]
  simp_arith [points_ok h1 h8, tupleof_eq hd.1]
  rw [decide_eq_true (by omega), decide_eq_true (by omega)]
  simp_arith
  have hle : ∀ i, i < (nL r ++ ys).length → i ≤ r.length → i < r.length ∨ ∃ x rest, ys = x :: rest ∧ (∀ j, x = nD j → j < p → j ∈ r) ∧ o = some (nD r.length) ∧ i = r.length := fun i hi hir => by
    rcases Nat.lt_or_ge i r.length with h | h
    · exact .inl h
    · rcases ho with ⟨rfl, _⟩ | ⟨x, rest, e1, e2, e3⟩
      · rw [List.append_nil, List.length_map] at hi; omega
      · exact .inr ⟨x, rest, e1, e2, e3, by omega⟩
  refine forL_ix (enumD (nL r ++ ys)) (fun i env => i ≤ r.length ∧ env = [.fz (nD p), .fz (.tup (nL r ++ ys)), .no, .no]) ?_ ?_ _ ⟨Nat.zero_le _, rfl⟩
  · rintro i _ _ hi ⟨hir, rfl⟩
    obtain ⟨x, hx, rfl⟩ := enum_at hi
    have hlt := (List.getElem?_eq_some_iff.1 hx).1
    have htx := hd.2 _ rfl x (List.mem_of_getElem? hx)
    simp_arith [among_eq htx]
    rcases hle i hlt hir with h | ⟨x', rest, rfl, hb, he, rfl⟩
    · obtain ⟨j, rfl, hj, hn⟩ := perm_at hx h h2 h3
      rw [in_of hj, take_nL hir]
      simp_arith [inD_nLt]
      rw [decide_eq_false hn]
      simp_arith
      exact h
    · have ex : x = x' := by
        rw [List.getElem?_append_right (by rw [List.length_map]; exact Nat.le_refl _), List.length_map, Nat.sub_self] at hx
        exact (Option.some.inj hx).symm
      subst ex
      cases hin : inB 0 ((p : Int) - 1) x with
      | false =>
        simp_arith
        exact ⟨_, he, rfl⟩
      | true =>
        obtain ⟨j, rfl, hj⟩ := in_nat hin
        rw [take_nL (Nat.le_refl _), List.take_length]
        simp_arith [inD_nLt]
        rw [decide_eq_true (hb j rfl hj)]
        simp_arith
        exact ⟨_, he, rfl⟩
  · rintro _ ⟨hir, rfl⟩
    simp_arith
    rcases ho with ⟨rfl, rfl⟩ | ⟨x, rest, rfl, _⟩
    · exact rfl
    · rw [enumD_len, List.length_append, List.length_map, List.length_cons] at hir; omega
theorem needperm_w {p : Nat} {d : D} {o : Option D} (h1 : 1 ≤ p) (h8 : p ≤ 8) (hd : Nr d) (hv : VP p d o) : WF (f_need_perm [nD p, d]) (fun tv io => tv = .fz d ∧ io = none ∧ o = none) (fun x io => ∃ a, o = some a ∧ x = ⟨"BadPerm", a⟩ ∧ io = none) := by
  cases hv with
  | no hno =>
    unfold f_need_perm
    rw [wf_run]
    simp_arith [points_ok h1 h8, tupleof_eq hd.1]
    have hf : ∀ {b}, (match d with | .tup xs => decide ((p : Int) ≤ (xs.length : Int)) && decide ((xs.length : Int) ≤ (p : Int)) | _ => false) = b → b = false := by
      rintro b rfl
      cases d with
      | tup xs =>
        have := hno xs rfl
        dsimp only
        rw [Bool.and_eq_false_iff, decide_eq_false_iff_not, decide_eq_false_iff_not]; omega
      | _ => rfl
    cases d with
    | tup xs =>
      have := hf rfl
      dsimp only at this
      simp only [Int.ofNat_le] at this ⊢
      rw [this]
      simp_arith
      exact ⟨_, rfl, rfl⟩
    | _ =>
      simp_arith
      exact ⟨_, rfl, rfl⟩
  | bad hl h2 h3 hb => exact needperm_go h1 h8 _ _ hd hl h2 h3 (.inr ⟨_, _, rfl, hb, rfl⟩)
  | @ok ps hp =>
    have hl := M0.pm_len hp
    have := needperm_go (o := none) h1 h8 ps [] (by rw [List.append_nil]; exact hd) (by rw [List.append_nil, List.length_map]; exact hl) (M0.pm_nodup hp) (fun y hy => List.mem_range.1 ((hp.mem_iff).1 hy)) (.inl ⟨rfl, rfl⟩)
    rw [List.append_nil] at this
    exact this
end K04
namespace K04
def faultD : Option D → D
  | none => .non
  | some x => .tup [x]
theorem fault_go {p : Nat} {o : Option D} (h1 : 1 ≤ p) (h8 : p ≤ 8) (r : List Nat) (ys : List D) (hd : Nr (.tup (nL r ++ ys))) (hl : (nL r ++ ys).length = p) (h2 : r.Nodup) (h3 : ∀ y ∈ r, y < p) (ho : ys = [] ∧ o = none ∨ ∃ x rest, ys = x :: rest ∧ (∀ j, x = nD j → j < p → j ∈ r) ∧ o = some (nD r.length)) : f__law_fault [nD p, .tup (nL r ++ ys)] = .ok (.fz (faultD o)) none := by
  rw [wf_eq]
  unfold f__law_fault
  rw [wf_run]
  simp_arith [isi_tup hd.1, dTup, hl, decide_true]
  have hle : ∀ i, i < (nL r ++ ys).length → i ≤ r.length → i < r.length ∨ ∃ x rest, ys = x :: rest ∧ (∀ j, x = nD j → j < p → j ∈ r) ∧ o = some (nD r.length) ∧ i = r.length := fun i hi hir => by
    rcases Nat.lt_or_ge i r.length with h | h
    · exact .inl h
    · rcases ho with ⟨rfl, _⟩ | ⟨x, rest, e1, e2, e3⟩
      · rw [List.append_nil, List.length_map] at hi; omega
      · exact .inr ⟨x, rest, e1, e2, e3, by omega⟩
  refine ⟨rgOk_nat (by omega), ?_⟩
  refine forL_ix (nL (List.range p)) (fun i env => i ≤ r.length ∧ env = [.fz (nD p), .fz (.tup (nL r ++ ys)), .no]) ?_ ?_ _ ⟨Nat.zero_le _, rfl⟩
  · rintro i d _ hi ⟨hir, rfl⟩
    have hip : i < p := by
      have := (List.getElem?_eq_some_iff.1 hi).1
      simpa using this
    have ed : d = nD i := by
      rw [List.getElem?_map, List.getElem?_range hip] at hi
      exact (Option.some.inj hi).symm
    subst ed
    have hlt : i < (nL r ++ ys).length := by omega
    obtain ⟨x, hx⟩ : ∃ x, (nL r ++ ys)[i]? = some x := ⟨_, List.getElem?_eq_getElem hlt⟩
    have htx := hd.2 _ rfl x (List.mem_of_getElem? hx)
    have hat : atI (nL r ++ ys) (i : Int) = some x := by rw [VL.atI_nat, hx]
    simp_arith [hat, whole_eq htx]
    rcases hle i hlt hir with h | ⟨x', rest, rfl, hb, he, rfl⟩
    · obtain ⟨j, rfl, hj, hn⟩ := perm_at hx h h2 h3
      rw [in_of hj, take_nL hir]
      simp_arith [inD_nLt, hat]
      rw [decide_eq_false hn]
      simp_arith
      exact h
    · have ex : x = x' := by
        rw [List.getElem?_append_right (by rw [List.length_map]; exact Nat.le_refl _), List.length_map, Nat.sub_self] at hx
        exact (Option.some.inj hx).symm
      subst ex
      cases hin : inB 0 ((p : Int) - 1) x with
      | false =>
        simp_arith [he, faultD]
      | true =>
        obtain ⟨j, rfl, hj⟩ := in_nat hin
        rw [take_nL (Nat.le_refl _), List.take_length]
        simp_arith [inD_nLt, hat]
        rw [decide_eq_true (hb j rfl hj)]
        simp_arith [he, faultD]
  · rintro _ ⟨hir, rfl⟩
    rcases ho with ⟨rfl, rfl⟩ | ⟨x, rest, rfl, _⟩
    · exact rfl
    · rw [List.length_map, List.length_range] at hir
      rw [List.length_append, List.length_map, List.length_cons] at hl; omega
theorem fault_eq {p : Nat} {d : D} {o : Option D} (h1 : 1 ≤ p) (h8 : p ≤ 8) (hd : Nr d) (hv : VP p d o) : f__law_fault [nD p, d] = .ok (.fz (faultD o)) none := by
  cases hv with
  | no hno =>
    rw [wf_eq]
    unfold f__law_fault
    rw [wf_run]
    simp_arith [isi_tup hd.1]
    cases d with
    | tup xs =>
      have := hno xs rfl
      simp_arith [dTup, decide_eq_false this, faultD]
    | _ => simp_arith [dTup, faultD]
  | bad hl h2 h3 hb => exact fault_go h1 h8 _ _ hd hl h2 h3 (.inr ⟨_, _, rfl, hb, rfl⟩)
  | @ok ps hp =>
    have hl := M0.pm_len hp
    have := fault_go (o := none) h1 h8 ps [] (by rw [List.append_nil]; exact hd) (by rw [List.append_nil, List.length_map]; exact hl) (M0.pm_nodup hp) (fun y hy => List.mem_range.1 ((hp.mem_iff).1 hy)) (.inl ⟨rfl, rfl⟩)
    rw [List.append_nil] at this
    exact this
def toldD (d : D) : Option D → D
  | none => .tup [.str "told", d]
  | some x => .tup [.str "perm", x]
theorem told_eq {p : Nat} {d : D} {o : Option D} (h1 : 1 ≤ p) (h8 : p ≤ 8) (hd : Nr d) (hv : VP p d o) : f__law_told [nD p, d] = .ok (.fz (toldD d o)) none := by
  rw [wf_eq]
  unfold f__law_told
  rw [wf_run]
  simp_arith
  rw [show permL [1, 0] [d, nD p] = [nD p, d] from rfl]
  refine (needperm_w h1 h8 hd hv).mono ?_ ?_
  · rintro _ _ ⟨rfl, rfl, rfl⟩
    simp_arith [toldD]
  · rintro _ _ ⟨a, rfl, rfl, rfl⟩
    simp_arith [toldD]
theorem need_ok {p : Nat} {ps : List Nat} (h1 : 1 ≤ p) (h8 : p ≤ 8) (hp : ps.Perm (List.range p)) : f_need_perm [nD p, rowD ps] = .ok (.fz (rowD ps)) none := by
  rw [wf_eq]
  exact (needperm_w h1 h8 Nr_row (.ok hp)).mono (fun _ _ h => ⟨h.1, h.2.1⟩) fun _ _ ⟨a, h, _⟩ => by cases h
end K04
namespace K04
theorem getD_at {ps : List Nat} {i : Nat} (h : i < ps.length) : atI (nL ps) (i : Int) = some (nD (M0.st ps i)) := atI_nL h
theorem then_eq {p : Nat} {a b : List Nat} (ha : a.Perm (List.range p)) (hb : b.Perm (List.range p)) : f_then_by [rowD a, rowD b] = .ok (.fz (rowD (a.map (M0.st b)))) none := by
  rw [wf_eq]
  unfold f_then_by
  rw [wf_run]
  simp_arith
  refine wr_comp_map nD (fun x => nD (M0.st b x)) rfl (fun x hx => ?_) ?_
  · have := List.mem_range.1 ((ha.mem_iff).1 hx)
    simp_arith [getD_at (ps := b) (i := x) (by rw [M0.pm_len hb]; exact this)]
  rw [← nL_map]
theorem lthen_eq {p : Nat} {a b : List Nat} (ha : a.Perm (List.range p)) (hb : b.Perm (List.range p)) : f__law_then [rowD a, rowD b] = .ok (.fz (rowD (a.map (M0.st b)))) none := by
  rw [wf_eq]
  unfold f__law_then
  rw [wf_run]
  simp_arith
  refine wr_comp_map nD (fun x => nD (M0.st b x)) rfl (fun x hx => ?_) ?_
  · have := List.mem_range.1 ((ha.mem_iff).1 hx)
    simp_arith [getD_at (ps := b) (i := x) (by rw [M0.pm_len hb]; exact this)]
  rw [← nL_map]
theorem permthen_eq {p : Nat} {a b : List Nat} (h1 : 1 ≤ p) (h8 : p ≤ 8) (ha : a.Perm (List.range p)) (hb : b.Perm (List.range p)) : f_perm_then [nD p, rowD a, rowD b] = .ok (.fz (rowD (a.map (M0.st b)))) none := by
  rw [wf_eq]
  unfold f_perm_then
  rw [wf_run]
  simp_arith [need_ok h1 h8 ha, need_ok h1 h8 hb, then_eq ha hb]
/-- the one that takes it back -/
def inv (a : List Nat) : List Nat := (List.range a.length).map fun y => a.idxOf y
theorem inv_st {p : Nat} {a : List Nat} (ha : a.Perm (List.range p)) {y : Nat} (hy : y < p) : M0.st (inv a) y = a.idxOf y := by
  unfold inv M0.st
  rw [M0.getD_lt (by rw [List.length_map, List.length_range, M0.pm_len ha]; exact hy), List.getElem_map, List.getElem_range]
theorem idx_lt {p : Nat} {a : List Nat} (ha : a.Perm (List.range p)) {y : Nat} (hy : y < p) : a.idxOf y < p := by
  have := List.idxOf_lt_length_iff.2 ((ha.mem_iff).2 (List.mem_range.2 hy))
  rwa [M0.pm_len ha] at this
theorem st_idx {p : Nat} {a : List Nat} (ha : a.Perm (List.range p)) {y : Nat} (hy : y < p) : M0.st a (a.idxOf y) = y := by
  have := List.idxOf_lt_length_iff.2 ((ha.mem_iff).2 (List.mem_range.2 hy))
  unfold M0.st
  rw [M0.getD_lt this]
  exact List.getElem_idxOf this
theorem idx_st {p : Nat} {a : List Nat} (ha : a.Perm (List.range p)) {x : Nat} (hx : x < p) : a.idxOf (M0.st a x) = x :=
  M0.st_inj ha (idx_lt ha (M0.st_lt ha hx)) hx (st_idx ha (M0.st_lt ha hx))
theorem inv_perm {p : Nat} {a : List Nat} (ha : a.Perm (List.range p)) : (inv a).Perm (List.range p) := by
  have hlt : ∀ x ∈ inv a, x < p := fun x hx => by
    obtain ⟨y, hy, rfl⟩ := List.mem_map.1 hx
    rw [M0.pm_len ha] at hy
    exact idx_lt ha (List.mem_range.1 hy)
  refine (M0.row_iff hlt).2 ⟨by unfold inv; rw [List.length_map, List.length_range, M0.pm_len ha], ?_⟩
  unfold inv
  rw [List.nodup_iff_pairwise_ne, List.pairwise_map, M0.pm_len ha]
  refine (List.pairwise_lt_range (n := p)).imp_of_mem fun {x y} hx hy hxy e => ?_
  have := congrArg (M0.st a) e
  rw [st_idx ha (List.mem_range.1 hx), st_idx ha (List.mem_range.1 hy)] at this
  omega
theorem map_range {p : Nat} {a : List Nat} (ha : a.Perm (List.range p)) {f : Nat → Nat} (hf : ∀ x, x < p → f (M0.st a x) = x) : a.map f = List.range p := by
  have hl := M0.pm_len ha
  refine (eq_range (by rw [List.length_map, hl])).2 fun x hx => ?_
  rw [M0.getD_lt (by rw [List.length_map, hl]; exact hx), List.getElem_map]
  have := hf x hx
  unfold M0.st at this
  rwa [M0.getD_lt (by omega)] at this
theorem then_inv {p : Nat} {a : List Nat} (ha : a.Perm (List.range p)) : a.map (M0.st (inv a)) = List.range p :=
  map_range ha fun x hx => by rw [inv_st ha (M0.st_lt ha hx), idx_st ha hx]
theorem inv_then {p : Nat} {a : List Nat} (ha : a.Perm (List.range p)) : (inv a).map (M0.st a) = List.range p :=
  map_range (inv_perm ha) fun x hx => by rw [inv_st ha hx, st_idx ha hx]
theorem back_eq {p : Nat} {a : List Nat} (h8 : p ≤ 8) (ha : a.Perm (List.range p)) : f_back_by [rowD a] = .ok (.fz (rowD (inv a))) none := by
  have hl := M0.pm_len ha
  rw [wf_eq]
  unfold f_back_by
  rw [wf_run]
  simp_arith
  rw [List.length_map, hl]
  refine w_rep (by omega) ?_
  simp_arith
  refine forL_ix (enumD (nL a)) (fun i env => ∃ L : List Nat, env = [.fz (rowD a), .ow .l (.lst (nL L)), .no, .no] ∧ L.length = p ∧ ∀ j, j < i → j < p → L.getD (M0.st a j) 0 = j) ?_ ?_ _ ⟨List.replicate p 0, by rw [nL_rep]; rfl, by simp, fun j h => absurd h (Nat.not_lt_zero _)⟩
  · rintro i d _ hi ⟨L, rfl, hL, hj⟩
    obtain ⟨x, hx, rfl⟩ := enum_at hi
    rw [List.getElem?_map] at hx
    obtain ⟨y, hy, rfl⟩ := Option.map_eq_some_iff.1 hx
    have hip : i < p := by have := (List.getElem?_eq_some_iff.1 hy).1; omega
    have ey : y = M0.st a i := by
      unfold M0.st
      rw [List.getD_eq_getElem?_getD, hy]; rfl
    subst ey
    have hyp := M0.st_lt ha hip
    simp_arith
    rw [putIx_l (by rw [List.length_map, hL]; exact hyp)]
    simp_arith
    refine ⟨L.set (M0.st a i) i, by rw [nL_set], by rw [List.length_set]; exact hL, fun j h1 h2 => ?_⟩
    rw [List.getD_eq_getElem?_getD]
    by_cases e : j = i
    · subst e
      rw [List.getElem?_set_self (by omega)]; rfl
    · rw [List.getElem?_set_ne (fun z => e (M0.st_inj ha h2 hip z.symm)), ← List.getD_eq_getElem?_getD]
      exact hj j (by omega) h2
  · rintro _ ⟨L, rfl, hL, hj⟩
    rw [enumD_len, List.length_map, hl] at hj
    have e : L = inv a := by
      refine (eq_rows (n := p) hL (by unfold inv; rw [List.length_map, List.length_range, hl])).2 fun y hy => ?_
      have h1 := hj (a.idxOf y) (idx_lt ha hy) (idx_lt ha hy)
      rw [st_idx ha hy] at h1
      rw [h1]; exact (inv_st ha hy).symm
    subst e
    simp_arith
theorem inverse_eq {p : Nat} {a : List Nat} (h1 : 1 ≤ p) (h8 : p ≤ 8) (ha : a.Perm (List.range p)) : f_perm_inverse [nD p, rowD a] = .ok (.fz (rowD (inv a))) none := by
  rw [wf_eq]
  unfold f_perm_inverse
  rw [wf_run]
  simp_arith [need_ok h1 h8 ha, back_eq h8 ha]
end K04
namespace K04
open M0 (cycs itc per Per it)
theorem one_filter {L : List (List Nat)} {x : Nat} : (L.filterMap fun c => if x ∈ c then some (D.int 1) else none) = [] ↔ x ∉ L.flatten := by
  rw [List.filterMap_eq_nil_iff]
  constructor
  · intro h z
    obtain ⟨c, hc, hx⟩ := List.mem_flatten.1 z
    have := h c hc
    rw [if_pos hx] at this; cases this
  · intro h c hc
    exact if_neg fun z => h (List.mem_flatten.2 ⟨c, hc, z⟩)
theorem nL_one {x : Nat} : [nD x] = nL [x] := rfl
theorem nL_app {xs : List Nat} {x : Nat} : nL xs ++ [nD x] = nL (xs ++ [x]) := nL_concat.symm
theorem tab_app {L : List (List Nat)} {r : List Nat} : L.map rowD ++ [rowD r] = (L ++ [r]).map rowD := by simp
theorem lcycles_eq {p : Nat} {a : List Nat} (h8 : p ≤ 8) (ha : a.Perm (List.range p)) : f__law_cycles [rowD a] = .ok (.fz (tabD (cycs p a p))) none := by
  have hl := M0.pm_len ha
  rw [wf_eq]
  unfold f__law_cycles
  rw [wf_run]
  simp_arith
  rw [List.length_map, hl]
  refine ⟨rgOk_nat (by omega), ?_⟩
  refine forL_ix (nL (List.range p)) (fun i env => env = [.fz (rowD a), .ow .l (.lst ((cycs p a i).map rowD)), .no, .no, .no]) ?_ ?_ _ rfl
  · rintro i d env hi rfl
    have hip : i < p := by
      have := (List.getElem?_eq_some_iff.1 hi).1
      simpa using this
    have ed : d = nD i := by
      rw [List.getElem?_map, List.getElem?_range hip] at hi
      exact (Option.some.inj hi).symm
    subst ed
    have hok := M0.cycs_ok ha (n := i) (by omega)
    have hclen : (cycs p a i).length ≤ p := Nat.le_trans (M0.len_flat hok.ne) hok.len
    simp_arith
    refine wr_comp_fm rowD (fun c => if i ∈ c then some (D.int 1) else none) rfl (fun c hc => ?_) ?_
    · simp_arith [inD_nLt]
      by_cases hic : i ∈ c
      · simp_arith [hic, decide_true]
      · simp_arith [hic, decide_false]
    simp_arith
    refine ⟨pls_all fun y hy => ?_, ?_⟩
    · obtain ⟨x, _, hx⟩ := List.mem_filterMap.1 hy
      split at hx
      · cases hx; exact pl_int
      · cases hx
    rw [M0.cycs_succ]
    by_cases hm : i ∈ (cycs p a i).flatten
    · rw [if_pos hm, decide_eq_false fun z => (one_filter.1 z) hm]
      simp_arith
    · rw [if_neg hm, decide_eq_true (one_filter.2 hm)]
      have hp := M0.per_spec ha hip
      generalize hper : per p a i = m at hp
      simp_arith [getD_at (ps := a) (i := i) (by omega)]
      refine whileL_inv (fun N env => ∃ j, N = m - j ∧ 1 ≤ j ∧ j ≤ m ∧ env = [.fz (rowD a), .ow .l (.lst ((cycs p a i).map rowD)), .fz (nD i), .ow .l (.lst (nL (itc a i j))), .fz (nD (it a j i))]) ?_ 1000000 (m - 1) _ (by have := hp.2.1; omega) ⟨1, rfl, Nat.le_refl _, hp.1, rfl⟩
      rintro N _ ⟨j, rfl, hj1, hjm, rfl⟩
      simp_arith [deq_nD]
      refine ifb_of ?_
      split
      · rename_i hne
        have hne : it a j i ≠ i := by simpa using hne
        have hjm : j < m := by
          rcases Nat.lt_or_ge j m with h | h
          · exact h
          · exact absurd (by rw [show j = m by omega]; exact hp.2.2.1) hne
        simp_arith [getD_at (ps := a) (i := it a j i) (by have := M0.it_lt ha hip (n := j); omega)]
        have := hp.2.1
        refine ⟨sizeLine_lt (by rw [List.length_map, M0.itc_len]; omega), m - (j + 1), by omega, j + 1, rfl, by omega, by omega, ?_⟩
        rw [M0.itc_succ, nL_app]; rfl
      · rename_i he
        have he : it a j i = i := by simpa using he
        have hjm : j = m := by
          rcases Nat.lt_or_ge j m with h | h
          · exact absurd he (hp.2.2.2 j (by omega) h)
          · omega
        subst hjm
        simp_arith [tab_app]
        exact sizeLine_lt (by rw [List.length_map]; omega)
  · rintro env rfl
    simp only [List.length_map, List.length_range]
    simp_arith
theorem cycles_eq {p : Nat} {a : List Nat} (h8 : p ≤ 8) (ha : a.Perm (List.range p)) : f_cycles_by [rowD a] = .ok (.ow .l (.lst ((cycs p a p).map rowD))) none := by
  have hl := M0.pm_len ha
  rw [wf_eq]
  unfold f_cycles_by
  rw [wf_run]
  simp_arith
  rw [List.length_map, hl]
  refine ⟨rgOk_nat (by omega), ?_⟩
  refine forL_ix (nL (List.range p)) (fun i env => ∃ ks vs, env = [.fz (rowD a), .ow .l (.lst ((cycs p a i).map rowD)), .ow .dk (.dct (ks.map kN) vs), .no, .no, .no] ∧ ks.length = vs.length ∧ ks = (cycs p a i).flatten) ?_ ?_ _ ⟨[], [], rfl, rfl, rfl⟩
  · rintro i d env hi ⟨ks, vs, rfl, hkv, hks⟩
    have hip : i < p := by
      have := (List.getElem?_eq_some_iff.1 hi).1
      simpa using this
    have ed : d = nD i := by
      rw [List.getElem?_map, List.getElem?_range hip] at hi
      exact (Option.some.inj hi).symm
    subst ed
    have hok := M0.cycs_ok ha (n := i) (by omega)
    have hclen : (cycs p a i).length ≤ p := Nat.le_trans (M0.len_flat hok.ne) hok.len
    simp_arith [inD_kN hkv]
    rw [M0.cycs_succ]
    by_cases hm : i ∈ ks
    · rw [decide_eq_true hm]
      rw [hks] at hm
      rw [if_pos hm]
      simp_arith
      exact ⟨ks, vs, rfl, hkv, hks⟩
    · rw [decide_eq_false hm]
      have hm' : i ∉ (cycs p a i).flatten := hks ▸ hm
      rw [if_neg hm']
      have hp := M0.per_spec ha hip
      generalize hper : per p a i = m at hp
      simp_arith
      refine whileL_inv (fun N env => ∃ j ks' vs', N = m - j ∧ j ≤ m ∧ env = [.fz (rowD a), .ow .l (.lst ((cycs p a i).map rowD)), .ow .dk (.dct (ks'.map kN) vs'), .fz (nD i), .ow .l (.lst (nL (itc a i j))), .fz (nD (it a j i))] ∧ ks'.length = vs'.length ∧ ks' = ks ++ itc a i j) ?_ 1000000 m _ (by have := hp.2.1; omega) ⟨0, ks, vs, rfl, Nat.zero_le _, rfl, hkv, by simp [itc]⟩
      rintro N _ ⟨j, ks', vs', rfl, hjm, rfl, hkv', hks'⟩
      simp_arith [inD_kN hkv']
      have hin : it a j i ∈ ks' ↔ j = m := by
        rw [hks', List.mem_append]
        constructor
        · intro h
          rcases h with h | h
          · rw [hks] at h
            exact absurd h (M0.it_off hok.clo hm' hp hjm)
          · rcases Nat.lt_or_ge j m with hj | hj
            · exact absurd h (M0.it_new ha hip hp hj)
            · omega
        · rintro rfl
          exact .inr (M0.mem_itc.2 ⟨0, hp.1, hp.2.2.1.symm⟩)
      by_cases hj : j = m
      · rw [decide_eq_true (hin.2 hj)]
        subst hj
        simp_arith [tab_app]
        refine ⟨sizeLine_lt (by rw [List.length_map]; omega), ks', vs', rfl, hkv', ?_⟩
        rw [hks', hks]; simp
      · have hn : it a j i ∉ ks' := fun z => hj (hin.1 z)
        rw [decide_eq_false hn]
        have hlen : ks'.length < 16777216 := by
          have h1 := hok.len
          have h2 := hp.2.1
          rw [hks', List.length_append, M0.itc_len, hks]; omega
        simp_arith
        rw [putIx_kN hn hlen]
        simp_arith [getD_at (ps := a) (i := it a j i) (by have := M0.it_lt ha hip (n := j); omega)]
        have := hp.2.1
        refine ⟨sizeLine_lt (by rw [List.length_map, M0.itc_len]; omega), m - (j + 1), by omega, j + 1, ks' ++ [it a j i], vs' ++ [.bl true], rfl, by omega, ?_, ?_, ?_⟩
        · rw [M0.itc_succ, nL_app]; rfl
        · rw [List.length_append, List.length_append, hkv']; rfl
        · rw [hks', M0.itc_succ]; simp
  · rintro env ⟨ks, vs, rfl, hkv, hks⟩
    simp_arith
    simp only [List.length_map, List.length_range]
end K04
namespace K04
open M0 (cycs)
def kindOf (L : List (List Nat)) : List Nat := ((L.map List.length).mergeSort fun a b => decide (a ≤ b)).reverse
theorem o_sortl {xs : List Nat} : oSorted [.lst (nL xs)] = .new .l (.lst (nL (xs.mergeSort fun a b => decide (a ≤ b)))) := o_sort rfl
theorem nL_rev {xs : List Nat} : (nL xs).reverse = nL xs.reverse := List.map_reverse.symm
theorem cyclesof_eq {p : Nat} {a : List Nat} (h1 : 1 ≤ p) (h8 : p ≤ 8) (ha : a.Perm (List.range p)) : f_cycles_of [nD p, rowD a] = .ok (.fz (tabD (cycs p a p))) none := by
  rw [wf_eq]
  unfold f_cycles_of
  rw [wf_run]
  simp_arith [need_ok h1 h8 ha, cycles_eq h8 ha]
theorem typeof_eq {p : Nat} {a : List Nat} (h1 : 1 ≤ p) (h8 : p ≤ 8) (ha : a.Perm (List.range p)) : f_type_of_perm [nD p, rowD a] = .ok (.fz (rowD (kindOf (cycs p a p)))) none := by
  rw [wf_eq]
  unfold f_type_of_perm f_type_by
  rw [wf_run]
  simp_arith [need_ok h1 h8 ha]
  rw [wf_run]
  simp_arith [cycles_eq h8 ha]
  refine wr_comp_map rowD (fun c => nD c.length) rfl (fun c hc => ?_) ?_
  · simp_arith [List.length_map]
  rw [show (cycs p a p).map (fun c => nD c.length) = nL ((cycs p a p).map List.length) from nL_map.symm]
  simp_arith [o_sortl, nL_rev]
  exact rfl
theorem both_eq {p : Nat} {a b : List Nat} (ha : a.Perm (List.range p)) : (List.range p).map (fun x => nD (M0.st b (M0.st a x))) = nL (a.map (M0.st b)) := by
  rw [nL_map]
  have e : a = (List.range p).map (M0.st a) := by
    have hl := M0.pm_len ha
    refine (eq_rows (n := p) hl (by simp)).2 fun x hx => ?_
    rw [M0.getD_lt (l := List.map _ _) (by simpa using hx), List.getElem_map, List.getElem_range]
  conv => rhs; rw [e]
  rw [List.map_map]
  rfl
theorem told_repr {p : Nat} {d : D} {o : Option D} (h8 : p ≤ 8) (hv : VP p d o) : ∃ s : Str, oRepr [toldD d o] = .val (.str s) ∧ PyData.strOk s = true := by
  have s1 : SHW 59 100 (.str "told") := shw_str (by decide +kernel) ⟨by decide +kernel, by decide +kernel⟩
  have s2 : SHW 59 100 (.str "perm") := shw_str (by decide +kernel) ⟨by decide +kernel, by decide +kernel⟩
  cases hv with
  | no _ => exact repr_pair s2 (shw_non.le (by decide)) (by decide)
  | bad hl h2 h3 hb =>
    rename_i r x rest
    rw [List.length_append, List.length_map] at hl
    exact repr_pair s2 ((shw_nat (i := r.length) (by omega)).le (by decide)) (by decide)
  | @ok ps hp =>
    have hl := M0.pm_len hp
    exact repr_pair s1 ((shw_row (m := 8) (fun x hx => by have := List.mem_range.1 ((hp.mem_iff).1 hx); omega) (by omega)).le (by decide)) (by decide)
theorem flat_len {L : List (List Nat)} {c : List Nat} (h : c ∈ L) : c.length ≤ L.flatten.length := by
  induction L with
  | nil => cases h
  | cons x L ih =>
    rw [List.flatten_cons, List.length_append]
    rcases List.mem_cons.1 h with rfl | h
    · omega
    · have := ih h; omega
theorem right_w {n p : Nat} {m : D} (hm : MW n m) (hn : n ≤ 1000000) (h1 : 1 ≤ p) (h8 : p ≤ 8) : WF (f__law_right [m, nD p]) (fun tv io => tv = .fz (.bl true) ∧ ∃ m', io = some m' ∧ MW (n + 20) m') (fun _ _ => False) := by
  unfold f__law_right
  rw [wf_run]
  simp_arith
  refine (perm_w hm (by omega) (by omega)).mono ?_ fun _ _ z => z.elim
  rintro _ _ ⟨a, m1, rfl, ha, rfl, hm1⟩
  simp_arith
  refine (perm_w hm1 (by omega) (by omega)).mono ?_ fun _ _ z => z.elim
  rintro _ _ ⟨b, m2, rfl, hb, rfl, hm2⟩
  have hal := M0.pm_len ha
  have hbl := M0.pm_len hb
  simp_arith
  refine ⟨rgOk_nat (by omega), ?_⟩
  refine wr_comp_map nD (fun x => nD (M0.st b (M0.st a x))) rfl (fun x hx => ?_) ?_
  · have hx := List.mem_range.1 hx
    simp_arith [getD_at (ps := a) (i := x) (by omega), getD_at (ps := b) (i := M0.st a x) (by have := M0.st_lt ha hx; omega)]
  rw [both_eq ha]
  simp_arith [lcycles_eq h8 ha]
  refine wr_comp_map rowD (fun c => nD c.length) rfl (fun c hc => ?_) ?_
  · simp_arith [List.length_map]
  rw [show (cycs p a p).map (fun c => nD c.length) = nL ((cycs p a p).map List.length) from nL_map.symm]
  simp_arith [o_sortl, nL_rev]
  rw [show permL [2, 1, 0] [rowD b, rowD a, nD p] = [nD p, rowD a, rowD b] from rfl, show permL [1, 0] [rowD a, nD p] = [nD p, rowD a] from rfl]
  rw [show (((cycs p a p).map List.length).mergeSort fun a b => decide (a ≤ b)).reverse = kindOf (cycs p a p) from rfl]
  simp_arith [permthen_eq h1 h8 ha hb, cyclesof_eq h1 h8 ha, typeof_eq h1 h8 ha]
  have hlk1 : f__law_like 12 [.tup [rowD (a.map (M0.st b)), tabD (cycs p a p), rowD (kindOf (cycs p a p))], .tup [.tup (nL (a.map (M0.st b))), tabD (cycs p a p), .tup (nL (kindOf (cycs p a p)))]] = .ok (.fz (.bl true)) none := by
    have hok := M0.cycs_ok ha (n := p) (Nat.le_refl _)
    have hcl : (cycs p a p).length ≤ p := Nat.le_trans (M0.len_flat hok.ne) hok.len
    refine like_refl 3 12 _ (.tup (by simp) fun d hd => ?_) (by decide)
    simp only [List.mem_cons, List.not_mem_nil, or_false] at hd
    rcases hd with rfl | rfl | rfl
    · exact lkd_row (by rw [List.length_map]; omega)
    · refine .tup (by rw [List.length_map]; omega) fun d hd => ?_
      obtain ⟨c, hc, rfl⟩ := List.mem_map.1 hd
      refine lkd_row ?_
      have h1 : c.length ≤ (cycs p a p).flatten.length := by
        exact flat_len hc
      have := hok.len
      omega
    · refine lkd_row ?_
      unfold kindOf
      rw [List.length_reverse, List.length_mergeSort, List.length_map]; omega
  have hlk2 : f__law_like 12 [rowD (List.range p), rowD (List.range p)] = .ok (.fz (.bl true)) none := like_refl 1 12 _ (lkd_row (by rw [List.length_range]; omega)) (by decide)
  simp_arith [hlk1]
  simp_arith [inverse_eq h1 h8 ha, lthen_eq ha (inv_perm ha), then_inv ha, permthen_eq h1 h8 (inv_perm ha) ha, inv_then ha, rgOk2_nat (n := p) (by omega), hlk2]
  refine (next_w hm2 (by omega) (by omega) (by omega)).mono ?_ fun _ _ z => z.elim
  rintro _ _ ⟨q, m3, rfl, rfl, hq0, hq1, hm3⟩
  obtain ⟨j, rfl⟩ := Int.eq_ofNat_of_zero_le hq0
  have hj : j < p := by omega
  have ea0 : atI (nL a) 0 = some (nD (M0.st a 0)) := getD_at (ps := a) (i := 0) (by omega)
  simp_arith [ea0]
  have la : (nL a).length = p := by rw [List.length_map]; exact hal
  have hel : ∀ x ∈ nL a, tyN x ≠ none := fun x hx => by
    obtain ⟨i, _, rfl⟩ := List.mem_map.1 hx
    exact tyN_int
  have hsw : ∀ x, tyN x ≠ none → Nr (.tup (List.take j (nL a) ++ [x] ++ List.drop (j + 1) (nL a))) := fun x hx => Nr_tup fun y hy => by
    rcases List.mem_append.1 hy with hy | hy
    · rcases List.mem_append.1 hy with hy | hy
      · exact hel y (List.mem_of_mem_take hy)
      · rw [List.mem_singleton.1 hy]; exact hx
    · exact hel y (List.mem_of_mem_drop hy)
  refine ⟨sizeLine_le (by omega), sizeLine_le (by rw [List.length_take]; omega), sizeLine_le (by simp only [List.length_append, List.length_take, List.length_drop, List.length_singleton]; omega), ?_⟩
  refine wr_comp_mapD (fun x => .tup (List.take j (nL a) ++ [x] ++ List.drop (j + 1) (nL a))) rfl (fun x hx => ?_) ?_
  · simp_arith
    exact ⟨sizeLine_le (by rw [List.length_take]; omega), sizeLine_le (by simp only [List.length_append, List.length_take, List.length_drop, List.length_singleton]; omega)⟩
  obtain ⟨xs, hxs, hN⟩ : ∃ xs : List D, List.map (fun x => D.tup (List.take j (nL a) ++ [x] ++ List.drop (j + 1) (nL a))) [nD p, D.int (-1), D.bl true, D.non, D.str (Str.ofString "0"), nD j] = xs ∧ ∀ d ∈ xs, Nr d := by
    refine ⟨_, rfl, fun d hd => ?_⟩
    obtain ⟨x, hx, rfl⟩ := List.mem_map.1 hd
    refine hsw x ?_
    simp only [List.mem_cons, List.not_mem_nil, or_false] at hx
    rcases hx with rfl | rfl | rfl | rfl | rfl | rfl <;> simp [tyN]
  have hxl : xs.length = 6 := by rw [← hxs]; simp
  obtain ⟨ys, hys, hM⟩ : ∃ ys : List D, [rowD a, D.tup (nL a).reverse, D.lst (nL a), D.tup (List.drop 1 (nL a)), D.tup (nL a ++ [nD p]), D.non, D.tup [], D.dct [] [], D.tup (List.take j (nL a) ++ [nD (M0.st a 0)] ++ List.drop (j + 1) (nL a))] = ys ∧ ∀ d ∈ ys, Nr d := by
    refine ⟨_, rfl, fun d hd => ?_⟩
    simp only [List.mem_cons, List.not_mem_nil, or_false] at hd
    rcases hd with rfl | rfl | rfl | rfl | rfl | rfl | rfl | rfl | rfl
    · exact Nr_row
    · exact Nr_tup fun x hx => hel x (List.mem_reverse.1 hx)
    · exact Nr_nt (by simp [tyN]) rfl
    · exact Nr_tup fun x hx => hel x (List.mem_of_mem_drop hx)
    · refine Nr_tup fun x hx => ?_
      rcases List.mem_append.1 hx with hx | hx
      · exact hel x hx
      · rw [List.mem_singleton.1 hx]; exact tyN_int
    · exact Nr_nt (by simp [tyN]) rfl
    · exact Nr_tup fun x hx => by cases hx
    · exact Nr_nt (by simp [tyN]) rfl
    · exact hsw _ tyN_int
  have hyl : ys.length = 9 := by rw [← hys]; simp
  rw [hxs, hys]
  simp_arith
  refine ⟨sizeLine_le (by omega), ?_⟩
  have hNM : ∀ d ∈ ys ++ xs, Nr d := fun d hd => (List.mem_append.1 hd).elim (hM d) (hN d)
  generalize ys ++ xs = zs at hNM
  refine forL_ix zs (fun i env => env = [.ow .m m3, .fz (nD p), .fz (rowD a), .fz (rowD b), .fz (rowD (a.map (M0.st b))), .fz (tabD (cycs p a p)), .fz (rowD (kindOf (cycs p a p))), .fz (rowD (inv a)), .fz (nD j), .ow .l (.lst ys), .no, .no, .no, .no, .no]) ?_ ?_ _ rfl
  · rintro i d _ hi rfl
    have hd := hNM d (List.mem_of_getElem? hi)
    obtain ⟨o, hv⟩ := VP_total (p := p) d
    obtain ⟨s, hs1, hs2⟩ := told_repr h8 hv
    simp_arith [fault_eq h1 h8 hd hv, told_eq h1 h8 hd hv, hs1]
    cases o with
    | none =>
      simp only [toldD] at hs1
      simp_arith [faultD, hs1, hs2]
    | some x =>
      simp only [toldD] at hs1
      simp_arith [faultD, hs1, hs2]
  · rintro _ rfl
    exact ⟨m3, rfl, MW_le hm3 (by omega)⟩
end K04
namespace K04
theorem needperm_bad {d x : D} (h : tyN d ≠ none) (hb : inB 1 8 d = false) : WF (f_need_perm [d, x]) (fun _ _ => False) (fun e io => e = ⟨"BadNumber", d⟩) := by
  unfold f_need_perm
  rw [wf_run]
  simp_arith
  refine (points_bad h hb).mono (fun _ _ z => z.elim) ?_
  rintro _ _ ⟨rfl, rfl⟩
  simp_arith
theorem permthen_bad {d x y : D} (h : tyN d ≠ none) (hb : inB 1 8 d = false) : WF (f_perm_then [d, x, y]) (fun _ _ => False) (fun e io => e = ⟨"BadNumber", d⟩) := by
  unfold f_perm_then
  rw [wf_run]
  simp_arith
  refine (needperm_bad h hb).mono (fun _ _ z => z.elim) ?_
  rintro _ _ rfl
  simp_arith
theorem inverse_bad {d x : D} (h : tyN d ≠ none) (hb : inB 1 8 d = false) : WF (f_perm_inverse [d, x]) (fun _ _ => False) (fun e io => e = ⟨"BadNumber", d⟩) := by
  unfold f_perm_inverse
  rw [wf_run]
  simp_arith
  refine (needperm_bad h hb).mono (fun _ _ z => z.elim) ?_
  rintro _ _ rfl
  simp_arith
theorem cyclesof_bad {d x : D} (h : tyN d ≠ none) (hb : inB 1 8 d = false) : WF (f_cycles_of [d, x]) (fun _ _ => False) (fun e io => e = ⟨"BadNumber", d⟩) := by
  unfold f_cycles_of
  rw [wf_run]
  simp_arith
  refine (needperm_bad h hb).mono (fun _ _ z => z.elim) ?_
  rintro _ _ rfl
  simp_arith
theorem typeof_bad {d x : D} (h : tyN d ≠ none) (hb : inB 1 8 d = false) : WF (f_type_of_perm [d, x]) (fun _ _ => False) (fun e io => e = ⟨"BadNumber", d⟩) := by
  unfold f_type_of_perm
  rw [wf_run]
  simp_arith
  refine (needperm_bad h hb).mono (fun _ _ z => z.elim) ?_
  rintro _ _ rfl
  simp_arith
theorem tg_number {d : D} : thGo tl__law_refusal ⟨"BadNumber", d⟩ = some (.tup [.str "number", d]) := by kernel_rfl
theorem tg_perm {d : D} : thGo tl__law_refusal ⟨"BadPerm", d⟩ = some (.tup [.str "perm", d]) := by kernel_rfl
theorem e5 : f_perm_then [.int 3, .tup [.int 0, .int 1], .non] = .ex ⟨"BadPerm", .non⟩ none := by kernel_rfl
theorem e6 : f_perm_then [.int 3, .tup [.int 0, .int 1, .int 2], .tup [.int 0, .int 0, .int 3]] = .ex ⟨"BadPerm", .int 1⟩ none := by kernel_rfl
theorem e7 : f_perm_inverse [.int 3, .tup [.int 0, .int 1, .int 3]] = .ex ⟨"BadPerm", .int 2⟩ none := by kernel_rfl
theorem e8 : f_cycles_of [.int 2, .tup [.bl true, .int 0]] = .ex ⟨"BadPerm", .int 0⟩ none := by kernel_rfl
theorem e9 : f_type_of_perm [.int 2, .lst [.int 0, .int 1]] = .ex ⟨"BadPerm", .non⟩ none := by kernel_rfl
theorem f1 : f_cycles_of [.int 5, .tup [.int 2, .int 1, .int 4, .int 3, .int 0]] = .ok (.fz (.tup [.tup [.int 0, .int 2, .int 4], .tup [.int 1], .tup [.int 3]])) none := by kernel_rfl
theorem f2 : f_type_of_perm [.int 5, .tup [.int 2, .int 1, .int 4, .int 3, .int 0]] = .ok (.fz (.tup [.int 3, .int 1, .int 1])) none := by
  unfold f_type_of_perm f_type_by
  rw [oSorted_eq]
  kernel_rfl
theorem f3 : f_perm_then [.int 3, .tup [.int 1, .int 2, .int 0], .tup [.int 1, .int 0, .int 2]] = .ok (.fz (.tup [.int 0, .int 2, .int 1])) none := by kernel_rfl
theorem f4 : f__law_like 12 [.tup [.tup [.tup [.int 0, .int 2, .int 4], .tup [.int 1], .tup [.int 3]], .tup [.int 3, .int 1, .int 1], .tup [.int 0, .int 2, .int 1]], .tup [.tup [.tup [.int 0, .int 2, .int 4], .tup [.int 1], .tup [.int 3]], .tup [.int 3, .int 1, .int 1], .tup [.int 0, .int 2, .int 1]]] = .ok (.fz (.bl true)) none := by kernel_rfl
theorem bads {d : D} (h : d ∈ [D.int 0, .int 9, .bl true, .non, .str "3", .int (-1)]) : tyN d ≠ none ∧ inB 1 8 d = false ∧ ∃ s : Str, oRepr [.tup [.str "number", d]] = .val (.str s) ∧ PyData.strOk s = true := by
  have s1 : SHW 59 100 (.str "number") := shw_str (by decide +kernel) ⟨by decide +kernel, by decide +kernel⟩
  simp only [List.mem_cons, List.not_mem_nil, or_false] at h
  rcases h with rfl | rfl | rfl | rfl | rfl | rfl
  · exact ⟨by simp [tyN], by decide, repr_pair s1 ((shw_nat (i := 0) (by decide)).le (by decide)) (by decide)⟩
  · exact ⟨by simp [tyN], by decide, repr_pair s1 ((shw_nat (i := 9) (by decide)).le (by decide)) (by decide)⟩
  · exact ⟨by simp [tyN], by decide, repr_pair s1 (shw_bl.le (by decide)) (by decide)⟩
  · exact ⟨by simp [tyN], by decide, repr_pair s1 (shw_non.le (by decide)) (by decide)⟩
  · exact ⟨by simp [tyN], by decide, repr_pair s1 (shw_str (by decide +kernel) ⟨by decide +kernel, by decide +kernel⟩) (by decide)⟩
  · exact ⟨by simp [tyN], by decide, repr_pair s1 ⟨pl_int, by decide +kernel, ⟨by decide +kernel, by decide +kernel⟩⟩ (by decide)⟩
theorem law_true (ns : List Int) (hl : ns.length ≤ 63) : f_law [.lst (ns.map D.int)] = .ok (.fz (.bl true)) none := by
  unfold f_law
  refine un_c fun C => ?_
  rw [wf_eq, wf_run]
  simp_arith
  refine begun_w.mono ?_ fun _ _ z => z.elim
  rintro _ _ ⟨m, rfl, hm⟩
  simp_arith
  refine ⟨by decide, ?_⟩
  obtain ⟨sc, hsc⟩ : ∃ sc : D, sc = .lst (ns.map D.int) := ⟨_, rfl⟩
  rw [← hsc]
  refine forL_ix (nL (List.range 4)) (fun i env => ∃ m, env = [.fz sc, .ow .m m, .no, .no, .no, .no, .no] ∧ MW (100 * i) m) ?_ ?_ _ ⟨m, rfl, hm⟩
  · rintro i d _ hi ⟨m, rfl, hm⟩
    have hi4 : i < 4 := by
      have := (List.getElem?_eq_some_iff.1 hi).1
      simpa using this
    simp_arith
    refine (next_w hm (by omega) (by omega) (by omega)).mono ?_ fun _ _ z => z.elim
    rintro _ _ ⟨r, m1, rfl, rfl, h2, h3, hm1⟩
    obtain ⟨j, rfl⟩ := Int.eq_ofNat_of_zero_le h2
    simp_arith
    rw [show (1 : Int) + (j : Int) = ((1 + j : Nat) : Int) by omega]
    refine (right_w hm1 (by omega) (by omega) (by omega)).mono ?_ fun _ _ z => z.elim
    rintro _ _ ⟨rfl, m2, rfl, hm2⟩
    simp_arith
    refine (next_w hm2 (by omega) (by omega) (by omega)).mono ?_ fun _ _ z => z.elim
    rintro _ _ ⟨r, m3, rfl, rfl, h4, h5, hm3⟩
    obtain ⟨k, rfl⟩ := Int.eq_ofNat_of_zero_le h4
    simp_arith
    rw [show (1 : Int) + (k : Int) = ((1 + k : Nat) : Int) by omega]
    refine (right_w hm3 (by omega) (by omega) (by omega)).mono ?_ fun _ _ z => z.elim
    rintro _ _ ⟨rfl, m4, rfl, hm4⟩
    simp_arith
    exact ⟨m4, rfl, MW_le hm4 (by omega)⟩
  · rintro _ ⟨m, rfl, hm⟩
    simp_arith
    obtain ⟨xs, hxs⟩ : ∃ xs : List D, xs = [D.int 0, .int 9, .bl true, .non, .str "3", .int (-1)] := ⟨_, rfl⟩
    have hbad : ∀ d ∈ xs, tyN d ≠ none ∧ inB 1 8 d = false ∧ ∃ s : Str, oRepr [.tup [.str "number", d]] = .val (.str s) ∧ PyData.strOk s = true := fun d hd => bads (hxs ▸ hd)
    rw [← hxs]
    refine forL_ix xs (fun i env => env = [.fz sc, .ow .m m, .no, .no, .no, .no, .no]) ?_ ?_ _ rfl
    · rintro i d _ hi rfl
      obtain ⟨h1, h2, s, h3, h4⟩ := hbad d (List.mem_of_getElem? hi)
      simp_arith
      refine ⟨sizeLine_le (by decide), ?_⟩
      refine wr_comp_fmD (fun _ => none) rfl (fun x hx => ?_) ?_
      · simp only [List.mem_cons, List.not_mem_nil, or_false] at hx
        rcases hx with rfl | rfl | rfl | rfl | rfl
        · simp_arith
          refine (needperm_bad h1 h2).mono (fun _ _ z => z.elim) ?_
          rintro _ _ rfl
          simp_arith [tg_number, h3, h4]
        · simp_arith
          refine (permthen_bad h1 h2).mono (fun _ _ z => z.elim) ?_
          rintro _ _ rfl
          simp_arith [tg_number, h3, h4]
        · simp_arith
          refine (inverse_bad h1 h2).mono (fun _ _ z => z.elim) ?_
          rintro _ _ rfl
          simp_arith [tg_number, h3, h4]
        · simp_arith
          refine (cyclesof_bad h1 h2).mono (fun _ _ z => z.elim) ?_
          rintro _ _ rfl
          simp_arith [tg_number, h3, h4]
        · simp_arith
          refine (typeof_bad h1 h2).mono (fun _ _ z => z.elim) ?_
          rintro _ _ rfl
          simp_arith [tg_number, h3, h4]
      · have hnil : ∀ l : List D, List.filterMap (fun _ => (none : Option D)) l = [] := fun l => by simp
        rw [hnil]
        simp_arith [decide_true]
    · rintro _ rfl
      have dt : deq (.lst [D.tup [.str "perm", .non], .tup [.str "perm", .int 1], .tup [.str "perm", .int 2], .tup [.str "perm", .int 0], .tup [.str "perm", .non]]) (.lst [D.tup [.str "perm", .non], .tup [.str "perm", .int 1], .tup [.str "perm", .int 2], .tup [.str "perm", .int 0], .tup [.str "perm", .non]]) = true := by decide +kernel
      have so : PyData.strOk (Str.ofString "perm") = true := by decide +kernel
      have sz : 5 ≤ sizeLine := sizeLine_le (by decide)
      simp_arith [e5, e6, e7, e8, e9, tg_perm, dt, so, f1, f2, f3, f4, sz]
end K04
namespace K04
abbrev si_BadNumber : Stmt := match topS 3 with | .ClassDef _ _ _ b _ _ _ _ _ _ _ => b.getD 0 (.Pass ⟨0, 0, 0, 0⟩) | s => s
abbrev si_BadPerm : Stmt := match topS 2 with | .ClassDef _ _ _ b _ _ _ _ _ _ _ => b.getD 0 (.Pass ⟨0, 0, 0, 0⟩) | s => s
@[reducible] def ttK (P_law : Addr) : TabList := ⟨[(P_law, (("law.<locals>." : Str) ++ "<lambda>" : Str))], fun i => [lam_0, lam_1, lam_2, lam_3, lam_4, lam_5, lam_6, lam_7, lam_8, lam_9].getD i lam_0⟩
theorem all_mk {w : World} {K : PySem.W.Frag} {h : Heap} {mg : Str → Option Value} {fa : Addr} (X : K.In h) (G : h.Ns mainGlobals mg) (hfa : mg "law" = some (.ref fa)) (own : ∀ x ∈ (["law"] : List Str), ∀ fx, mg x = some (.ref fx) → LamX.OwnTab K fx h)
    {ad_is_number : Addr} {od_is_number an_is_number : Option Addr} {sl_is_number : Array (Option Value)} {oc_is_number kV_is_number dc_is_number pm_is_number cd_is_number ct_is_number : Value}
    {ad_is_among : Addr} {od_is_among an_is_among : Option Addr} {sl_is_among : Array (Option Value)} {oc_is_among kV_is_among dc_is_among pm_is_among cd_is_among ct_is_among : Value}
    {ad_is_tuple_of : Addr} {od_is_tuple_of an_is_tuple_of : Option Addr} {sl_is_tuple_of : Array (Option Value)} {oc_is_tuple_of kV_is_tuple_of dc_is_tuple_of pm_is_tuple_of cd_is_tuple_of ct_is_tuple_of : Value}
    {ad_need_points : Addr} {od_need_points an_need_points : Option Addr} {sl_need_points : Array (Option Value)} {oc_need_points kV_need_points dc_need_points pm_need_points cd_need_points ct_need_points : Value}
    {ad_need_perm : Addr} {od_need_perm an_need_perm : Option Addr} {sl_need_perm : Array (Option Value)} {oc_need_perm kV_need_perm dc_need_perm pm_need_perm cd_need_perm ct_need_perm : Value}
    {ad_then_by : Addr} {od_then_by an_then_by : Option Addr} {sl_then_by : Array (Option Value)} {oc_then_by kV_then_by dc_then_by pm_then_by cd_then_by ct_then_by : Value}
    {ad_perm_then : Addr} {od_perm_then an_perm_then : Option Addr} {sl_perm_then : Array (Option Value)} {oc_perm_then kV_perm_then dc_perm_then pm_perm_then cd_perm_then ct_perm_then : Value}
    {ad_back_by : Addr} {od_back_by an_back_by : Option Addr} {sl_back_by : Array (Option Value)} {oc_back_by kV_back_by dc_back_by pm_back_by cd_back_by ct_back_by : Value}
    {ad_perm_inverse : Addr} {od_perm_inverse an_perm_inverse : Option Addr} {sl_perm_inverse : Array (Option Value)} {oc_perm_inverse kV_perm_inverse dc_perm_inverse pm_perm_inverse cd_perm_inverse ct_perm_inverse : Value}
    {ad_cycles_by : Addr} {od_cycles_by an_cycles_by : Option Addr} {sl_cycles_by : Array (Option Value)} {oc_cycles_by kV_cycles_by dc_cycles_by pm_cycles_by cd_cycles_by ct_cycles_by : Value}
    {ad_cycles_of : Addr} {od_cycles_of an_cycles_of : Option Addr} {sl_cycles_of : Array (Option Value)} {oc_cycles_of kV_cycles_of dc_cycles_of pm_cycles_of cd_cycles_of ct_cycles_of : Value}
    {ad_type_by : Addr} {od_type_by an_type_by : Option Addr} {sl_type_by : Array (Option Value)} {oc_type_by kV_type_by dc_type_by pm_type_by cd_type_by ct_type_by : Value}
    {ad_type_of_perm : Addr} {od_type_of_perm an_type_of_perm : Option Addr} {sl_type_of_perm : Array (Option Value)} {oc_type_of_perm kV_type_of_perm dc_type_of_perm pm_type_of_perm cd_type_of_perm ct_type_of_perm : Value}
    {ad__law_begun : Addr} {od__law_begun an__law_begun : Option Addr} {sl__law_begun : Array (Option Value)} {oc__law_begun kV__law_begun dc__law_begun pm__law_begun cd__law_begun ct__law_begun : Value}
    {ad__law_next : Addr} {od__law_next an__law_next : Option Addr} {sl__law_next : Array (Option Value)} {oc__law_next kV__law_next dc__law_next pm__law_next cd__law_next ct__law_next : Value}
    {ad__law_like : Addr} {od__law_like an__law_like : Option Addr} {sl__law_like : Array (Option Value)} {oc__law_like kV__law_like dc__law_like pm__law_like cd__law_like ct__law_like : Value}
    {ad__law_then : Addr} {od__law_then an__law_then : Option Addr} {sl__law_then : Array (Option Value)} {oc__law_then kV__law_then dc__law_then pm__law_then cd__law_then ct__law_then : Value}
    {ad__law_perm : Addr} {od__law_perm an__law_perm : Option Addr} {sl__law_perm : Array (Option Value)} {oc__law_perm kV__law_perm dc__law_perm pm__law_perm cd__law_perm ct__law_perm : Value}
    {ad__law_is_whole : Addr} {od__law_is_whole an__law_is_whole : Option Addr} {sl__law_is_whole : Array (Option Value)} {oc__law_is_whole kV__law_is_whole dc__law_is_whole pm__law_is_whole cd__law_is_whole ct__law_is_whole : Value}
    {ad__law_cycles : Addr} {od__law_cycles an__law_cycles : Option Addr} {sl__law_cycles : Array (Option Value)} {oc__law_cycles kV__law_cycles dc__law_cycles pm__law_cycles cd__law_cycles ct__law_cycles : Value}
    {ad__law_fault : Addr} {od__law_fault an__law_fault : Option Addr} {sl__law_fault : Array (Option Value)} {oc__law_fault kV__law_fault dc__law_fault pm__law_fault cd__law_fault ct__law_fault : Value}
    {ad__law_told : Addr} {od__law_told an__law_told : Option Addr} {sl__law_told : Array (Option Value)} {oc__law_told kV__law_told dc__law_told pm__law_told cd__law_told ct__law_told : Value}
    {ad__law_right : Addr} {od__law_right an__law_right : Option Addr} {sl__law_right : Array (Option Value)} {oc__law_right kV__law_right dc__law_right pm__law_right cd__law_right ct__law_right : Value}
    {ad__law_refusal : Addr} {od__law_refusal an__law_refusal : Option Addr} {sl__law_refusal : Array (Option Value)} {oc__law_refusal kV__law_refusal dc__law_refusal pm__law_refusal cd__law_refusal ct__law_refusal : Value}
    {ad_law : Addr} {od_law an_law : Option Addr} {sl_law : Array (Option Value)} {oc_law kV_law dc_law pm_law  ct_law : Value} {cda_law : Addr}
    {t_MOST_POINTS : Tok}
    {C_BadNumber fI_BadNumber cda_BadNumber cc_BadNumber D_BadNumber : Addr} {odI_BadNumber anI_BadNumber : Option Addr} {slI_BadNumber : Array (Option Value)} {ocI_BadNumber kVI_BadNumber dcI_BadNumber pmI_BadNumber ctI_BadNumber : Value} {ccl_BadNumber cl_BadNumber : Value} {vsC_BadNumber : Array Value} {cdd_BadNumber cld_BadNumber : Option Addr} {ccs_BadNumber csl_BadNumber : Array (Option Value)} {file_BadNumber : Str} {tf_BadNumber : Tok} {nm_BadNumber q_BadNumber : Str} {N_BadNumber : Addr} {bs_BadNumber bm_BadNumber : List Value} {sn_BadNumber : List Str} {sub_BadNumber : List Value} {ab_BadNumber : Bool} {col_BadNumber : Option Bool} {dd_BadNumber : Option Addr} {m0_BadNumber m1_BadNumber m2_BadNumber m3_BadNumber m5_BadNumber : Option Value} {cdD_BadNumber : PySem.ClassData}
    {C_BadPerm fI_BadPerm cda_BadPerm cc_BadPerm D_BadPerm : Addr} {odI_BadPerm anI_BadPerm : Option Addr} {slI_BadPerm : Array (Option Value)} {ocI_BadPerm kVI_BadPerm dcI_BadPerm pmI_BadPerm ctI_BadPerm : Value} {ccl_BadPerm cl_BadPerm : Value} {vsC_BadPerm : Array Value} {cdd_BadPerm cld_BadPerm : Option Addr} {ccs_BadPerm csl_BadPerm : Array (Option Value)} {file_BadPerm : Str} {tf_BadPerm : Tok} {nm_BadPerm q_BadPerm : Str} {N_BadPerm : Addr} {bs_BadPerm bm_BadPerm : List Value} {sn_BadPerm : List Str} {sub_BadPerm : List Value} {ab_BadPerm : Bool} {col_BadPerm : Option Bool} {dd_BadPerm : Option Addr} {m0_BadPerm m1_BadPerm m2_BadPerm m3_BadPerm m5_BadPerm : Option Value} {cdD_BadPerm : PySem.ClassData}
    (a_is_number : PySem.W.nsIn K mainGlobals "is_number" = some (some (.ref ad_is_number)))
    (l_is_number : K.lookup ad_is_number = some ⟨oc_is_number, od_is_number, .func (PySem.W.fnOf "is_number" "is_number" (defArgs s_is_number) (defBody s_is_number) (defScope s_is_number) .none kV_is_number dc_is_number pm_is_number an_is_number cd_is_number ct_is_number), sl_is_number⟩)
    (c_is_number : PySem.W.codeIn K cd_is_number "is_number" = true)
    (k_is_number : PySem.W.keepIn K (.ref ad_is_number) = true)
    (a_is_among : PySem.W.nsIn K mainGlobals "is_among" = some (some (.ref ad_is_among)))
    (l_is_among : K.lookup ad_is_among = some ⟨oc_is_among, od_is_among, .func (PySem.W.fnOf "is_among" "is_among" (defArgs s_is_among) (defBody s_is_among) (defScope s_is_among) .none kV_is_among dc_is_among pm_is_among an_is_among cd_is_among ct_is_among), sl_is_among⟩)
    (c_is_among : PySem.W.codeIn K cd_is_among "is_among" = true)
    (k_is_among : PySem.W.keepIn K (.ref ad_is_among) = true)
    (a_is_tuple_of : PySem.W.nsIn K mainGlobals "is_tuple_of" = some (some (.ref ad_is_tuple_of)))
    (l_is_tuple_of : K.lookup ad_is_tuple_of = some ⟨oc_is_tuple_of, od_is_tuple_of, .func (PySem.W.fnOf "is_tuple_of" "is_tuple_of" (defArgs s_is_tuple_of) (defBody s_is_tuple_of) (defScope s_is_tuple_of) .none kV_is_tuple_of dc_is_tuple_of pm_is_tuple_of an_is_tuple_of cd_is_tuple_of ct_is_tuple_of), sl_is_tuple_of⟩)
    (c_is_tuple_of : PySem.W.codeIn K cd_is_tuple_of "is_tuple_of" = true)
    (k_is_tuple_of : PySem.W.keepIn K (.ref ad_is_tuple_of) = true)
    (a_need_points : PySem.W.nsIn K mainGlobals "need_points" = some (some (.ref ad_need_points)))
    (l_need_points : K.lookup ad_need_points = some ⟨oc_need_points, od_need_points, .func (PySem.W.fnOf "need_points" "need_points" (defArgs s_need_points) (defBody s_need_points) (defScope s_need_points) .none kV_need_points dc_need_points pm_need_points an_need_points cd_need_points ct_need_points), sl_need_points⟩)
    (c_need_points : PySem.W.codeIn K cd_need_points "need_points" = true)
    (k_need_points : PySem.W.keepIn K (.ref ad_need_points) = true)
    (a_need_perm : PySem.W.nsIn K mainGlobals "need_perm" = some (some (.ref ad_need_perm)))
    (l_need_perm : K.lookup ad_need_perm = some ⟨oc_need_perm, od_need_perm, .func (PySem.W.fnOf "need_perm" "need_perm" (defArgs s_need_perm) (defBody s_need_perm) (defScope s_need_perm) .none kV_need_perm dc_need_perm pm_need_perm an_need_perm cd_need_perm ct_need_perm), sl_need_perm⟩)
    (c_need_perm : PySem.W.codeIn K cd_need_perm "need_perm" = true)
    (k_need_perm : PySem.W.keepIn K (.ref ad_need_perm) = true)
    (a_then_by : PySem.W.nsIn K mainGlobals "then_by" = some (some (.ref ad_then_by)))
    (l_then_by : K.lookup ad_then_by = some ⟨oc_then_by, od_then_by, .func (PySem.W.fnOf "then_by" "then_by" (defArgs s_then_by) (defBody s_then_by) (defScope s_then_by) .none kV_then_by dc_then_by pm_then_by an_then_by cd_then_by ct_then_by), sl_then_by⟩)
    (c_then_by : PySem.W.codeIn K cd_then_by "then_by" = true)
    (k_then_by : PySem.W.keepIn K (.ref ad_then_by) = true)
    (a_perm_then : PySem.W.nsIn K mainGlobals "perm_then" = some (some (.ref ad_perm_then)))
    (l_perm_then : K.lookup ad_perm_then = some ⟨oc_perm_then, od_perm_then, .func (PySem.W.fnOf "perm_then" "perm_then" (defArgs s_perm_then) (defBody s_perm_then) (defScope s_perm_then) .none kV_perm_then dc_perm_then pm_perm_then an_perm_then cd_perm_then ct_perm_then), sl_perm_then⟩)
    (c_perm_then : PySem.W.codeIn K cd_perm_then "perm_then" = true)
    (k_perm_then : PySem.W.keepIn K (.ref ad_perm_then) = true)
    (a_back_by : PySem.W.nsIn K mainGlobals "back_by" = some (some (.ref ad_back_by)))
    (l_back_by : K.lookup ad_back_by = some ⟨oc_back_by, od_back_by, .func (PySem.W.fnOf "back_by" "back_by" (defArgs s_back_by) (defBody s_back_by) (defScope s_back_by) .none kV_back_by dc_back_by pm_back_by an_back_by cd_back_by ct_back_by), sl_back_by⟩)
    (c_back_by : PySem.W.codeIn K cd_back_by "back_by" = true)
    (k_back_by : PySem.W.keepIn K (.ref ad_back_by) = true)
    (a_perm_inverse : PySem.W.nsIn K mainGlobals "perm_inverse" = some (some (.ref ad_perm_inverse)))
    (l_perm_inverse : K.lookup ad_perm_inverse = some ⟨oc_perm_inverse, od_perm_inverse, .func (PySem.W.fnOf "perm_inverse" "perm_inverse" (defArgs s_perm_inverse) (defBody s_perm_inverse) (defScope s_perm_inverse) .none kV_perm_inverse dc_perm_inverse pm_perm_inverse an_perm_inverse cd_perm_inverse ct_perm_inverse), sl_perm_inverse⟩)
    (c_perm_inverse : PySem.W.codeIn K cd_perm_inverse "perm_inverse" = true)
    (k_perm_inverse : PySem.W.keepIn K (.ref ad_perm_inverse) = true)
    (a_cycles_by : PySem.W.nsIn K mainGlobals "cycles_by" = some (some (.ref ad_cycles_by)))
    (l_cycles_by : K.lookup ad_cycles_by = some ⟨oc_cycles_by, od_cycles_by, .func (PySem.W.fnOf "cycles_by" "cycles_by" (defArgs s_cycles_by) (defBody s_cycles_by) (defScope s_cycles_by) .none kV_cycles_by dc_cycles_by pm_cycles_by an_cycles_by cd_cycles_by ct_cycles_by), sl_cycles_by⟩)
    (c_cycles_by : PySem.W.codeIn K cd_cycles_by "cycles_by" = true)
    (k_cycles_by : PySem.W.keepIn K (.ref ad_cycles_by) = true)
    (a_cycles_of : PySem.W.nsIn K mainGlobals "cycles_of" = some (some (.ref ad_cycles_of)))
    (l_cycles_of : K.lookup ad_cycles_of = some ⟨oc_cycles_of, od_cycles_of, .func (PySem.W.fnOf "cycles_of" "cycles_of" (defArgs s_cycles_of) (defBody s_cycles_of) (defScope s_cycles_of) .none kV_cycles_of dc_cycles_of pm_cycles_of an_cycles_of cd_cycles_of ct_cycles_of), sl_cycles_of⟩)
    (c_cycles_of : PySem.W.codeIn K cd_cycles_of "cycles_of" = true)
    (k_cycles_of : PySem.W.keepIn K (.ref ad_cycles_of) = true)
    (a_type_by : PySem.W.nsIn K mainGlobals "type_by" = some (some (.ref ad_type_by)))
    (l_type_by : K.lookup ad_type_by = some ⟨oc_type_by, od_type_by, .func (PySem.W.fnOf "type_by" "type_by" (defArgs s_type_by) (defBody s_type_by) (defScope s_type_by) .none kV_type_by dc_type_by pm_type_by an_type_by cd_type_by ct_type_by), sl_type_by⟩)
    (c_type_by : PySem.W.codeIn K cd_type_by "type_by" = true)
    (k_type_by : PySem.W.keepIn K (.ref ad_type_by) = true)
    (a_type_of_perm : PySem.W.nsIn K mainGlobals "type_of_perm" = some (some (.ref ad_type_of_perm)))
    (l_type_of_perm : K.lookup ad_type_of_perm = some ⟨oc_type_of_perm, od_type_of_perm, .func (PySem.W.fnOf "type_of_perm" "type_of_perm" (defArgs s_type_of_perm) (defBody s_type_of_perm) (defScope s_type_of_perm) .none kV_type_of_perm dc_type_of_perm pm_type_of_perm an_type_of_perm cd_type_of_perm ct_type_of_perm), sl_type_of_perm⟩)
    (c_type_of_perm : PySem.W.codeIn K cd_type_of_perm "type_of_perm" = true)
    (k_type_of_perm : PySem.W.keepIn K (.ref ad_type_of_perm) = true)
    (a__law_begun : PySem.W.nsIn K mainGlobals "_law_begun" = some (some (.ref ad__law_begun)))
    (l__law_begun : K.lookup ad__law_begun = some ⟨oc__law_begun, od__law_begun, .func (PySem.W.fnOf "_law_begun" "_law_begun" (defArgs s__law_begun) (defBody s__law_begun) (defScope s__law_begun) .none kV__law_begun dc__law_begun pm__law_begun an__law_begun cd__law_begun ct__law_begun), sl__law_begun⟩)
    (c__law_begun : PySem.W.codeIn K cd__law_begun "_law_begun" = true)
    (k__law_begun : PySem.W.keepIn K (.ref ad__law_begun) = true)
    (a__law_next : PySem.W.nsIn K mainGlobals "_law_next" = some (some (.ref ad__law_next)))
    (l__law_next : K.lookup ad__law_next = some ⟨oc__law_next, od__law_next, .func (PySem.W.fnOf "_law_next" "_law_next" (defArgs s__law_next) (defBody s__law_next) (defScope s__law_next) .none kV__law_next dc__law_next pm__law_next an__law_next cd__law_next ct__law_next), sl__law_next⟩)
    (c__law_next : PySem.W.codeIn K cd__law_next "_law_next" = true)
    (k__law_next : PySem.W.keepIn K (.ref ad__law_next) = true)
    (a__law_like : PySem.W.nsIn K mainGlobals "_law_like" = some (some (.ref ad__law_like)))
    (l__law_like : K.lookup ad__law_like = some ⟨oc__law_like, od__law_like, .func (PySem.W.fnOf "_law_like" "_law_like" (defArgs s__law_like) (defBody s__law_like) (defScope s__law_like) .none kV__law_like dc__law_like pm__law_like an__law_like cd__law_like ct__law_like), sl__law_like⟩)
    (c__law_like : PySem.W.codeIn K cd__law_like "_law_like" = true)
    (k__law_like : PySem.W.keepIn K (.ref ad__law_like) = true)
    (a__law_then : PySem.W.nsIn K mainGlobals "_law_then" = some (some (.ref ad__law_then)))
    (l__law_then : K.lookup ad__law_then = some ⟨oc__law_then, od__law_then, .func (PySem.W.fnOf "_law_then" "_law_then" (defArgs s__law_then) (defBody s__law_then) (defScope s__law_then) .none kV__law_then dc__law_then pm__law_then an__law_then cd__law_then ct__law_then), sl__law_then⟩)
    (c__law_then : PySem.W.codeIn K cd__law_then "_law_then" = true)
    (k__law_then : PySem.W.keepIn K (.ref ad__law_then) = true)
    (a__law_perm : PySem.W.nsIn K mainGlobals "_law_perm" = some (some (.ref ad__law_perm)))
    (l__law_perm : K.lookup ad__law_perm = some ⟨oc__law_perm, od__law_perm, .func (PySem.W.fnOf "_law_perm" "_law_perm" (defArgs s__law_perm) (defBody s__law_perm) (defScope s__law_perm) .none kV__law_perm dc__law_perm pm__law_perm an__law_perm cd__law_perm ct__law_perm), sl__law_perm⟩)
    (c__law_perm : PySem.W.codeIn K cd__law_perm "_law_perm" = true)
    (k__law_perm : PySem.W.keepIn K (.ref ad__law_perm) = true)
    (a__law_is_whole : PySem.W.nsIn K mainGlobals "_law_is_whole" = some (some (.ref ad__law_is_whole)))
    (l__law_is_whole : K.lookup ad__law_is_whole = some ⟨oc__law_is_whole, od__law_is_whole, .func (PySem.W.fnOf "_law_is_whole" "_law_is_whole" (defArgs s__law_is_whole) (defBody s__law_is_whole) (defScope s__law_is_whole) .none kV__law_is_whole dc__law_is_whole pm__law_is_whole an__law_is_whole cd__law_is_whole ct__law_is_whole), sl__law_is_whole⟩)
    (c__law_is_whole : PySem.W.codeIn K cd__law_is_whole "_law_is_whole" = true)
    (k__law_is_whole : PySem.W.keepIn K (.ref ad__law_is_whole) = true)
    (a__law_cycles : PySem.W.nsIn K mainGlobals "_law_cycles" = some (some (.ref ad__law_cycles)))
    (l__law_cycles : K.lookup ad__law_cycles = some ⟨oc__law_cycles, od__law_cycles, .func (PySem.W.fnOf "_law_cycles" "_law_cycles" (defArgs s__law_cycles) (defBody s__law_cycles) (defScope s__law_cycles) .none kV__law_cycles dc__law_cycles pm__law_cycles an__law_cycles cd__law_cycles ct__law_cycles), sl__law_cycles⟩)
    (c__law_cycles : PySem.W.codeIn K cd__law_cycles "_law_cycles" = true)
    (k__law_cycles : PySem.W.keepIn K (.ref ad__law_cycles) = true)
    (a__law_fault : PySem.W.nsIn K mainGlobals "_law_fault" = some (some (.ref ad__law_fault)))
    (l__law_fault : K.lookup ad__law_fault = some ⟨oc__law_fault, od__law_fault, .func (PySem.W.fnOf "_law_fault" "_law_fault" (defArgs s__law_fault) (defBody s__law_fault) (defScope s__law_fault) .none kV__law_fault dc__law_fault pm__law_fault an__law_fault cd__law_fault ct__law_fault), sl__law_fault⟩)
    (c__law_fault : PySem.W.codeIn K cd__law_fault "_law_fault" = true)
    (k__law_fault : PySem.W.keepIn K (.ref ad__law_fault) = true)
    (a__law_told : PySem.W.nsIn K mainGlobals "_law_told" = some (some (.ref ad__law_told)))
    (l__law_told : K.lookup ad__law_told = some ⟨oc__law_told, od__law_told, .func (PySem.W.fnOf "_law_told" "_law_told" (defArgs s__law_told) (defBody s__law_told) (defScope s__law_told) .none kV__law_told dc__law_told pm__law_told an__law_told cd__law_told ct__law_told), sl__law_told⟩)
    (c__law_told : PySem.W.codeIn K cd__law_told "_law_told" = true)
    (k__law_told : PySem.W.keepIn K (.ref ad__law_told) = true)
    (a__law_right : PySem.W.nsIn K mainGlobals "_law_right" = some (some (.ref ad__law_right)))
    (l__law_right : K.lookup ad__law_right = some ⟨oc__law_right, od__law_right, .func (PySem.W.fnOf "_law_right" "_law_right" (defArgs s__law_right) (defBody s__law_right) (defScope s__law_right) .none kV__law_right dc__law_right pm__law_right an__law_right cd__law_right ct__law_right), sl__law_right⟩)
    (c__law_right : PySem.W.codeIn K cd__law_right "_law_right" = true)
    (k__law_right : PySem.W.keepIn K (.ref ad__law_right) = true)
    (a__law_refusal : PySem.W.nsIn K mainGlobals "_law_refusal" = some (some (.ref ad__law_refusal)))
    (l__law_refusal : K.lookup ad__law_refusal = some ⟨oc__law_refusal, od__law_refusal, .func (PySem.W.fnOf "_law_refusal" "_law_refusal" (defArgs s__law_refusal) (defBody s__law_refusal) (defScope s__law_refusal) .none kV__law_refusal dc__law_refusal pm__law_refusal an__law_refusal cd__law_refusal ct__law_refusal), sl__law_refusal⟩)
    (c__law_refusal : PySem.W.codeIn K cd__law_refusal "_law_refusal" = true)
    (k__law_refusal : PySem.W.keepIn K (.ref ad__law_refusal) = true)
    (a_law : PySem.W.nsIn K mainGlobals "law" = some (some (.ref ad_law)))
    (l_law : K.lookup ad_law = some ⟨oc_law, od_law, .func (PySem.W.fnOf "law" "law" (defArgs s_law) (defBody s_law) (defScope s_law) .none kV_law dc_law pm_law an_law (.ref cda_law) ct_law), sl_law⟩)
    (c_law : PySem.W.codeIn K (.ref cda_law) "law" = true)
    (th_law : PySem.W.codeHdIn K cda_law (He.tabOf K cda_law) = true)
    (tn_law : (K.lookup (He.tabOf K cda_law)).isNone = true)
    (k_law : PySem.W.keepIn K (.ref ad_law) = true)
    (ms_MOST_POINTS : PySem.W.nsIn K mainGlobals "MOST_POINTS" = some (some (.int 8 t_MOST_POINTS)))
    (nb_len : PySem.W.nsIn K mainGlobals "len" = some none)
    (nb_range : PySem.W.nsIn K mainGlobals "range" = some none)
    (nb_enumerate : PySem.W.nsIn K mainGlobals "enumerate" = some none)
    (nb_zip : PySem.W.nsIn K mainGlobals "zip" = some none)
    (nb_tuple : PySem.W.nsIn K mainGlobals "tuple" = some none)
    (nb_list : PySem.W.nsIn K mainGlobals "list" = some none)
    (nb_dict : PySem.W.nsIn K mainGlobals "dict" = some none)
    (nb_sorted : PySem.W.nsIn K mainGlobals "sorted" = some none)
    (nb_isinstance : PySem.W.nsIn K mainGlobals "isinstance" = some none)
    (nb_int : PySem.W.nsIn K mainGlobals "int" = some none)
    (nb_bool : PySem.W.nsIn K mainGlobals "bool" = some none)
    (nb_str : PySem.W.nsIn K mainGlobals "str" = some none)
    (nb_any : PySem.W.nsIn K mainGlobals "any" = some none)
    (nb_all : PySem.W.nsIn K mainGlobals "all" = some none)
    (nb_sum : PySem.W.nsIn K mainGlobals "sum" = some none)
    (nb_max : PySem.W.nsIn K mainGlobals "max" = some none)
    (nb_min : PySem.W.nsIn K mainGlobals "min" = some none)
    (nb_abs : PySem.W.nsIn K mainGlobals "abs" = some none)
    (nb_repr : PySem.W.nsIn K mainGlobals "repr" = some none)
    (xa_BadNumber : PySem.W.nsIn K mainGlobals "BadNumber" = some (some (.ref C_BadNumber)))
    (xl_BadNumber : K.lookup C_BadNumber = some (excClassObj nm_BadNumber q_BadNumber C_BadNumber N_BadNumber bs_BadNumber bm_BadNumber true sn_BadNumber sub_BadNumber ab_BadNumber col_BadNumber dd_BadNumber m0_BadNumber m1_BadNumber m2_BadNumber m3_BadNumber m5_BadNumber "ValueError.__new__"))
    (xbm_BadNumber : PySem.HandSPX.refsVE bm_BadNumber = true)
    (xsa_BadNumber : PySem.W.findIn K (.ref C_BadNumber) "__setattr__" = some (some (.builtin "object.__setattr__")))
    (xeC_BadNumber : PySem.W.subIn K (.ref C_BadNumber) (.type "BaseException") = some true)
    (xtC_BadNumber : PySem.W.typeIn K (.ref C_BadNumber) = some (.type "type"))
    (xkC_BadNumber : PySem.W.keepIn K (.ref C_BadNumber) = true)
    (xiC_BadNumber : PySem.W.findIn K (.ref C_BadNumber) "__init__" = some (some (.ref fI_BadNumber)))
    (xtI_BadNumber : PySem.W.typeIn K (.ref fI_BadNumber) = some (.type "function"))
    (xlI_BadNumber : K.lookup fI_BadNumber = some ⟨ocI_BadNumber, odI_BadNumber, .func (PySem.W.fnX "__init__" "BadNumber.__init__" (defArgs si_BadNumber) (defBody si_BadNumber) (defScope si_BadNumber) [("__class__", cc_BadNumber)] .none kVI_BadNumber dcI_BadNumber pmI_BadNumber anI_BadNumber (.ref cda_BadNumber) ctI_BadNumber), slI_BadNumber⟩)
    (xcI_BadNumber : PySem.W.codeIn K (.ref cda_BadNumber) "BadNumber.__init__" = true)
    (xlc_BadNumber : K.lookup cda_BadNumber = some ⟨ccl_BadNumber, cdd_BadNumber, .fields vsC_BadNumber, ccs_BadNumber⟩)
    (xhv_BadNumber : vsC_BadNumber[2]? = some (.str file_BadNumber tf_BadNumber))
    (xhf_BadNumber : ((PySem.Challenge.pw_groupsheets_k04_whole_permutations.main.file : Str) == file_BadNumber) = true)
    (xcc_BadNumber : K.lookup cc_BadNumber = some ⟨cl_BadNumber, cld_BadNumber, .cell (some (.ref D_BadNumber)), csl_BadNumber⟩)
    (xhD_BadNumber : PySem.W.clsIn K D_BadNumber = some cdD_BadNumber)
    (xhs_BadNumber : PySem.W.mroIn K C_BadNumber (.ref D_BadNumber) = some true)
    (xsu_BadNumber : PySem.W.ks_superIn K C_BadNumber D_BadNumber "__init__" = some (some (.builtin "ValueError.__init__")))
    (xhB_BadNumber : PySem.W.subIn K (.ref C_BadNumber) (.type "ValueError") = some true)
    (xhno_BadNumber : PySem.W.findIn K (.ref C_BadNumber) "value" = some none)
    (xga_BadNumber : PySem.W.findIn K (.ref C_BadNumber) "__getattribute__" = some (some (.builtin "BaseException.__getattribute__")))
    (xgg_BadNumber : PySem.W.findIn K (.ref C_BadNumber) "__getattr__" = some none)
    (xhd_BadNumber : PySem.W.hasDictIn K C_BadNumber = true)
    (xii_BadNumber : PySem.W.isClsIn K C_BadNumber = true)
    (xss_BadNumber : PySem.W.subIn K (.ref C_BadNumber) (.ref C_BadNumber) = some true)
    (xa_BadPerm : PySem.W.nsIn K mainGlobals "BadPerm" = some (some (.ref C_BadPerm)))
    (xl_BadPerm : K.lookup C_BadPerm = some (excClassObj nm_BadPerm q_BadPerm C_BadPerm N_BadPerm bs_BadPerm bm_BadPerm true sn_BadPerm sub_BadPerm ab_BadPerm col_BadPerm dd_BadPerm m0_BadPerm m1_BadPerm m2_BadPerm m3_BadPerm m5_BadPerm "ValueError.__new__"))
    (xbm_BadPerm : PySem.HandSPX.refsVE bm_BadPerm = true)
    (xsa_BadPerm : PySem.W.findIn K (.ref C_BadPerm) "__setattr__" = some (some (.builtin "object.__setattr__")))
    (xeC_BadPerm : PySem.W.subIn K (.ref C_BadPerm) (.type "BaseException") = some true)
    (xtC_BadPerm : PySem.W.typeIn K (.ref C_BadPerm) = some (.type "type"))
    (xkC_BadPerm : PySem.W.keepIn K (.ref C_BadPerm) = true)
    (xiC_BadPerm : PySem.W.findIn K (.ref C_BadPerm) "__init__" = some (some (.ref fI_BadPerm)))
    (xtI_BadPerm : PySem.W.typeIn K (.ref fI_BadPerm) = some (.type "function"))
    (xlI_BadPerm : K.lookup fI_BadPerm = some ⟨ocI_BadPerm, odI_BadPerm, .func (PySem.W.fnX "__init__" "BadPerm.__init__" (defArgs si_BadPerm) (defBody si_BadPerm) (defScope si_BadPerm) [("__class__", cc_BadPerm)] .none kVI_BadPerm dcI_BadPerm pmI_BadPerm anI_BadPerm (.ref cda_BadPerm) ctI_BadPerm), slI_BadPerm⟩)
    (xcI_BadPerm : PySem.W.codeIn K (.ref cda_BadPerm) "BadPerm.__init__" = true)
    (xlc_BadPerm : K.lookup cda_BadPerm = some ⟨ccl_BadPerm, cdd_BadPerm, .fields vsC_BadPerm, ccs_BadPerm⟩)
    (xhv_BadPerm : vsC_BadPerm[2]? = some (.str file_BadPerm tf_BadPerm))
    (xhf_BadPerm : ((PySem.Challenge.pw_groupsheets_k04_whole_permutations.main.file : Str) == file_BadPerm) = true)
    (xcc_BadPerm : K.lookup cc_BadPerm = some ⟨cl_BadPerm, cld_BadPerm, .cell (some (.ref D_BadPerm)), csl_BadPerm⟩)
    (xhD_BadPerm : PySem.W.clsIn K D_BadPerm = some cdD_BadPerm)
    (xhs_BadPerm : PySem.W.mroIn K C_BadPerm (.ref D_BadPerm) = some true)
    (xsu_BadPerm : PySem.W.ks_superIn K C_BadPerm D_BadPerm "__init__" = some (some (.builtin "ValueError.__init__")))
    (xhB_BadPerm : PySem.W.subIn K (.ref C_BadPerm) (.type "ValueError") = some true)
    (xhno_BadPerm : PySem.W.findIn K (.ref C_BadPerm) "place" = some none)
    (xga_BadPerm : PySem.W.findIn K (.ref C_BadPerm) "__getattribute__" = some (some (.builtin "BaseException.__getattribute__")))
    (xgg_BadPerm : PySem.W.findIn K (.ref C_BadPerm) "__getattr__" = some none)
    (xhd_BadPerm : PySem.W.hasDictIn K C_BadPerm = true)
    (xii_BadPerm : PySem.W.isClsIn K C_BadPerm = true)
    (xss_BadPerm : PySem.W.subIn K (.ref C_BadPerm) (.ref C_BadPerm) = some true)
    (xns_BadPerm_BadNumber : PySem.W.subIn K (.ref C_BadPerm) (.ref C_BadNumber) = some false)
    (xns_BadNumber_BadPerm : PySem.W.subIn K (.ref C_BadNumber) (.ref C_BadPerm) = some false)
    (hop : PySem.W.nsIn K PySem.cStatics "thirdparty.any" = some none)
    (nsu : PySem.W.nsIn K mainGlobals "super" = some none)
    (nl : noL K = true) :
    (∀ b o, K.lookup b = some o → o.cls ≠ .type "list") ∧ ∃ (tt : TabList) (cs : List (Addr × Addr)) (fd : FuncData), TabIn K h cs ∧ (∀ p ∈ tt.T, ∃ q ∈ cs, q.2 = p.1) ∧ (∀ (s : Shared) (u : Value), BindsTo s fd ⟨[u], []⟩ [("script", u)]) ∧
      ∀ base : Heap, K.In base → base.Ns mainGlobals mg → (∀ p ∈ cs, LamX.TabB base mg p.1 p.2) → FnOkG PySem.Challenge.pw_groupsheets_k04_whole_permutations w K mg base (L2.CX PySem.Challenge.pw_groupsheets_k04_whole_permutations w) 15 fa fd ["script"] (@spF tt (@mkB tt K mg) 1 none f_law) := by
  cases hfa.symm.trans (PySem.W.mg_of X G a_law)
  have nb : NB mg := ⟨PySem.W.mg_none_of X G nb_len, PySem.W.mg_none_of X G nb_range, PySem.W.mg_none_of X G nb_enumerate, PySem.W.mg_none_of X G nb_zip, PySem.W.mg_none_of X G nb_tuple, PySem.W.mg_none_of X G nb_list, PySem.W.mg_none_of X G nb_dict, PySem.W.mg_none_of X G nb_sorted, PySem.W.mg_none_of X G nb_isinstance, PySem.W.mg_none_of X G nb_int, PySem.W.mg_none_of X G nb_bool, PySem.W.mg_none_of X G nb_str, PySem.W.mg_none_of X G nb_any, PySem.W.mg_none_of X G nb_all, PySem.W.mg_none_of X G nb_sum, PySem.W.mg_none_of X G nb_max, PySem.W.mg_none_of X G nb_min, PySem.W.mg_none_of X G nb_abs, PySem.W.mg_none_of X G nb_repr⟩
  have F_is_number := fun_mk (st := s_is_number) l_is_number c_is_number k_is_number
  have b_is_number := F_is_number.binds (ps := ["thing"]) fun _ _ _ _ _ _ us hl => match us, hl with | [_], _ => rfl
  have F_is_among := fun_mk (st := s_is_among) l_is_among c_is_among k_is_among
  have b_is_among := F_is_among.binds (ps := ["thing", "least", "most"]) fun _ _ _ _ _ _ us hl => match us, hl with | [_, _, _], _ => rfl
  have F_is_tuple_of := fun_mk (st := s_is_tuple_of) l_is_tuple_of c_is_tuple_of k_is_tuple_of
  have b_is_tuple_of := F_is_tuple_of.binds (ps := ["thing", "least", "most"]) fun _ _ _ _ _ _ us hl => match us, hl with | [_, _, _], _ => rfl
  have F_need_points := fun_mk (st := s_need_points) l_need_points c_need_points k_need_points
  have b_need_points := F_need_points.binds (ps := ["points"]) fun _ _ _ _ _ _ us hl => match us, hl with | [_], _ => rfl
  have F_need_perm := fun_mk (st := s_need_perm) l_need_perm c_need_perm k_need_perm
  have b_need_perm := F_need_perm.binds (ps := ["points", "perm"]) fun _ _ _ _ _ _ us hl => match us, hl with | [_, _], _ => rfl
  have F_then_by := fun_mk (st := s_then_by) l_then_by c_then_by k_then_by
  have b_then_by := F_then_by.binds (ps := ["one", "other"]) fun _ _ _ _ _ _ us hl => match us, hl with | [_, _], _ => rfl
  have F_perm_then := fun_mk (st := s_perm_then) l_perm_then c_perm_then k_perm_then
  have b_perm_then := F_perm_then.binds (ps := ["points", "one", "other"]) fun _ _ _ _ _ _ us hl => match us, hl with | [_, _, _], _ => rfl
  have F_back_by := fun_mk (st := s_back_by) l_back_by c_back_by k_back_by
  have b_back_by := F_back_by.binds (ps := ["perm"]) fun _ _ _ _ _ _ us hl => match us, hl with | [_], _ => rfl
  have F_perm_inverse := fun_mk (st := s_perm_inverse) l_perm_inverse c_perm_inverse k_perm_inverse
  have b_perm_inverse := F_perm_inverse.binds (ps := ["points", "perm"]) fun _ _ _ _ _ _ us hl => match us, hl with | [_, _], _ => rfl
  have F_cycles_by := fun_mk (st := s_cycles_by) l_cycles_by c_cycles_by k_cycles_by
  have b_cycles_by := F_cycles_by.binds (ps := ["perm"]) fun _ _ _ _ _ _ us hl => match us, hl with | [_], _ => rfl
  have F_cycles_of := fun_mk (st := s_cycles_of) l_cycles_of c_cycles_of k_cycles_of
  have b_cycles_of := F_cycles_of.binds (ps := ["points", "perm"]) fun _ _ _ _ _ _ us hl => match us, hl with | [_, _], _ => rfl
  have F_type_by := fun_mk (st := s_type_by) l_type_by c_type_by k_type_by
  have b_type_by := F_type_by.binds (ps := ["perm"]) fun _ _ _ _ _ _ us hl => match us, hl with | [_], _ => rfl
  have F_type_of_perm := fun_mk (st := s_type_of_perm) l_type_of_perm c_type_of_perm k_type_of_perm
  have b_type_of_perm := F_type_of_perm.binds (ps := ["points", "perm"]) fun _ _ _ _ _ _ us hl => match us, hl with | [_, _], _ => rfl
  have F__law_begun := fun_mk (st := s__law_begun) l__law_begun c__law_begun k__law_begun
  have b__law_begun := F__law_begun.binds (ps := ["script"]) fun _ _ _ _ _ _ us hl => match us, hl with | [_], _ => rfl
  have F__law_next := fun_mk (st := s__law_next) l__law_next c__law_next k__law_next
  have b__law_next := F__law_next.binds (ps := ["m", "many"]) fun _ _ _ _ _ _ us hl => match us, hl with | [_, _], _ => rfl
  have F__law_like := fun_mk (st := s__law_like) l__law_like c__law_like k__law_like
  have b__law_like := F__law_like.binds (ps := ["got", "due"]) fun _ _ _ _ _ _ us hl => match us, hl with | [_, _], _ => rfl
  have F__law_then := fun_mk (st := s__law_then) l__law_then c__law_then k__law_then
  have b__law_then := F__law_then.binds (ps := ["one", "other"]) fun _ _ _ _ _ _ us hl => match us, hl with | [_, _], _ => rfl
  have F__law_perm := fun_mk (st := s__law_perm) l__law_perm c__law_perm k__law_perm
  have b__law_perm := F__law_perm.binds (ps := ["m", "points"]) fun _ _ _ _ _ _ us hl => match us, hl with | [_, _], _ => rfl
  have F__law_is_whole := fun_mk (st := s__law_is_whole) l__law_is_whole c__law_is_whole k__law_is_whole
  have b__law_is_whole := F__law_is_whole.binds (ps := ["thing", "least", "most"]) fun _ _ _ _ _ _ us hl => match us, hl with | [_, _, _], _ => rfl
  have F__law_cycles := fun_mk (st := s__law_cycles) l__law_cycles c__law_cycles k__law_cycles
  have b__law_cycles := F__law_cycles.binds (ps := ["perm"]) fun _ _ _ _ _ _ us hl => match us, hl with | [_], _ => rfl
  have F__law_fault := fun_mk (st := s__law_fault) l__law_fault c__law_fault k__law_fault
  have b__law_fault := F__law_fault.binds (ps := ["points", "thing"]) fun _ _ _ _ _ _ us hl => match us, hl with | [_, _], _ => rfl
  have F__law_told := fun_mk (st := s__law_told) l__law_told c__law_told k__law_told
  have b__law_told := F__law_told.binds (ps := ["points", "thing"]) fun _ _ _ _ _ _ us hl => match us, hl with | [_, _], _ => rfl
  have F__law_right := fun_mk (st := s__law_right) l__law_right c__law_right k__law_right
  have b__law_right := F__law_right.binds (ps := ["m", "points"]) fun _ _ _ _ _ _ us hl => match us, hl with | [_, _], _ => rfl
  have F__law_refusal := fun_mk (st := s__law_refusal) l__law_refusal c__law_refusal k__law_refusal
  have b__law_refusal := F__law_refusal.binds (ps := ["ask"]) fun _ _ _ _ _ _ us hl => match us, hl with | [_], _ => rfl
  have F_law := fun_mk (st := s_law) l_law c_law k_law
  have b_law := F_law.binds (ps := ["script"]) fun _ _ _ _ _ _ us hl => match us, hl with | [_], _ => rfl
  letI : TabList := (ttK (He.tabOf K cda_law))
  refine ⟨noL_ok nl, (ttK (He.tabOf K cda_law)), [(cda_law, He.tabOf K cda_law)], PySem.W.fnOf "law" "law" (defArgs s_law) (defBody s_law) (defScope s_law) .none kV_law dc_law pm_law an_law (.ref cda_law) ct_law, (tabIn_cons X (own _ (by simp) _ (PySem.W.mg_of X G a_law)) l_law rfl th_law tn_law tabIn_nil), ?_, fun s v => .of_eq rfl, fun base KB GB TB => ?_⟩
  · intro p hp; have hp : p ∈ ([(He.tabOf K cda_law, (("law.<locals>." : Str) ++ "<lambda>" : Str))] : List (Addr × Str)) := hp; simp only [List.mem_cons, List.not_mem_nil, or_false] at hp; rcases hp with rfl <;> first | exact ⟨(cda_law, He.tabOf K cda_law), by simp, rfl⟩
  letI : TabList := (ttK (He.tabOf K cda_law))
  have LT_law : LamTb mg base (PySem.W.fnOf "law" "law" (defArgs s_law) (defBody s_law) (defScope s_law) .none kV_law dc_law pm_law an_law (.ref cda_law) ct_law) "law.<locals>." := ⟨cda_law, He.tabOf K cda_law, rfl, TB (cda_law, He.tabOf K cda_law) (by simp), (by show _ ∈ ([(He.tabOf K cda_law, (("law.<locals>." : Str) ++ "<lambda>" : Str))] : List (Addr × Str)); simp), (fun p hp _ => by have hp : p ∈ ([(He.tabOf K cda_law, (("law.<locals>." : Str) ++ "<lambda>" : Str))] : List (Addr × Str)) := hp; simp only [List.mem_cons, List.not_mem_nil, or_false] at hp; rw [hp])⟩
  have hm_BadNumber : mg "BadNumber" = some (.ref C_BadNumber) := PySem.W.mg_of X G xa_BadNumber
  have T_BadNumber : OexC K C_BadNumber := ⟨⟨_, _, _, _, _, _, _, _, _, _, _, _, _, _, _, xl_BadNumber, xbm_BadNumber⟩, xsa_BadNumber, xeC_BadNumber, xtC_BadNumber, xkC_BadNumber⟩
  let x_BadNumber : ExF PySem.Challenge.pw_groupsheets_k04_whole_permutations w K mg base "BadNumber" := ⟨C_BadNumber, fI_BadNumber, _, ["self", "value"], hm_BadNumber, T_BadNumber, xiC_BadNumber, xtI_BadNumber, fn_init (P := PySem.Challenge.pw_groupsheets_k04_whole_permutations) (mg := mg) (base := base) (k := 1) T_BadNumber xlI_BadNumber xcI_BadNumber rfl rfl xlc_BadNumber xhv_BadNumber xhf_BadNumber xcc_BadNumber xhD_BadNumber xhs_BadNumber (PySem.W.mg_none_of X G nsu) (by rfl) xsu_BadNumber xhB_BadNumber hop xhno_BadNumber rfl rfl rfl rfl (by decide) (by decide) (fun _ => rfl) (fun _ => rfl) (fun _ => rfl) rfl rfl rfl, .all fun us hl => (match us, hl with | [_, _], _ => rfl), ⟨xga_BadNumber, xgg_BadNumber, xeC_BadNumber, xhd_BadNumber⟩, xhno_BadNumber⟩
  have hm_BadPerm : mg "BadPerm" = some (.ref C_BadPerm) := PySem.W.mg_of X G xa_BadPerm
  have T_BadPerm : OexC K C_BadPerm := ⟨⟨_, _, _, _, _, _, _, _, _, _, _, _, _, _, _, xl_BadPerm, xbm_BadPerm⟩, xsa_BadPerm, xeC_BadPerm, xtC_BadPerm, xkC_BadPerm⟩
  let x_BadPerm : ExF PySem.Challenge.pw_groupsheets_k04_whole_permutations w K mg base "BadPerm" := ⟨C_BadPerm, fI_BadPerm, _, ["self", "place"], hm_BadPerm, T_BadPerm, xiC_BadPerm, xtI_BadPerm, fn_init (P := PySem.Challenge.pw_groupsheets_k04_whole_permutations) (mg := mg) (base := base) (k := 1) T_BadPerm xlI_BadPerm xcI_BadPerm rfl rfl xlc_BadPerm xhv_BadPerm xhf_BadPerm xcc_BadPerm xhD_BadPerm xhs_BadPerm (PySem.W.mg_none_of X G nsu) (by rfl) xsu_BadPerm xhB_BadPerm hop xhno_BadPerm rfl rfl rfl rfl (by decide) (by decide) (fun _ => rfl) (fun _ => rfl) (fun _ => rfl) rfl rfl rfl, .all fun us hl => (match us, hl with | [_, _], _ => rfl), ⟨xga_BadPerm, xgg_BadPerm, xeC_BadPerm, xhd_BadPerm⟩, xhno_BadPerm⟩
  let c_is_number : FnF PySem.Challenge.pw_groupsheets_k04_whole_permutations w K mg base 1 "is_number" ["thing"] none f_is_number := ⟨ad_is_number, _, ok_is_number F_is_number nb , PySem.W.mg_of X G a_is_number, k_is_number, b_is_number⟩
  let c_is_among : FnF PySem.Challenge.pw_groupsheets_k04_whole_permutations w K mg base 2 "is_among" ["thing", "least", "most"] none f_is_among := ⟨ad_is_among, _, ok_is_among F_is_among nb c_is_number, PySem.W.mg_of X G a_is_among, k_is_among, b_is_among⟩
  let c_is_tuple_of : FnF PySem.Challenge.pw_groupsheets_k04_whole_permutations w K mg base 1 "is_tuple_of" ["thing", "least", "most"] none f_is_tuple_of := ⟨ad_is_tuple_of, _, ok_is_tuple_of F_is_tuple_of nb , PySem.W.mg_of X G a_is_tuple_of, k_is_tuple_of, b_is_tuple_of⟩
  let c_need_points : FnF PySem.Challenge.pw_groupsheets_k04_whole_permutations w K mg base 4 "need_points" ["points"] none f_need_points := ⟨ad_need_points, _, ok_need_points F_need_points nb c_is_among x_BadNumber ⟨_, PySem.W.mg_of X G ms_MOST_POINTS⟩, PySem.W.mg_of X G a_need_points, k_need_points, b_need_points⟩
  let c_need_perm : FnF PySem.Challenge.pw_groupsheets_k04_whole_permutations w K mg base 5 "need_perm" ["points", "perm"] none f_need_perm := ⟨ad_need_perm, _, ok_need_perm F_need_perm nb c_need_points c_is_tuple_of c_is_among x_BadPerm, PySem.W.mg_of X G a_need_perm, k_need_perm, b_need_perm⟩
  let c_then_by : FnF PySem.Challenge.pw_groupsheets_k04_whole_permutations w K mg base 1 "then_by" ["one", "other"] none f_then_by := ⟨ad_then_by, _, ok_then_by F_then_by nb , PySem.W.mg_of X G a_then_by, k_then_by, b_then_by⟩
  let c_perm_then : FnF PySem.Challenge.pw_groupsheets_k04_whole_permutations w K mg base 6 "perm_then" ["points", "one", "other"] none f_perm_then := ⟨ad_perm_then, _, ok_perm_then F_perm_then nb c_need_perm c_then_by, PySem.W.mg_of X G a_perm_then, k_perm_then, b_perm_then⟩
  let c_back_by : FnF PySem.Challenge.pw_groupsheets_k04_whole_permutations w K mg base 1 "back_by" ["perm"] none f_back_by := ⟨ad_back_by, _, ok_back_by F_back_by nb , PySem.W.mg_of X G a_back_by, k_back_by, b_back_by⟩
  let c_perm_inverse : FnF PySem.Challenge.pw_groupsheets_k04_whole_permutations w K mg base 6 "perm_inverse" ["points", "perm"] none f_perm_inverse := ⟨ad_perm_inverse, _, ok_perm_inverse F_perm_inverse nb c_back_by c_need_perm, PySem.W.mg_of X G a_perm_inverse, k_perm_inverse, b_perm_inverse⟩
  let c_cycles_by : FnF PySem.Challenge.pw_groupsheets_k04_whole_permutations w K mg base 1 "cycles_by" ["perm"] none f_cycles_by := ⟨ad_cycles_by, _, ok_cycles_by F_cycles_by nb , PySem.W.mg_of X G a_cycles_by, k_cycles_by, b_cycles_by⟩
  let c_cycles_of : FnF PySem.Challenge.pw_groupsheets_k04_whole_permutations w K mg base 6 "cycles_of" ["points", "perm"] none f_cycles_of := ⟨ad_cycles_of, _, ok_cycles_of F_cycles_of nb c_cycles_by c_need_perm, PySem.W.mg_of X G a_cycles_of, k_cycles_of, b_cycles_of⟩
  let c_type_by : FnF PySem.Challenge.pw_groupsheets_k04_whole_permutations w K mg base 2 "type_by" ["perm"] none f_type_by := ⟨ad_type_by, _, ok_type_by F_type_by nb c_cycles_by, PySem.W.mg_of X G a_type_by, k_type_by, b_type_by⟩
  let c_type_of_perm : FnF PySem.Challenge.pw_groupsheets_k04_whole_permutations w K mg base 6 "type_of_perm" ["points", "perm"] none f_type_of_perm := ⟨ad_type_of_perm, _, ok_type_of_perm F_type_of_perm nb c_type_by c_need_perm, PySem.W.mg_of X G a_type_of_perm, k_type_of_perm, b_type_of_perm⟩
  let c__law_begun : FnF PySem.Challenge.pw_groupsheets_k04_whole_permutations w K mg base 1 "_law_begun" ["script"] none f__law_begun := ⟨ad__law_begun, _, ok__law_begun F__law_begun nb , PySem.W.mg_of X G a__law_begun, k__law_begun, b__law_begun⟩
  let c__law_next : FnF PySem.Challenge.pw_groupsheets_k04_whole_permutations w K mg base 1 "_law_next" ["m", "many"] (some .m) f__law_next := ⟨ad__law_next, _, ok__law_next F__law_next nb , PySem.W.mg_of X G a__law_next, k__law_next, b__law_next⟩
  let c__law_like : FnF PySem.Challenge.pw_groupsheets_k04_whole_permutations w K mg base 13 "_law_like" ["got", "due"] none (f__law_like 12) := ⟨ad__law_like, _, ok__law_like F__law_like (PySem.W.mg_of X G a__law_like) b__law_like nb  12, PySem.W.mg_of X G a__law_like, k__law_like, b__law_like⟩
  let c__law_then : FnF PySem.Challenge.pw_groupsheets_k04_whole_permutations w K mg base 1 "_law_then" ["one", "other"] none f__law_then := ⟨ad__law_then, _, ok__law_then F__law_then nb , PySem.W.mg_of X G a__law_then, k__law_then, b__law_then⟩
  let c__law_perm : FnF PySem.Challenge.pw_groupsheets_k04_whole_permutations w K mg base 2 "_law_perm" ["m", "points"] (some .m) f__law_perm := ⟨ad__law_perm, _, ok__law_perm F__law_perm nb c__law_next, PySem.W.mg_of X G a__law_perm, k__law_perm, b__law_perm⟩
  let c__law_is_whole : FnF PySem.Challenge.pw_groupsheets_k04_whole_permutations w K mg base 1 "_law_is_whole" ["thing", "least", "most"] none f__law_is_whole := ⟨ad__law_is_whole, _, ok__law_is_whole F__law_is_whole nb , PySem.W.mg_of X G a__law_is_whole, k__law_is_whole, b__law_is_whole⟩
  let c__law_cycles : FnF PySem.Challenge.pw_groupsheets_k04_whole_permutations w K mg base 1 "_law_cycles" ["perm"] none f__law_cycles := ⟨ad__law_cycles, _, ok__law_cycles F__law_cycles nb , PySem.W.mg_of X G a__law_cycles, k__law_cycles, b__law_cycles⟩
  let c__law_fault : FnF PySem.Challenge.pw_groupsheets_k04_whole_permutations w K mg base 2 "_law_fault" ["points", "thing"] none f__law_fault := ⟨ad__law_fault, _, ok__law_fault F__law_fault nb c__law_is_whole, PySem.W.mg_of X G a__law_fault, k__law_fault, b__law_fault⟩
  have kw_need_perm__law_told : KwOk K c_need_perm.fd ["points", "perm"] ["perm", "points"] [1, 0] := ⟨fun s ws _ hl => (match ws, hl with | [_, _], _ => .of_eq rfl), by decide, rfl⟩
  let c__law_told : FnF PySem.Challenge.pw_groupsheets_k04_whole_permutations w K mg base 6 "_law_told" ["points", "thing"] none f__law_told := ⟨ad__law_told, _, ok__law_told F__law_told nb c_need_perm x_BadPerm kw_need_perm__law_told (fun X1 hK hg => by subst hK hg; exact match_one hm_BadPerm (exm_one xeC_BadPerm xii_BadPerm xtC_BadPerm xss_BadPerm)), PySem.W.mg_of X G a__law_told, k__law_told, b__law_told⟩
  have kw_cycles_of__law_right : KwOk K c_cycles_of.fd ["points", "perm"] ["perm", "points"] [1, 0] := ⟨fun s ws _ hl => (match ws, hl with | [_, _], _ => .of_eq rfl), by decide, rfl⟩
  have kw_perm_inverse__law_right : KwOk K c_perm_inverse.fd ["points", "perm"] ["perm", "points"] [1, 0] := ⟨fun s ws _ hl => (match ws, hl with | [_, _], _ => .of_eq rfl), by decide, rfl⟩
  have kw_perm_then__law_right : KwOk K c_perm_then.fd ["points", "one", "other"] ["other", "one", "points"] [2, 1, 0] := ⟨fun s ws _ hl => (match ws, hl with | [_, _, _], _ => .of_eq rfl), by decide, rfl⟩
  have kw_type_of_perm__law_right : KwOk K c_type_of_perm.fd ["points", "perm"] ["perm", "points"] [1, 0] := ⟨fun s ws _ hl => (match ws, hl with | [_, _], _ => .of_eq rfl), by decide, rfl⟩
  let c__law_right : FnG PySem.Challenge.pw_groupsheets_k04_whole_permutations w K mg base 14 "_law_right" ["m", "points"] (some .m) f__law_right := ⟨ad__law_right, _, ok__law_right F__law_right nb c__law_perm c__law_cycles c__law_like c_perm_then c_cycles_of c_type_of_perm c_perm_inverse c__law_then c__law_next c__law_fault c__law_told kw_cycles_of__law_right kw_perm_inverse__law_right kw_perm_then__law_right kw_type_of_perm__law_right, PySem.W.mg_of X G a__law_right, k__law_right, b__law_right⟩
  let th__law_refusal : ThF K mg "_law_refusal" s__law_refusal "ask" := ⟨ad__law_refusal, _, F__law_refusal, b__law_refusal, PySem.W.mg_of X G a__law_refusal⟩
  exact ok_law F_law nb c__law_begun c__law_right c__law_next c__law_like c_cycles_of c_type_of_perm c_perm_then c_need_perm c_perm_inverse rfl rfl rfl rfl rfl rfl rfl rfl rfl rfl th__law_refusal x_BadPerm (fun X1 hK hg => by subst hK hg; exact (mt_cons hm_BadPerm (exm_two xeC_BadPerm xii_BadPerm xtC_BadPerm xss_BadPerm) (mt_cons hm_BadNumber (exm_two xeC_BadPerm xii_BadPerm xtC_BadPerm xns_BadNumber_BadPerm) mt_nil))) x_BadNumber (fun X1 hK hg => by subst hK hg; exact (mt_cons hm_BadNumber (exm_two xeC_BadNumber xii_BadNumber xtC_BadNumber xss_BadNumber) (mt_cons hm_BadPerm (exm_two xeC_BadNumber xii_BadNumber xtC_BadNumber xns_BadPerm_BadNumber) mt_nil))) LT_law
end K04
open PySem PySem.W PyProof.Rows
set_option maxHeartbeats 0 in
theorem PySem.Challenge.cw_groupsheets_k04_whole_permutations_holds : PySem.Challenge.rw_groupsheets_k04_whole_permutations.Holds := by
  w_on; o_law; k_head; (case hw => w_witness2)
  k_fill
  refine VL.walk_ofT (l := PySem.Challenge.rw_groupsheets_k04_whole_permutations) (n := 63) (k := 15) (x := "script") (rs := ["law"]) (F := K04.f_law) rfl (by decide) rfl ⟨rfl, by decide, by decide⟩ (fun w h Y => by first | exact PySem.W.km_in_of Y | exact PySem.W.kIn_of Y) (by decide +kernel) ?F (fun ns hl => K04.law_true ns hl)
  case F =>
    intro w mg fa h KX G hmg own
    refine' K04.all_mk KX G hmg own ?a_is_number ?l_is_number ?c_is_number ?k_is_number ?a_is_among ?l_is_among ?c_is_among ?k_is_among ?a_is_tuple_of ?l_is_tuple_of ?c_is_tuple_of ?k_is_tuple_of ?a_need_points ?l_need_points ?c_need_points ?k_need_points ?a_need_perm ?l_need_perm ?c_need_perm ?k_need_perm ?a_then_by ?l_then_by ?c_then_by ?k_then_by ?a_perm_then ?l_perm_then ?c_perm_then ?k_perm_then ?a_back_by ?l_back_by ?c_back_by ?k_back_by ?a_perm_inverse ?l_perm_inverse ?c_perm_inverse ?k_perm_inverse ?a_cycles_by ?l_cycles_by ?c_cycles_by ?k_cycles_by ?a_cycles_of ?l_cycles_of ?c_cycles_of ?k_cycles_of ?a_type_by ?l_type_by ?c_type_by ?k_type_by ?a_type_of_perm ?l_type_of_perm ?c_type_of_perm ?k_type_of_perm ?a__law_begun ?l__law_begun ?c__law_begun ?k__law_begun ?a__law_next ?l__law_next ?c__law_next ?k__law_next ?a__law_like ?l__law_like ?c__law_like ?k__law_like ?a__law_then ?l__law_then ?c__law_then ?k__law_then ?a__law_perm ?l__law_perm ?c__law_perm ?k__law_perm ?a__law_is_whole ?l__law_is_whole ?c__law_is_whole ?k__law_is_whole ?a__law_cycles ?l__law_cycles ?c__law_cycles ?k__law_cycles ?a__law_fault ?l__law_fault ?c__law_fault ?k__law_fault ?a__law_told ?l__law_told ?c__law_told ?k__law_told ?a__law_right ?l__law_right ?c__law_right ?k__law_right ?a__law_refusal ?l__law_refusal ?c__law_refusal ?k__law_refusal ?a_law ?l_law ?c_law ?th_law ?tn_law ?k_law ?ms_MOST_POINTS ?nb_len ?nb_range ?nb_enumerate ?nb_zip ?nb_tuple ?nb_list ?nb_dict ?nb_sorted ?nb_isinstance ?nb_int ?nb_bool ?nb_str ?nb_any ?nb_all ?nb_sum ?nb_max ?nb_min ?nb_abs ?nb_repr ?xa_BadNumber ?xl_BadNumber ?xbm_BadNumber ?xsa_BadNumber ?xeC_BadNumber ?xtC_BadNumber ?xkC_BadNumber ?xiC_BadNumber ?xtI_BadNumber ?xlI_BadNumber ?xcI_BadNumber ?xlc_BadNumber ?xhv_BadNumber ?xhf_BadNumber ?xcc_BadNumber ?xhD_BadNumber ?xhs_BadNumber ?xsu_BadNumber ?xhB_BadNumber ?xhno_BadNumber ?xga_BadNumber ?xgg_BadNumber ?xhd_BadNumber ?xii_BadNumber ?xss_BadNumber ?xa_BadPerm ?xl_BadPerm ?xbm_BadPerm ?xsa_BadPerm ?xeC_BadPerm ?xtC_BadPerm ?xkC_BadPerm ?xiC_BadPerm ?xtI_BadPerm ?xlI_BadPerm ?xcI_BadPerm ?xlc_BadPerm ?xhv_BadPerm ?xhf_BadPerm ?xcc_BadPerm ?xhD_BadPerm ?xhs_BadPerm ?xsu_BadPerm ?xhB_BadPerm ?xhno_BadPerm ?xga_BadPerm ?xgg_BadPerm ?xhd_BadPerm ?xii_BadPerm ?xss_BadPerm ?xns_BadPerm_BadNumber ?xns_BadNumber_BadPerm ?hop ?nsu ?nl
    (case a_is_number => k_is)
    (case l_is_number => k_is)
    (case c_is_number => k_is)
    (case k_is_number => k_is)
    (case a_is_among => k_is)
    (case l_is_among => k_is)
    (case c_is_among => k_is)
    (case k_is_among => k_is)
    (case a_is_tuple_of => k_is)
    (case l_is_tuple_of => k_is)
    (case c_is_tuple_of => k_is)
    (case k_is_tuple_of => k_is)
    (case a_need_points => k_is)
    (case l_need_points => k_is)
    (case c_need_points => k_is)
    (case k_need_points => k_is)
    (case a_need_perm => k_is)
    (case l_need_perm => k_is)
    (case c_need_perm => k_is)
    (case k_need_perm => k_is)
    (case a_then_by => k_is)
    (case l_then_by => k_is)
    (case c_then_by => k_is)
    (case k_then_by => k_is)
    (case a_perm_then => k_is)
    (case l_perm_then => k_is)
    (case c_perm_then => k_is)
    (case k_perm_then => k_is)
    (case a_back_by => k_is)
    (case l_back_by => k_is)
    (case c_back_by => k_is)
    (case k_back_by => k_is)
    (case a_perm_inverse => k_is)
    (case l_perm_inverse => k_is)
    (case c_perm_inverse => k_is)
    (case k_perm_inverse => k_is)
    (case a_cycles_by => k_is)
    (case l_cycles_by => k_is)
    (case c_cycles_by => k_is)
    (case k_cycles_by => k_is)
    (case a_cycles_of => k_is)
    (case l_cycles_of => k_is)
    (case c_cycles_of => k_is)
    (case k_cycles_of => k_is)
    (case a_type_by => k_is)
    (case l_type_by => k_is)
    (case c_type_by => k_is)
    (case k_type_by => k_is)
    (case a_type_of_perm => k_is)
    (case l_type_of_perm => k_is)
    (case c_type_of_perm => k_is)
    (case k_type_of_perm => k_is)
    (case a__law_begun => k_is)
    (case l__law_begun => k_is)
    (case c__law_begun => k_is)
    (case k__law_begun => k_is)
    (case a__law_next => k_is)
    (case l__law_next => k_is)
    (case c__law_next => k_is)
    (case k__law_next => k_is)
    (case a__law_like => k_is)
    (case l__law_like => k_is)
    (case c__law_like => k_is)
    (case k__law_like => k_is)
    (case a__law_then => k_is)
    (case l__law_then => k_is)
    (case c__law_then => k_is)
    (case k__law_then => k_is)
    (case a__law_perm => k_is)
    (case l__law_perm => k_is)
    (case c__law_perm => k_is)
    (case k__law_perm => k_is)
    (case a__law_is_whole => k_is)
    (case l__law_is_whole => k_is)
    (case c__law_is_whole => k_is)
    (case k__law_is_whole => k_is)
    (case a__law_cycles => k_is)
    (case l__law_cycles => k_is)
    (case c__law_cycles => k_is)
    (case k__law_cycles => k_is)
    (case a__law_fault => k_is)
    (case l__law_fault => k_is)
    (case c__law_fault => k_is)
    (case k__law_fault => k_is)
    (case a__law_told => k_is)
    (case l__law_told => k_is)
    (case c__law_told => k_is)
    (case k__law_told => k_is)
    (case a__law_right => k_is)
    (case l__law_right => k_is)
    (case c__law_right => k_is)
    (case k__law_right => k_is)
    (case a__law_refusal => k_is)
    (case l__law_refusal => k_is)
    (case c__law_refusal => k_is)
    (case k__law_refusal => k_is)
    (case a_law => k_is)
    (case l_law => k_is)
    (case c_law => k_is)
    (case th_law => kernel_rfl)
    (case tn_law => kernel_rfl)
    (case k_law => k_is)
    (case ms_MOST_POINTS => k_is)
    (case nb_len => k_is)
    (case nb_range => k_is)
    (case nb_enumerate => k_is)
    (case nb_zip => k_is)
    (case nb_tuple => k_is)
    (case nb_list => k_is)
    (case nb_dict => k_is)
    (case nb_sorted => k_is)
    (case nb_isinstance => k_is)
    (case nb_int => k_is)
    (case nb_bool => k_is)
    (case nb_str => k_is)
    (case nb_any => k_is)
    (case nb_all => k_is)
    (case nb_sum => k_is)
    (case nb_max => k_is)
    (case nb_min => k_is)
    (case nb_abs => k_is)
    (case nb_repr => k_is)
    (case xa_BadNumber => k_is)
    (case xl_BadNumber => k_is)
    (case xbm_BadNumber => decide +kernel)
    (case xsa_BadNumber => k_is)
    (case xeC_BadNumber => k_is)
    (case xtC_BadNumber => k_is)
    (case xkC_BadNumber => k_is)
    (case xiC_BadNumber => k_is)
    (case xtI_BadNumber => k_is)
    (case xlI_BadNumber => k_is)
    (case xcI_BadNumber => k_is)
    (case xlc_BadNumber => k_is)
    (case xhv_BadNumber => rfl)
    (case xhf_BadNumber => rfl)
    (case xcc_BadNumber => k_is)
    (case xhD_BadNumber => k_is)
    (case xhs_BadNumber => k_is)
    (case xsu_BadNumber => first | k_is | kernel_rfl)
    (case xhB_BadNumber => k_is)
    (case xhno_BadNumber => k_is)
    (case xga_BadNumber => k_is)
    (case xgg_BadNumber => k_is)
    (case xhd_BadNumber => k_is)
    (case xii_BadNumber => k_is)
    (case xss_BadNumber => first | rfl | k_is)
    (case xa_BadPerm => k_is)
    (case xl_BadPerm => k_is)
    (case xbm_BadPerm => decide +kernel)
    (case xsa_BadPerm => k_is)
    (case xeC_BadPerm => k_is)
    (case xtC_BadPerm => k_is)
    (case xkC_BadPerm => k_is)
    (case xiC_BadPerm => k_is)
    (case xtI_BadPerm => k_is)
    (case xlI_BadPerm => k_is)
    (case xcI_BadPerm => k_is)
    (case xlc_BadPerm => k_is)
    (case xhv_BadPerm => rfl)
    (case xhf_BadPerm => rfl)
    (case xcc_BadPerm => k_is)
    (case xhD_BadPerm => k_is)
    (case xhs_BadPerm => k_is)
    (case xsu_BadPerm => first | k_is | kernel_rfl)
    (case xhB_BadPerm => k_is)
    (case xhno_BadPerm => k_is)
    (case xga_BadPerm => k_is)
    (case xgg_BadPerm => k_is)
    (case xhd_BadPerm => k_is)
    (case xii_BadPerm => k_is)
    (case xss_BadPerm => first | rfl | k_is)
    (case xns_BadPerm_BadNumber => k_is)
    (case xns_BadNumber_BadPerm => k_is)
    (case hop => k_is)
    (case nsu => k_is)
    (case nl => kernel_rfl)

