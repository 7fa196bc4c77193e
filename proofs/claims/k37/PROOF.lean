import PyProof.Rows.All
import Wide.All
import OpenK.AllK
import Wide.FinOn
import HandS.ForMost
import HandS.ForExc
import KE.KExcSuper
import HandS.ExcInit
import HandS.ExcField
import HandS.TryMany
import PyProof.ZipIter
import HandS.Zip0
import HandS.IsInst
import HandS.Walk
import HandS.Defaults
import HandS.Lambda
import KE.KStateDown
import HandS.Head0
import HandS.Head1
import HandS.Head2
import HandS.HeadEnd
import HandS.HeadHook1
import HandS.HeadHook2
import HandS.HeadHook3
import HandS.HeadHook4
import HandS.HeadWalk
import PySem.Challenge.RW_wordvault_k37_whole_signs_put_and_struck
set_option linter.all false
namespace Hf
/-! ### sums of a function along a list, invariant under arrangement -/
theorem sum_perm {l m : List Int} (h : l.Perm m) : l.sum = m.sum := by
  induction h with
  | nil => rfl
  | cons x _ ih => rw [List.sum_cons, List.sum_cons, ih]
  | swap x y l => simp only [List.sum_cons]; omega
  | trans _ _ a b => exact a.trans b
theorem nsum_perm {l m : List Nat} (h : l.Perm m) : l.sum = m.sum := by
  induction h with
  | nil => rfl
  | cons x _ ih => rw [List.sum_cons, List.sum_cons, ih]
  | swap x y l => simp only [List.sum_cons]; omega
  | trans _ _ a b => exact a.trans b
theorem mem_perm {α : Type} [DecidableEq α] {l : List α} {a : α} (h : a ∈ l) : ∃ r, l.Perm (a :: r) := ⟨l.erase a, List.perm_cons_erase h⟩

/-! ### the least cost, as a relation: the two least are made one, again and again -/
inductive Huf : List Int → Int → Prop
  | one (x : Int) : Huf [x] 0
  | step {l : List Int} (a b : Int) (r : List Int) (c : Int) : l.Perm (a :: b :: r) → a ≤ b → (∀ x ∈ r, b ≤ x) → Huf ((a + b) :: r) c → Huf l (a + b + c)
theorem Huf.perm {l m : List Int} {c : Int} (h : Huf l c) (p : l.Perm m) : Huf m c := by
  cases h with
  | one x =>
    rw [List.perm_singleton.mp p.symm]
    exact .one x
  | step a b r c q h1 h2 h3 => exact .step a b r c (p.symm.trans q) h1 h2 h3
theorem least_eq {l r r' : List Int} {a a' : Int} (p : (a :: r).Perm (a' :: r')) (h : ∀ x ∈ r, a ≤ x) (h' : ∀ x ∈ r', a' ≤ x) : a = a' := by
  have m1 : a ∈ a' :: r' := p.subset List.mem_cons_self
  have m2 : a' ∈ a :: r := p.symm.subset List.mem_cons_self
  rcases List.mem_cons.mp m1 with e | m1
  · exact e
  rcases List.mem_cons.mp m2 with e | m2
  · exact e.symm
  have := h _ m2
  have := h' _ m1
  omega
theorem Huf.uniq {l : List Int} {c : Int} (h : Huf l c) : ∀ {m : List Int} {d : Int}, Huf m d → l.Perm m → c = d := by
  induction h with
  | one x =>
    intro m d k p
    cases k with
    | one y => rfl
    | step a b r c q _ _ _ =>
      have e := (p.trans q).length_eq
      simp at e
  | @step l a b r c q h1 h2 _ ih =>
    intro m d k p
    cases k with
    | one y =>
      have e := (q.symm.trans p).length_eq
      simp at e
    | step a' b' r' c' q' k1 k2 k3 =>
      have pp : (a :: b :: r).Perm (a' :: b' :: r') := q.symm.trans (p.trans q')
      have ea : a = a' := least_eq (l := []) pp (fun x hx => by
          rcases List.mem_cons.mp hx with e | hx
          · omega
          · have := h2 x hx; omega) (fun x hx => by
          rcases List.mem_cons.mp hx with e | hx
          · omega
          · have := k2 x hx; omega)
      subst ea
      have pp2 := List.Perm.cons_inv pp
      have eb : b = b' := least_eq (l := []) pp2 h2 k2
      subst eb
      have pp3 := List.Perm.cons_inv pp2
      rw [ih k3 (List.Perm.cons _ pp3)]
/-- with a zero more it is greater by the least one -/
theorem Huf.zero {l r : List Int} {c m : Int} (h : Huf l c) (p : l.Perm (m :: r)) (h0 : 0 ≤ m) (hm : ∀ x ∈ r, m ≤ x) : Huf (0 :: l) (m + c) := by
  have e : m + c = 0 + m + c := by omega
  rw [e]
  refine .step 0 m r c (List.Perm.cons _ p) h0 hm ?_
  rw [Int.zero_add]
  exact h.perm p
theorem Huf.zero_eq {l r g : List Int} {c d m : Int} (h : Huf l c) (p : l.Perm (m :: r)) (h0 : 0 ≤ m) (hm : ∀ x ∈ r, m ≤ x) (k : Huf g d) (pg : g.Perm (0 :: l)) : d = m + c :=
  (Huf.uniq k (h.zero p h0 hm) pg)
/-! ### codes by lengths: pairs (length, count) -/
abbrev PL := List (Nat × Int)
def cst (P : PL) : Int := (P.map fun p => (p.1 : Int) * p.2).sum
/-- the sum of 2 ^ (M - length) -/
def kr (M : Nat) (ls : List Nat) : Nat := (ls.map fun l => 2 ^ (M - l)).sum
def Kraft (ls : List Nat) : Prop := ∃ M, (∀ l ∈ ls, l ≤ M) ∧ kr M ls = 2 ^ M
theorem kr_cons (M l : Nat) (ls : List Nat) : kr M (l :: ls) = 2 ^ (M - l) + kr M ls := by simp [kr]
theorem kr_append (M : Nat) (a b : List Nat) : kr M (a ++ b) = kr M a + kr M b := by simp [kr]
theorem kr_perm {M : Nat} {a b : List Nat} (h : a.Perm b) : kr M a = kr M b := nsum_perm (h.map _)
theorem Kraft.perm {a b : List Nat} (k : Kraft a) (h : a.Perm b) : Kraft b := by
  obtain ⟨M, h1, h2⟩ := k
  exact ⟨M, fun l hl => h1 l (h.symm.subset hl), by rw [← kr_perm h, h2]⟩
theorem kr_scale {M N : Nat} (hN : M ≤ N) : ∀ {ls : List Nat}, (∀ l ∈ ls, l ≤ M) → kr N ls = 2 ^ (N - M) * kr M ls
  | [], _ => by simp [kr]
  | l :: ls, h => by
    rw [kr_cons, kr_cons, Nat.mul_add, kr_scale hN fun x hx => h x (List.mem_cons_of_mem _ hx), ← Nat.pow_add]
    have := h l List.mem_cons_self
    congr 2
    omega
theorem Kraft.at {ls : List Nat} (k : Kraft ls) {m : Nat} (hm : ∀ l ∈ ls, l ≤ m) : kr m ls = 2 ^ m := by
  obtain ⟨M, h1, h2⟩ := k
  rcases Nat.le_total M m with h | h
  · rw [kr_scale h h1, h2, ← Nat.pow_add]
    congr 1
    omega
  · have e := kr_scale h hm
    rw [h2] at e
    have e2 : (2 : Nat) ^ M = 2 ^ (M - m) * 2 ^ m := by
      rw [← Nat.pow_add]
      congr 1
      omega
    rw [e2] at e
    exact (Nat.eq_of_mul_eq_mul_left (Nat.pow_pos (by decide)) e).symm
theorem kr_even {m : Nat} : ∀ {ls : List Nat}, (∀ l ∈ ls, l < m) → kr m ls % 2 = 0
  | [], _ => by simp [kr]
  | l :: ls, h => by
    rw [kr_cons, Nat.add_mod, kr_even fun x hx => h x (List.mem_cons_of_mem _ hx)]
    have := h l List.mem_cons_self
    obtain ⟨k, e⟩ : ∃ k, m - l = k + 1 := ⟨m - l - 1, by omega⟩
    rw [e, Nat.pow_succ]
    omega
theorem kr_len {ls : List Nat} (h : ∀ l ∈ ls, l ≤ 0) : kr 0 ls = ls.length := by
  induction ls with
  | nil => rfl
  | cons l ls ih =>
    rw [kr_cons, ih fun x hx => h x (List.mem_cons_of_mem _ hx)]
    simp
    omega
/-- two of the greatest length, which become one of a length less -/
theorem Kraft.join {d1 d2 : Nat} {ds : List Nat} (k : Kraft (d1 :: d2 :: ds)) (h12 : d2 ≤ d1) (h : ∀ l ∈ ds, l ≤ d2) : d1 = d2 ∧ 1 ≤ d1 ∧ Kraft ((d1 - 1) :: ds) := by
  have hm : ∀ l ∈ d1 :: d2 :: ds, l ≤ d1 := fun l hl => by
    rcases List.mem_cons.mp hl with e | hl
    · omega
    rcases List.mem_cons.mp hl with e | hl
    · omega
    · have := h l hl; omega
  have e := k.at hm
  rw [kr_cons, kr_cons] at e
  have p1 : 1 ≤ d1 := by
    rcases Nat.eq_zero_or_pos d1 with z | z
    · subst z
      have := Nat.pow_pos (n := 0 - d2) (show 0 < 2 by decide)
      have z : (2 : Nat) ^ (0 - 0) = 1 := rfl
      have z2 : (2 : Nat) ^ 0 = 1 := rfl
      omega
    · exact z
  have hev : 2 ^ d1 % 2 = 0 := by
    obtain ⟨k, e⟩ : ∃ k, d1 = k + 1 := ⟨d1 - 1, by omega⟩
    rw [e, Nat.pow_succ]
    omega
  have e12 : d1 = d2 := by
    rcases Nat.lt_or_ge d2 d1 with lt | ge
    · have z : kr d1 (d2 :: ds) % 2 = 0 := kr_even fun l hl => by
        rcases List.mem_cons.mp hl with e | hl
        · omega
        · have := h l hl; omega
      rw [kr_cons] at z
      simp at e
      omega
    · omega
  subst e12
  refine ⟨rfl, p1, d1, fun l hl => ?_, ?_⟩
  · rcases List.mem_cons.mp hl with e | hl
    · omega
    · exact h l hl
  · rw [kr_cons]
    have e3 : d1 - (d1 - 1) = 1 := by omega
    rw [e3]
    simp at e
    omega
/-! ### the least pairing: the greatest length with the least count -/
theorem cst_perm {P Q : PL} (h : P.Perm Q) : cst P = cst Q := sum_perm (h.map _)
theorem cst_cons (l : Nat) (a : Int) (P : PL) : cst ((l, a) :: P) = l * a + cst P := by simp [cst]
theorem map_perm_cons {α β : Type} [DecidableEq α] {f : α → β} {b : β} {r : List β} : ∀ {P : List α}, (P.map f).Perm (b :: r) → ∃ x Q, f x = b ∧ P.Perm (x :: Q) ∧ (Q.map f).Perm r := by
  intro P h
  have m : b ∈ P.map f := h.symm.subset List.mem_cons_self
  obtain ⟨x, hx, e⟩ := List.mem_map.mp m
  obtain ⟨Q, hQ⟩ := mem_perm hx
  refine ⟨x, Q, e, hQ, ?_⟩
  have h2 := (hQ.map f).symm.trans h
  rw [List.map_cons, e] at h2
  exact List.Perm.cons_inv h2
theorem pairing : ∀ (ds : List Nat) (ws : List Int), ds.Pairwise (fun a b => b ≤ a) → ws.Pairwise (· ≤ ·) → ∀ P : PL, (P.map Prod.fst).Perm ds → (P.map Prod.snd).Perm ws → cst (ds.zip ws) ≤ cst P
  | [], ws, _, _, P, h1, h2 => by
    have e : P.map Prod.fst = [] := List.perm_nil.mp h1
    have e2 : P = [] := List.map_eq_nil_iff.mp e
    subst e2
    simp
  | d :: ds, [], _, _, P, h1, h2 => by
    have e : P.map Prod.snd = [] := List.perm_nil.mp h2
    have e2 : P = [] := List.map_eq_nil_iff.mp e
    subst e2
    have := h1.length_eq
    simp at this
  | d :: ds, a :: r, hd, hw, P, h1, h2 => by
    obtain ⟨⟨l1, a'⟩, P1, ea, hP, hs⟩ := map_perm_cons h2
    have ea : a' = a := ea
    subst ea
    have f1 : (l1 :: P1.map Prod.fst).Perm (d :: ds) := (hP.map Prod.fst).symm.trans h1
    have hd' := List.pairwise_cons.mp hd
    have hw' := List.pairwise_cons.mp hw
    rw [cst_perm hP, List.zip_cons_cons, cst_cons, cst_cons]
    by_cases e : l1 = d
    · subst e
      have := pairing ds r hd'.2 hw'.2 P1 (List.Perm.cons_inv f1) hs
      omega
    · have md : d ∈ P1.map Prod.fst := by
        have := f1.symm.subset (List.mem_cons_self (a := d) (l := ds))
        rcases List.mem_cons.mp this with z | z
        · exact absurd z.symm e
        · exact z
      obtain ⟨⟨d', x⟩, hx, ed⟩ := List.mem_map.mp md
      have ed : d' = d := ed
      subst ed
      obtain ⟨P2, hP2⟩ := mem_perm hx
      have f2 : (l1 :: d' :: P2.map Prod.fst).Perm (d' :: ds) := (List.Perm.cons _ (hP2.map Prod.fst)).symm.trans f1
      have f3 : (l1 :: P2.map Prod.fst).Perm ds := List.Perm.cons_inv ((List.Perm.swap _ _ _).trans f2)
      have s3 : (x :: P2.map Prod.snd).Perm r := (hP2.map Prod.snd).symm.trans hs
      have ih := pairing ds r hd'.2 hw'.2 ((l1, x) :: P2) f3 s3
      rw [cst_cons] at ih
      rw [cst_perm hP2, cst_cons]
      have k1 : l1 ≤ d' := hd'.1 l1 (f3.subset List.mem_cons_self)
      have k2 : a' ≤ x := hw'.1 x (s3.subset List.mem_cons_self)
      have k3 : (0 : Int) ≤ ((d' : Int) - l1) * (x - a') := Int.mul_nonneg (by omega) (by omega)
      have k4 : ((d' : Int) - l1) * (x - a') = d' * x - d' * a' - l1 * x + l1 * a' := by
        rw [Int.sub_mul, Int.mul_sub, Int.mul_sub]
        omega
      omega
theorem sorted_desc (l : List Nat) : ∃ ds : List Nat, l.Perm ds ∧ ds.Pairwise (fun a b => b ≤ a) := by
  refine ⟨l.mergeSort (fun a b => decide (b ≤ a)), (List.mergeSort_perm _ _).symm, ?_⟩
  have h := List.pairwise_mergeSort (le := fun a b : Nat => decide (b ≤ a)) (fun a b c h1 h2 => by simp at *; omega) (fun a b => by simp; omega) l
  exact h.imp fun h => by simpa using h
theorem sorted_asc (l : List Int) : ∃ ws : List Int, l.Perm ws ∧ ws.Pairwise (· ≤ ·) := by
  refine ⟨l.mergeSort (fun a b => decide (a ≤ b)), (List.mergeSort_perm _ _).symm, ?_⟩
  have h := List.pairwise_mergeSort (le := fun a b : Int => decide (a ≤ b)) (fun a b c h1 h2 => by simp at *; omega) (fun a b => by simp; omega) l
  exact h.imp fun h => by simpa using h
/-- no full code costs less than the sum of what is made -/
theorem Huf.least {ns : List Int} {c : Int} (h : Huf ns c) : ∀ P : PL, Kraft (P.map Prod.fst) → (P.map Prod.snd).Perm ns → (∀ x ∈ ns, 0 ≤ x) → c ≤ cst P := by
  induction h with
  | one x =>
    intro P k p h0
    have e : P.map Prod.snd = [x] := List.perm_singleton.mp p
    match P, e with
    | [(l, y)], e =>
      simp at e
      subst e
      rw [cst_cons]
      have := Int.mul_nonneg (show (0 : Int) ≤ l by omega) (h0 y (by simp))
      simp [cst]
      exact this
  | @step l a b r c q h1 h2 _ ih =>
    intro P k p h0
    obtain ⟨r', hr, hr'⟩ := sorted_asc r
    obtain ⟨ds, hds, hdd⟩ := sorted_desc (P.map Prod.fst)
    have pw : (a :: b :: r').Pairwise (· ≤ ·) := by
      refine List.pairwise_cons.mpr ⟨fun x hx => ?_, List.pairwise_cons.mpr ⟨fun x hx => h2 x (hr.symm.subset hx), hr'⟩⟩
      rcases List.mem_cons.mp hx with e | hx
      · omega
      · have := h2 x (hr.symm.subset hx); omega
    have pp : (P.map Prod.snd).Perm (a :: b :: r') := p.trans (q.trans (List.Perm.cons _ (List.Perm.cons _ hr)))
    have main := pairing ds (a :: b :: r') hdd pw P hds pp
    have len : ds.length = r'.length + 2 := by
      have e1 := hds.length_eq
      have e2 := pp.length_eq
      simp at e1 e2
      omega
    match ds, len, hds, hdd, main with
    | d1 :: d2 :: ds, len, hds, hdd, main =>
      have hd1 := List.pairwise_cons.mp hdd
      have hd2 := List.pairwise_cons.mp hd1.2
      obtain ⟨e12, hp, kj⟩ := (k.perm hds).join (hd1.1 d2 List.mem_cons_self) hd2.1
      subst e12
      have len' : ds.length = r'.length := by simpa using len
      have := ih (((d1 - 1) :: ds).zip ((a + b) :: r')) (by rw [List.map_fst_zip (by simp; omega)]; exact kj) (by rw [List.map_snd_zip (by simp; omega)]; exact List.Perm.cons _ hr.symm) (fun x hx => by
        have ha := h0 a (q.symm.subset List.mem_cons_self)
        have hb := h0 b (q.symm.subset (List.mem_cons_of_mem _ List.mem_cons_self))
        rcases List.mem_cons.mp hx with e | hx
        · omega
        · exact h0 x (q.symm.subset (List.mem_cons_of_mem _ (List.mem_cons_of_mem _ hx))))
      simp only [List.zip_cons_cons, cst_cons] at this main
      have e : ((d1 - 1 : Nat) : Int) * (a + b) = d1 * a + d1 * b - (a + b) := by
        have e : ((d1 - 1 : Nat) : Int) = (d1 : Int) - 1 := by omega
        rw [e, Int.sub_mul, Int.mul_add]
        omega
      omega
/-! ### full codes: the leaves of a tree of bits; a word is the list of its signs (48, 49) -/
abbrev Wd := List Nat
inductive Tr
  | lf
  | nd (l r : Tr)
def Tr.ws : Tr → List Wd
  | .lf => [[]]
  | .nd l r => l.ws.map (48 :: ·) ++ r.ws.map (49 :: ·)
theorem Tr.ne : ∀ t : Tr, t.ws ≠ []
  | .lf, h => by cases h
  | .nd l r, h => by
    have := List.append_eq_nil_iff.mp h
    exact Tr.ne l (List.map_eq_nil_iff.mp this.1)
/-- the words of a full code of two words at least, in any order -/
def Full (ws : List Wd) : Prop := ∃ t : Tr, ws.Perm t.ws ∧ 2 ≤ ws.length
def flip (b : Nat) : Nat := if b = 49 then 48 else 49
/-- a word behind the strike of a ++ [b]: the brothers move up -/
def mv (a : Wd) (b : Nat) (x : Wd) : Wd := if (a ++ [flip b]).isPrefixOf x = true then a ++ x.drop (a.length + 1) else x
theorem split_tree : ∀ (t : Tr) (w : Wd), w ∈ t.ws → ∃ (t' : Tr) (r : List Wd), t.ws.Perm (w :: r) ∧ t'.ws.Perm ((w ++ [48]) :: (w ++ [49]) :: r)
  | .lf, w, h => by
    have e : w = [] := by simpa [Tr.ws] using h
    subst e
    exact ⟨.nd .lf .lf, [], .refl _, .refl _⟩
  | .nd l r, w, h => by
    rcases List.mem_append.mp h with h | h
    · obtain ⟨v, hv, e⟩ := List.mem_map.mp h
      subst e
      obtain ⟨l', q, p1, p2⟩ := split_tree l v hv
      refine ⟨.nd l' r, q.map (48 :: ·) ++ r.ws.map (49 :: ·), ?_, ?_⟩
      · exact (p1.map _).append_right _
      · exact (p2.map _).append_right _
    · obtain ⟨v, hv, e⟩ := List.mem_map.mp h
      subst e
      obtain ⟨r', q, p1, p2⟩ := split_tree r v hv
      refine ⟨.nd l r', l.ws.map (48 :: ·) ++ q.map (49 :: ·), ?_, ?_⟩
      · exact ((p1.map _).append_left _).trans List.perm_middle
      · refine ((p2.map _).append_left _).trans ?_
        rw [List.map_cons, List.map_cons]
        exact List.perm_middle.trans (List.Perm.cons _ List.perm_middle)
theorem Full.split {ws : List Wd} {w : Wd} {r : List Wd} (f : Full ws) (p : ws.Perm (w :: r)) : Full ((w ++ [48]) :: (w ++ [49]) :: r) := by
  obtain ⟨t, ht, hl⟩ := f
  obtain ⟨t', q, p1, p2⟩ := split_tree t w (ht.subset (p.symm.subset List.mem_cons_self))
  have e : q.Perm r := List.Perm.cons_inv (p1.symm.trans (ht.symm.trans p))
  refine ⟨t', (List.Perm.cons _ (List.Perm.cons _ e.symm)).trans p2.symm, by simp⟩
theorem Full.perm {ws vs : List Wd} (f : Full ws) (p : ws.Perm vs) : Full vs := by
  obtain ⟨t, ht, hl⟩ := f
  exact ⟨t, p.symm.trans ht, by rw [← p.length_eq]; exact hl⟩
theorem full_two : Full [[48], [49]] := ⟨.nd .lf .lf, .refl _, by decide⟩
theorem mv_cons_same (c : Nat) (a : Wd) (b : Nat) (x : Wd) : mv (c :: a) b (c :: x) = c :: mv a b x := by
  unfold mv
  rw [List.cons_append, List.isPrefixOf_cons₂, beq_self_eq_true, Bool.true_and]
  split <;> simp
theorem mv_cons_ne {c d : Nat} (h : (c == d) = false) (a : Wd) (b : Nat) (x : Wd) : mv (c :: a) b (d :: x) = d :: x := by
  unfold mv
  rw [List.cons_append, List.isPrefixOf_cons₂, h, Bool.false_and, if_neg Bool.false_ne_true]
theorem mv_nil (b : Nat) (x : Wd) : mv [] b (flip b :: x) = x := by
  unfold mv
  rw [List.nil_append, List.isPrefixOf_cons₂, beq_self_eq_true, Bool.true_and, List.isPrefixOf_nil_left, if_pos rfl]
  rfl
/-- a word of a full code is struck: what the others become is a full code, and there is a brother -/
theorem strike_tree : ∀ (t : Tr) (a : Wd) (b : Nat), (a ++ [b]) ∈ t.ws → ∃ (t' : Tr) (r : List Wd), t.ws.Perm ((a ++ [b]) :: r) ∧ t'.ws.Perm (r.map (mv a b)) ∧ ∃ x ∈ r, (a ++ [flip b]).isPrefixOf x = true
  | .lf, a, b, h => by
    have e : a ++ [b] = [] := by simpa [Tr.ws] using h
    simp at e
  | .nd .lf r, [], b, h => by
    have eb : b = 48 ∨ b = 49 := by
      rcases List.mem_append.mp h with h | h
      · obtain ⟨v, hv, e⟩ := List.mem_map.mp h
        simp at e
        exact .inl e.1.symm
      · obtain ⟨v, hv, e⟩ := List.mem_map.mp h
        simp at e
        exact .inr e.1.symm
    by_cases e : b = 48
    · subst e
      refine ⟨r, r.ws.map (49 :: ·), .refl _, ?_, ?_⟩
      · rw [List.map_map]
        have : (mv [] 48 ∘ fun x => 49 :: x) = id := by
          funext x
          exact mv_nil 48 x
        rw [this, List.map_id]
      · cases hr : r.ws with
        | nil => exact absurd hr r.ne
        | cons x q => exact ⟨49 :: x, by simp, by simp [flip]⟩
    · have eb : b = 49 := by omega
      subst eb
      rcases List.mem_append.mp h with h | h
      · obtain ⟨v, hv, e⟩ := List.mem_map.mp h
        simp at e
      · obtain ⟨v, hv, e⟩ := List.mem_map.mp h
        simp at e
        subst e
        cases r with
        | lf => exact ⟨.lf, [[48]], List.Perm.swap _ _ _, .refl _, [48], by simp, by simp [flip]⟩
        | nd r1 r2 => simp [Tr.ws] at hv
  | .nd (.nd l1 l2) .lf, [], b, h => by
    rcases List.mem_append.mp h with h | h
    · obtain ⟨v, hv, e⟩ := List.mem_map.mp h
      simp at e
      obtain ⟨e1, e2⟩ := e
      subst e2
      simp [Tr.ws] at hv
    · obtain ⟨v, hv, e⟩ := List.mem_map.mp h
      simp at e
      obtain ⟨e1, e2⟩ := e
      subst e1
      refine ⟨.nd l1 l2, (Tr.nd l1 l2).ws.map (48 :: ·), ?_, ?_, ?_⟩
      · show ((Tr.nd l1 l2).ws.map (48 :: ·) ++ [[49]]).Perm _
        exact List.perm_append_comm
      · rw [List.map_map]
        have : (mv [] 49 ∘ fun x => 48 :: x) = id := by
          funext x
          exact mv_nil 49 x
        rw [this, List.map_id]
      · cases hr : (Tr.nd l1 l2).ws with
        | nil => exact absurd hr (Tr.ne _)
        | cons x q => exact ⟨48 :: x, by simp, by simp [flip]⟩
  | .nd (.nd l1 l2) (.nd r1 r2), [], b, h => by
    rcases List.mem_append.mp h with h | h
    · obtain ⟨v, hv, e⟩ := List.mem_map.mp h
      simp at e
      obtain ⟨e1, e2⟩ := e
      subst e2
      simp [Tr.ws] at hv
    · obtain ⟨v, hv, e⟩ := List.mem_map.mp h
      simp at e
      obtain ⟨e1, e2⟩ := e
      subst e2
      simp [Tr.ws] at hv
  | .nd l r, c :: a, b, h => by
    rcases List.mem_append.mp h with h | h
    · obtain ⟨v, hv, e⟩ := List.mem_map.mp h
      rw [List.cons_append] at e
      injection e with e1 e2
      subst e1
      subst e2
      obtain ⟨l', q, p1, p2, x, hx, hp⟩ := strike_tree l a b hv
      refine ⟨.nd l' r, q.map (48 :: ·) ++ r.ws.map (49 :: ·), (p1.map _).append_right _, ?_, 48 :: x, by simp [hx], ?_⟩
      · rw [List.map_append, List.map_map, List.map_map]
        have e1 : (mv (48 :: a) b ∘ fun x => 48 :: x) = (fun x => 48 :: x) ∘ mv a b := by
          funext x
          exact mv_cons_same 48 a b x
        have e2 : (mv (48 :: a) b ∘ fun x => 49 :: x) = fun x => 49 :: x := by
          funext x
          exact mv_cons_ne (by decide) a b x
        rw [e1, e2, ← List.map_map]
        exact (p2.map _).append_right _
      · rw [List.cons_append, List.isPrefixOf_cons₂, hp]
        rfl
    · obtain ⟨v, hv, e⟩ := List.mem_map.mp h
      rw [List.cons_append] at e
      injection e with e1 e2
      subst e1
      subst e2
      obtain ⟨r', q, p1, p2, x, hx, hp⟩ := strike_tree r a b hv
      refine ⟨.nd l r', l.ws.map (48 :: ·) ++ q.map (49 :: ·), ((p1.map _).append_left _).trans List.perm_middle, ?_, 49 :: x, by simp [hx], ?_⟩
      · rw [List.map_append, List.map_map, List.map_map]
        have e1 : (mv (49 :: a) b ∘ fun x => 49 :: x) = (fun x => 49 :: x) ∘ mv a b := by
          funext x
          exact mv_cons_same 49 a b x
        have e2 : (mv (49 :: a) b ∘ fun x => 48 :: x) = fun x => 48 :: x := by
          funext x
          exact mv_cons_ne (by decide) a b x
        rw [e1, e2, ← List.map_map]
        exact (p2.map _).append_left _
      · rw [List.cons_append, List.isPrefixOf_cons₂, hp]
        rfl
theorem Full.strike {ws r : List Wd} {a : Wd} {b : Nat} (f : Full ws) (p : ws.Perm ((a ++ [b]) :: r)) (h3 : 3 ≤ ws.length) : Full (r.map (mv a b)) ∧ ∃ x ∈ r, (a ++ [flip b]).isPrefixOf x = true := by
  obtain ⟨t, ht, hl⟩ := f
  obtain ⟨t', q, p1, p2, x, hx, hp⟩ := strike_tree t a b (ht.subset (p.symm.subset List.mem_cons_self))
  have e : q.Perm r := List.Perm.cons_inv (p1.symm.trans (ht.symm.trans p))
  have := p.length_eq
  refine ⟨⟨t', ((e.map _).symm).trans p2.symm, by simp at this; simp; omega⟩, x, e.subset hx, hp⟩
/-! ### what Code asks of a full code -/
theorem Tr.bits : ∀ (t : Tr) (w : Wd), w ∈ t.ws → ∀ c ∈ w, c = 48 ∨ c = 49
  | .lf, w, h => by
    have e : w = [] := by simpa [Tr.ws] using h
    subst e
    simp
  | .nd l r, w, h => by
    intro c hc
    rcases List.mem_append.mp h with h | h
    · obtain ⟨v, hv, e⟩ := List.mem_map.mp h
      subst e
      rcases List.mem_cons.mp hc with e | hc
      · exact .inl e
      · exact Tr.bits l v hv c hc
    · obtain ⟨v, hv, e⟩ := List.mem_map.mp h
      subst e
      rcases List.mem_cons.mp hc with e | hc
      · exact .inr e
      · exact Tr.bits r v hv c hc
theorem Tr.short : ∀ (t : Tr) (w : Wd), w ∈ t.ws → w.length < t.ws.length
  | .lf, w, h => by
    have e : w = [] := by simpa [Tr.ws] using h
    subst e
    simp [Tr.ws]
  | .nd l r, w, h => by
    have hl := List.length_pos_iff.mpr l.ne
    have hr := List.length_pos_iff.mpr r.ne
    rw [show (Tr.nd l r).ws.length = l.ws.length + r.ws.length by simp [Tr.ws]]
    rcases List.mem_append.mp h with h | h
    · obtain ⟨v, hv, e⟩ := List.mem_map.mp h
      subst e
      have := Tr.short l v hv
      simp
      omega
    · obtain ⟨v, hv, e⟩ := List.mem_map.mp h
      subst e
      have := Tr.short r v hv
      simp
      omega
theorem Tr.long : ∀ (t : Tr) (w : Wd), w ∈ t.ws → 2 ≤ t.ws.length → 1 ≤ w.length
  | .lf, w, h, h2 => by simp [Tr.ws] at h2
  | .nd l r, w, h, _ => by
    rcases List.mem_append.mp h with h | h
    · obtain ⟨v, hv, e⟩ := List.mem_map.mp h
      subst e
      simp
    · obtain ⟨v, hv, e⟩ := List.mem_map.mp h
      subst e
      simp
def Apart (x y : Wd) : Prop := x.isPrefixOf y = false ∧ y.isPrefixOf x = false
theorem Tr.apart : ∀ t : Tr, t.ws.Pairwise Apart
  | .lf => by simp [Tr.ws]
  | .nd l r => by
    refine List.pairwise_append.mpr ⟨?_, ?_, ?_⟩
    · refine List.pairwise_map.mpr ((Tr.apart l).imp fun {x y} h => ?_)
      exact ⟨by rw [List.isPrefixOf_cons₂, h.1, Bool.and_false], by rw [List.isPrefixOf_cons₂, h.2, Bool.and_false]⟩
    · refine List.pairwise_map.mpr ((Tr.apart r).imp fun {x y} h => ?_)
      exact ⟨by rw [List.isPrefixOf_cons₂, h.1, Bool.and_false], by rw [List.isPrefixOf_cons₂, h.2, Bool.and_false]⟩
    · intro x hx y hy
      obtain ⟨v, _, e⟩ := List.mem_map.mp hx
      obtain ⟨u, _, e'⟩ := List.mem_map.mp hy
      subst e
      subst e'
      exact ⟨by rw [List.isPrefixOf_cons₂]; rfl, by rw [List.isPrefixOf_cons₂]; rfl⟩
theorem Tr.kraft : ∀ (t : Tr) (M : Nat), (∀ w ∈ t.ws, w.length ≤ M) → kr M (t.ws.map List.length) = 2 ^ M
  | .lf, M, _ => by simp [Tr.ws, kr]
  | .nd l r, M, h => by
    have hM : 1 ≤ M := by
      cases hl : l.ws with
      | nil => exact absurd hl l.ne
      | cons v q =>
        have := h (48 :: v) (by simp [Tr.ws, hl])
        simp at this
        omega
    have key : ∀ (c : Nat) (t : Tr), (∀ w ∈ t.ws, (c :: w).length ≤ M) → kr M ((t.ws.map (c :: ·)).map List.length) = kr (M - 1) (t.ws.map List.length) := fun c t ht => by
      unfold kr
      rw [List.map_map, List.map_map, List.map_map]
      congr 1
      refine List.map_congr_left fun w hw => ?_
      show 2 ^ (M - (w.length + 1)) = 2 ^ (M - 1 - w.length)
      congr 1
      omega
    have hl' : ∀ w ∈ l.ws, (48 :: w).length ≤ M := fun w hw => h _ (List.mem_append_left _ (List.mem_map_of_mem hw))
    have hr' : ∀ w ∈ r.ws, (49 :: w).length ≤ M := fun w hw => h _ (List.mem_append_right _ (List.mem_map_of_mem hw))
    show kr M ((l.ws.map (48 :: ·) ++ r.ws.map (49 :: ·)).map List.length) = 2 ^ M
    rw [List.map_append, kr_append, key 48 l hl', key 49 r hr',
      Tr.kraft l (M - 1) (fun w hw => by have := hl' w hw; simp at this; omega), Tr.kraft r (M - 1) (fun w hw => by have := hr' w hw; simp at this; omega)]
    obtain ⟨k, e⟩ : ∃ k, M = k + 1 := ⟨M - 1, by omega⟩
    subst e
    rw [Nat.add_sub_cancel, Nat.pow_succ]
    omega
theorem apart_symm {x y : Wd} (h : Apart x y) : Apart y x := ⟨h.2, h.1⟩
section
variable {ws : List Wd} (f : Full ws)
include f
theorem Full.bits {w : Wd} (h : w ∈ ws) : ∀ c ∈ w, c = 48 ∨ c = 49 := by
  obtain ⟨t, ht, _⟩ := f
  exact t.bits w (ht.subset h)
theorem Full.short {w : Wd} (h : w ∈ ws) : w.length < ws.length := by
  obtain ⟨t, ht, _⟩ := f
  rw [ht.length_eq]
  exact t.short w (ht.subset h)
theorem Full.long {w : Wd} (h : w ∈ ws) : 1 ≤ w.length := by
  obtain ⟨t, ht, hl⟩ := f
  exact t.long w (ht.subset h) (by rw [← ht.length_eq]; exact hl)
theorem Full.apart : ws.Pairwise Apart := by
  obtain ⟨t, ht, hl⟩ := f
  exact (ht.pairwise_iff (fun {x y} h => apart_symm h)).mpr t.apart
theorem Full.kraft_at {M : Nat} (h : ∀ w ∈ ws, w.length ≤ M) : kr M (ws.map List.length) = 2 ^ M := by
  obtain ⟨t, ht, hl⟩ := f
  rw [kr_perm (ht.map _)]
  exact t.kraft M fun w hw => h w (ht.symm.subset hw)
theorem Full.kraft : Kraft (ws.map List.length) := ⟨ws.length, fun l hl => by
    obtain ⟨w, hw, e⟩ := List.mem_map.mp hl
    subst e
    exact Nat.le_of_lt (f.short hw), f.kraft_at fun w hw => Nat.le_of_lt (f.short hw)⟩
end
/-! ### by places -/
def cost (ls ns : List Int) : Int := ((ls.zip ns).map fun p => p.1 * p.2).sum
abbrev lens (ws : List Wd) : List Int := ws.map fun w => (w.length : Int)
theorem cost_cons (l n : Int) (ls ns : List Int) : cost (l :: ls) (n :: ns) = l * n + cost ls ns := by simp [cost]
theorem cost_cst (ws : List Wd) (ns : List Int) : cost (lens ws) ns = cst ((ws.map List.length).zip ns) := by
  induction ws generalizing ns with
  | nil => rfl
  | cons w ws ih =>
    cases ns with
    | nil => rfl
    | cons n ns =>
      rw [List.map_cons, List.zip_cons_cons, cst_cons, ← ih]
      exact cost_cons _ _ _ _
/-- the counts where the words differ -/
def chl : List Wd → List Wd → List Int → List Int
  | w :: ws, v :: vs, n :: ns => if w ≠ v then n :: chl ws vs ns else chl ws vs ns
  | _, _, _ => []
abbrev chg (ws vs : List Wd) (ns : List Int) : Int := (chl ws vs ns).sum
theorem chg_cons (w v : Wd) (ws vs : List Wd) (n : Int) (ns : List Int) : chg (w :: ws) (v :: vs) (n :: ns) = (if w ≠ v then n else 0) + chg ws vs ns := by
  unfold chg
  rw [chl]
  split
  · rw [List.sum_cons]
  · rw [Int.zero_add]
theorem chl_snoc : ∀ {ws vs : List Wd} {ns : List Int} {w v : Wd} {n : Int}, ws.length = ns.length → vs.length = ns.length → chl (ws ++ [w]) (vs ++ [v]) (ns ++ [n]) = if w ≠ v then chl ws vs ns ++ [n] else chl ws vs ns
  | [], [], [], w, v, n, _, _ => by
    show chl [w] [v] [n] = _
    simp only [chl]
    split <;> rfl
  | w' :: ws, v' :: vs, n' :: ns, w, v, n, h1, h2 => by
    have ih := chl_snoc (ws := ws) (vs := vs) (ns := ns) (w := w) (v := v) (n := n) (by simpa using h1) (by simpa using h2)
    simp only [List.cons_append, chl]
    rw [ih]
    split <;> split <;> rfl
  | [], [], n :: ns, w, v, m, h1, _ => by simp at h1
  | [], x :: vs, ns, w, v, m, h1, h2 => by rw [← h1] at h2; simp at h2
  | x :: ws, [], ns, w, v, m, h1, h2 => by rw [← h2] at h1; simp at h1
  | x :: ws, y :: vs, [], w, v, m, h1, h2 => by simp at h1
theorem chg_same (ws : List Wd) (ns : List Int) : chg ws ws ns = 0 := by
  induction ws generalizing ns with
  | nil => rfl
  | cons w ws ih =>
    cases ns with
    | nil => rfl
    | cons n ns => rw [chg_cons, ih]; simp
/-! a word parted -/
theorem perm_set {α : Type} : ∀ {l : List α} {i : Nat} {x y : α}, l[i]? = some x → (l.set i y).Perm (y :: l.eraseIdx i)
  | [], i, x, y, h => by simp at h
  | a :: l, 0, x, y, _ => .refl _
  | a :: l, i + 1, x, y, h => ((perm_set (l := l) (i := i) (x := x) (y := y) (by simpa using h)).cons a).trans (.swap _ _ _)
theorem perm_erase {α : Type} {l : List α} {i : Nat} {x : α} (h : l[i]? = some x) : l.Perm (x :: l.eraseIdx i) := by
  have e : l.set i x = l := by
    apply List.ext_getElem?
    intro j
    rw [List.getElem?_set]
    split
    · rename_i e
      subst e
      split
      · exact h.symm
      · rename_i hlt
        rw [List.getElem?_eq_none (by omega)] at h
        cases h
    · rfl
  have := perm_set (y := x) h
  rw [e] at this
  exact this
def ins {α : Type} (r : Nat) (y : α) (l : List α) : List α := l.take r ++ [y] ++ l.drop r
theorem ins_perm {α : Type} (r : Nat) (y : α) (l : List α) : (ins r y l).Perm (y :: l) := by
  unfold ins
  rw [List.append_assoc]
  refine List.perm_middle.trans ?_
  show (y :: (l.take r ++ l.drop r)).Perm (y :: l)
  rw [List.take_append_drop]
theorem ins_len {α : Type} (r : Nat) (y : α) (l : List α) : (ins r y l).length = l.length + 1 := (ins_perm r y l).length_eq
theorem ins_at {α : Type} {r : Nat} {y : α} {l : List α} (h : r ≤ l.length) : (ins r y l)[r]? = some y := by
  unfold ins
  rw [List.append_assoc, List.getElem?_append_right (by rw [List.length_take]; omega), List.length_take, Nat.min_eq_left h, Nat.sub_self]
  rfl
theorem ins_erase {α : Type} {r : Nat} {y : α} {l : List α} (h : r ≤ l.length) : (ins r y l).eraseIdx r = l := by
  unfold ins
  rw [List.append_assoc, List.eraseIdx_append_of_length_le (by rw [List.length_take]; omega), List.length_take, Nat.min_eq_left h, Nat.sub_self]
  show l.take r ++ l.drop r = l
  exact List.take_append_drop _ _
def putW (ws : List Wd) (s : Nat) (w : Wd) (r : Nat) : List Wd := ins r (w ++ [49]) (ws.set s (w ++ [48]))
theorem Full.put {ws : List Wd} {s r : Nat} {w : Wd} (f : Full ws) (h : ws[s]? = some w) : Full (putW ws s w r) := by
  have p := f.split (perm_erase h)
  refine p.perm ?_
  refine (List.Perm.swap _ _ _).trans ?_
  refine List.Perm.trans ?_ (ins_perm r (w ++ [49]) (ws.set s (w ++ [48]))).symm
  exact (perm_set h).symm.cons _
theorem cost_set : ∀ {ws : List Wd} {ns : List Int} {s : Nat} {w v : Wd} {m : Int}, ws[s]? = some w → ns[s]? = some m → v.length = w.length + 1 → cost (lens (ws.set s v)) ns = cost (lens ws) ns + m
  | [], _, s, w, v, m, h, _, _ => by simp at h
  | _ :: _, [], s, w, v, m, _, h, _ => by simp at h
  | x :: ws, n :: ns, 0, w, v, m, h, k, e => by
    have h : x = w := by simpa using h
    have k : n = m := by simpa using k
    subst h k
    show cost ((v.length : Int) :: lens ws) (n :: ns) = cost ((x.length : Int) :: lens ws) (n :: ns) + n
    rw [cost_cons, cost_cons, e]
    have : ((x.length + 1 : Nat) : Int) * n = x.length * n + n := by
      rw [show ((x.length + 1 : Nat) : Int) = (x.length : Int) + 1 by omega, Int.add_mul]
      omega
    omega
  | x :: ws, n :: ns, s + 1, w, v, m, h, k, e => by
    have ih := cost_set (ws := ws) (ns := ns) (s := s) (w := w) (v := v) (m := m) (by simpa using h) (by simpa using k) e
    show cost ((x.length : Int) :: lens (ws.set s v)) (n :: ns) = cost ((x.length : Int) :: lens ws) (n :: ns) + m
    rw [cost_cons, cost_cons, ih]
    omega
theorem cost_append : ∀ {ls ls' ns ns' : List Int}, ls.length = ns.length → cost (ls ++ ls') (ns ++ ns') = cost ls ns + cost ls' ns'
  | [], ls', [], ns', _ => by simp [cost]
  | l :: ls, ls', n :: ns, ns', h => by
    rw [List.cons_append, List.cons_append, cost_cons, cost_cons, cost_append (by simpa using h)]
    omega
theorem cost_ins {ws : List Wd} {ns : List Int} (r : Nat) (y : Wd) (n : Int) (hl : ws.length = ns.length) : cost (lens (ins r y ws)) (ins r n ns) = cost (lens ws) ns + y.length * n := by
  unfold ins
  simp only [lens, List.map_append, List.map_cons, List.map_nil]
  rw [cost_append (by simp [hl]), cost_append (by simp [hl])]
  have e : cost (lens ws) ns = cost (lens (ws.take r)) (ns.take r) + cost (lens (ws.drop r)) (ns.drop r) := by
    have h := cost_append (ls := lens (ws.take r)) (ls' := lens (ws.drop r)) (ns := ns.take r) (ns' := ns.drop r) (by simp [hl])
    rw [← List.map_append, List.take_append_drop, List.take_append_drop] at h
    exact h
  have e2 : cost [(y.length : Int)] [n] = y.length * n := by simp [cost]
  simp only [lens] at e
  rw [e2]
  omega
theorem put_cost {ws : List Wd} {ns : List Int} {s r : Nat} {w : Wd} {m : Int} (hl : ws.length = ns.length) (h : ws[s]? = some w) (k : ns[s]? = some m) : cost (lens (putW ws s w r)) (ins r 0 ns) = cost (lens ws) ns + m := by
  unfold putW
  rw [cost_ins r _ 0 (by rw [List.length_set, hl]), cost_set h k (by simp)]
  omega
theorem min_perm {ns : List Int} {s : Nat} {m : Int} (k : ns[s]? = some m) (hm : ∀ x ∈ ns, m ≤ x) : ns.Perm (m :: ns.eraseIdx s) ∧ ∀ x ∈ ns.eraseIdx s, m ≤ x :=
  ⟨perm_erase k, fun x hx => hm x (List.mem_of_mem_eraseIdx hx)⟩
/-- the code behind a put is least just if the old one was -/
theorem put_least {ws : List Wd} {ns : List Int} {s r : Nat} {w : Wd} {m c d : Int} (hl : ws.length = ns.length) (h : ws[s]? = some w) (k : ns[s]? = some m) (h0 : ∀ x ∈ ns, 0 ≤ x) (hm : ∀ x ∈ ns, m ≤ x) (H : Huf ns c) (G : Huf (ins r 0 ns) d) :
    (cost (lens (putW ws s w r)) (ins r 0 ns) = d ↔ cost (lens ws) ns = c) := by
  obtain ⟨p, hp⟩ := min_perm k hm
  have e := H.zero_eq p (h0 m (List.mem_of_getElem? k)) hp G (ins_perm r 0 ns)
  rw [put_cost hl h k, e]
  omega
theorem chg_set : ∀ {ws : List Wd} {ns : List Int} {s : Nat} {w v : Wd} {m : Int}, ws[s]? = some w → ns[s]? = some m → w ≠ v → chg ws (ws.set s v) ns = m
  | [], _, s, w, v, m, h, _, _ => by simp at h
  | _ :: _, [], s, w, v, m, _, h, _ => by simp at h
  | x :: ws, n :: ns, 0, w, v, m, h, k, e => by
    have h : x = w := by simpa using h
    have k : n = m := by simpa using k
    subst h k
    show chg (x :: ws) (v :: ws) (n :: ns) = n
    rw [chg_cons, if_pos e, chg_same]
    omega
  | x :: ws, n :: ns, s + 1, w, v, m, h, k, e => by
    have ih := chg_set (ws := ws) (ns := ns) (s := s) (w := w) (v := v) (m := m) (by simpa using h) (by simpa using k) e
    show chg (x :: ws) (x :: ws.set s v) (n :: ns) = m
    rw [chg_cons, if_neg (by simp), ih]
    omega
theorem put_changed {ws : List Wd} {ns : List Int} {s : Nat} {w : Wd} {m : Int} (h : ws[s]? = some w) (k : ns[s]? = some m) : chg ws (ws.set s (w ++ [48])) ns = m :=
  chg_set h k fun e => by
    have := congrArg List.length e
    simp at this
/-! a word struck -/
theorem prefix_of_snoc {a x : Wd} {b : Nat} (h : (a ++ [b]).isPrefixOf x = true) : a.isPrefixOf x = true := by
  rw [List.isPrefixOf_iff_prefix] at h ⊢
  exact (List.prefix_append a [b]).trans h
theorem mv_self (w : Wd) : mv w 49 (w ++ [48]) = w := by
  unfold mv
  have e : flip 49 = 48 := rfl
  rw [e, if_pos (by rw [List.isPrefixOf_iff_prefix]; exact List.prefix_refl _)]
  have : (w ++ [48]).drop (w.length + 1) = [] := List.drop_eq_nil_of_le (by simp)
  rw [this, List.append_nil]
theorem mv_apart {w x : Wd} (h : Apart w x) (b : Nat) : mv w b x = x := by
  unfold mv
  rw [if_neg]
  intro e
  have := prefix_of_snoc e
  rw [h.1] at this
  cases this
/-- what was put in and struck again leaves the words of before -/
theorem put_strike {ws : List Wd} {s r : Nat} {w : Wd} (f : Full ws) (h : ws[s]? = some w) (hr : r ≤ ws.length) : ((putW ws s w r).eraseIdx r).map (mv w 49) = ws := by
  unfold putW
  rw [ins_erase (by rw [List.length_set]; exact hr)]
  apply List.ext_getElem?
  intro j
  rw [List.getElem?_map, List.getElem?_set]
  split
  · rename_i e
    subst e
    have hs := (List.getElem?_eq_some_iff.mp h).1
    rw [if_pos hs, h]
    show some _ = some _
    rw [mv_self]
  · rename_i hne
    cases e : ws[j]? with
    | none => rfl
    | some x =>
      show some (mv w 49 x) = some x
      obtain ⟨h1, e1⟩ := List.getElem?_eq_some_iff.mp h
      obtain ⟨h2, e2⟩ := List.getElem?_eq_some_iff.mp e
      have pw := List.pairwise_iff_getElem.mp f.apart
      congr 1
      refine mv_apart ?_ 49
      rcases Nat.lt_or_gt_of_ne hne with q | q
      · have := pw s j h1 h2 q
        rw [e1, e2] at this
        exact this
      · have := pw j s h2 h1 q
        rw [e1, e2] at this
        exact apart_symm this
theorem cost_erase0 {ws : List Wd} {ns : List Int} {i : Nat} (hl : ws.length = ns.length) (k : ns[i]? = some 0) : cost (lens (ws.eraseIdx i)) (ns.eraseIdx i) = cost (lens ws) ns := by
  induction i generalizing ws ns with
  | zero =>
    cases ws with
    | nil => cases ns with
      | nil => rfl
      | cons n ns => simp at hl
    | cons x ws => cases ns with
      | nil => simp at hl
      | cons n ns =>
        have k : n = 0 := by simpa using k
        subst k
        show cost (lens ws) ns = cost ((x.length : Int) :: lens ws) (0 :: ns)
        rw [cost_cons]
        omega
  | succ i ih =>
    cases ws with
    | nil => cases ns with
      | nil => rfl
      | cons n ns => simp at hl
    | cons x ws => cases ns with
      | nil => simp at hl
      | cons n ns =>
        show cost ((x.length : Int) :: lens (ws.eraseIdx i)) (n :: ns.eraseIdx i) = cost ((x.length : Int) :: lens ws) (n :: ns)
        rw [cost_cons, cost_cons, ih (by simpa using hl) (by simpa using k)]
theorem mv_len (a : Wd) (b : Nat) (x : Wd) (n : Int) : ((mv a b x).length : Int) * n + (if x ≠ mv a b x then n else 0) = x.length * n := by
  unfold mv
  by_cases h : (a ++ [flip b]).isPrefixOf x = true
  · rw [if_pos h]
    have hle := (List.isPrefixOf_iff_prefix.mp h).length_le
    simp at hle
    have e : (a ++ x.drop (a.length + 1)).length = x.length - 1 := by simp; omega
    have ne : x ≠ a ++ x.drop (a.length + 1) := fun q => by
      have := congrArg List.length q
      rw [e] at this
      omega
    rw [if_pos ne, e, show ((x.length - 1 : Nat) : Int) = (x.length : Int) - 1 by omega, Int.sub_mul]
    omega
  · rw [if_neg h, if_neg (by simp)]
    omega
theorem mv_cost (a : Wd) (b : Nat) (vs : List Wd) (ns : List Int) : cost (lens (vs.map (mv a b))) ns + chg vs (vs.map (mv a b)) ns = cost (lens vs) ns := by
  induction vs generalizing ns with
  | nil => rfl
  | cons x vs ih =>
    cases ns with
    | nil => rfl
    | cons n ns =>
      show cost (((mv a b x).length : Int) :: lens (vs.map (mv a b))) (n :: ns) + chg (x :: vs) (mv a b x :: vs.map (mv a b)) (n :: ns) = cost ((x.length : Int) :: lens vs) (n :: ns)
      rw [cost_cons, cost_cons, chg_cons, ← ih ns, ← mv_len a b x n]
      omega
theorem chg_nonneg (vs us : List Wd) (ns : List Int) (h0 : ∀ x ∈ ns, 0 ≤ x) : 0 ≤ chg vs us ns := by
  induction vs generalizing us ns with
  | nil => exact Int.le_refl _
  | cons x vs ih =>
    cases us with
    | nil => exact Int.le_refl _
    | cons y us =>
      cases ns with
      | nil => exact Int.le_refl _
      | cons n ns =>
        rw [chg_cons]
        have := ih us ns fun x hx => h0 x (List.mem_cons_of_mem _ hx)
        have := h0 n List.mem_cons_self
        split <;> omega
theorem chg_least {a : Wd} {b : Nat} {m : Int} : ∀ {vs : List Wd} {ns : List Int}, vs.length = ns.length → (∀ x ∈ ns, 0 ≤ x) → (∀ x ∈ ns, m ≤ x) → (∃ x ∈ vs, (a ++ [flip b]).isPrefixOf x = true) → m ≤ chg vs (vs.map (mv a b)) ns
  | [], ns, _, _, _, ⟨x, hx, _⟩ => by simp at hx
  | v :: vs, [], hl, _, _, _ => by simp at hl
  | v :: vs, n :: ns, hl, h0, hm, ⟨x, hx, hp⟩ => by
    rw [List.map_cons, chg_cons]
    have h0' : ∀ x ∈ ns, 0 ≤ x := fun x hx => h0 x (List.mem_cons_of_mem _ hx)
    rcases List.mem_cons.mp hx with e | hx
    · subst e
      have z := chg_nonneg vs (vs.map (mv a b)) ns h0'
      have := hm n List.mem_cons_self
      have ne : x ≠ mv a b x := fun q => by
        have hle := (List.isPrefixOf_iff_prefix.mp hp).length_le
        simp at hle
        have := congrArg List.length q
        unfold mv at this
        rw [if_pos hp] at this
        simp at this
        omega
      rw [if_pos ne]
      omega
    · have ih := chg_least (vs := vs) (ns := ns) (by simpa using hl) h0' (fun x hx => hm x (List.mem_cons_of_mem _ hx)) ⟨x, hx, hp⟩
      have := h0 n List.mem_cons_self
      split <;> omega
/-- a least code stays least if a sign that does not come is struck; the places that change are as many as the least count of the others -/
theorem strike_least {ws : List Wd} {ns : List Int} {i : Nat} {a : Wd} {b : Nat} {m c d : Int} (f : Full ws) (hl : ws.length = ns.length) (h3 : 3 ≤ ws.length) (h : ws[i]? = some (a ++ [b])) (k : ns[i]? = some 0) (h0 : ∀ x ∈ ns, 0 ≤ x)
    (H : Huf ns c) (hc : cost (lens ws) ns = c) (G : Huf (ns.eraseIdx i) d) (mm : m ∈ ns.eraseIdx i) (hm : ∀ x ∈ ns.eraseIdx i, m ≤ x) :
    cost (lens ((ws.eraseIdx i).map (mv a b))) (ns.eraseIdx i) = d ∧ chg (ws.eraseIdx i) ((ws.eraseIdx i).map (mv a b)) (ns.eraseIdx i) = m := by
  have hl' : (ws.eraseIdx i).length = (ns.eraseIdx i).length := by
    have h1 := (perm_erase h).length_eq
    have h2 := (perm_erase k).length_eq
    simp only [List.length_cons] at h1 h2
    omega
  obtain ⟨fd, br⟩ := f.strike (perm_erase h) h3
  have h0' : ∀ x ∈ ns.eraseIdx i, 0 ≤ x := fun x hx => h0 x (List.mem_of_mem_eraseIdx hx)
  obtain ⟨r, hr⟩ := mem_perm mm
  have e1 : c = m + d := G.zero_eq hr (h0' m mm) (fun x hx => hm x (hr.symm.subset (List.mem_cons_of_mem _ hx))) H (perm_erase k)
  have e2 := cost_erase0 hl k
  have e3 := mv_cost a b (ws.eraseIdx i) (ns.eraseIdx i)
  have e4 := chg_least (a := a) (b := b) hl' h0' hm br
  have e5 := G.least ((((ws.eraseIdx i).map (mv a b)).map List.length).zip (ns.eraseIdx i)) (by rw [List.map_fst_zip (by rw [List.length_map, List.length_map, hl']; exact Nat.le_refl _)]; exact fd.kraft)
    (by rw [List.map_snd_zip (by rw [List.length_map, List.length_map, hl']; exact Nat.le_refl _)]) h0'
  rw [← cost_cst] at e5
  omega
/-- the law's own look for a brother -/
theorem brother_iff {a x : Wd} {b : Nat} (hb : b = 48 ∨ b = 49) (hx : ∀ c ∈ x, c = 48 ∨ c = 49) : (a ++ [flip b]).isPrefixOf x = true ↔ (a.length < x.length ∧ x.take a.length = a ∧ ∃ c, x[a.length]? = some c ∧ c ≠ b) := by
  rw [List.isPrefixOf_iff_prefix]
  constructor
  · rintro ⟨t, rfl⟩
    refine ⟨by simp, by simp, flip b, by simp, ?_⟩
    unfold flip
    split <;> omega
  · rintro ⟨h1, h2, c, h3, h4⟩
    have e : c = flip b := by
      have := hx c (List.mem_of_getElem? h3)
      unfold flip
      split <;> omega
    subst e
    refine ⟨x.drop (a.length + 1), ?_⟩
    have h5 : x.drop a.length = flip b :: x.drop (a.length + 1) := by
      obtain ⟨hlt, e⟩ := List.getElem?_eq_some_iff.mp h3
      rw [← e]
      exact List.drop_eq_getElem_cons hlt
    conv => rhs; rw [← List.take_append_drop a.length x, h2, h5]
    simp
end Hf
set_option Elab.async false
set_option linter.all false
set_option maxRecDepth 100000
namespace Wv
open PySem L2
/-! ### the text by places -/
def top (i : Nat) : Stmt := PySem.Challenge.pw_wordvault_k37_whole_signs_put_and_struck.main.body.getD i (.Pass ⟨0, 0, 0, 0⟩)
abbrev sIsCount : Stmt := top 14
abbrev sTwoPower : Stmt := top 15
abbrev sCheckSigns : Stmt := top 16
abbrev sCheckCounts : Stmt := top 17
abbrev sBitsOf : Stmt := top 18
abbrev sCanonical : Stmt := top 19
abbrev sIsBits : Stmt := top 20
abbrev sCheckedWords : Stmt := top 21
abbrev sCheckBeginnings : Stmt := top 22
abbrev sCodeOf : Stmt := top 24
abbrev sCheckPair : Stmt := top 25
abbrev sCheckRank : Stmt := top 27
abbrev sIsSignOf : Stmt := top 28
abbrev sPartedSign : Stmt := top 29
abbrev sPartedCode : Stmt := top 30
abbrev sPutSign : Stmt := top 31
abbrev sStrikeSign : Stmt := top 32
abbrev sLPenOf : Stmt := top 34
abbrev sLDraw : Stmt := top 35
abbrev sLPick : Stmt := top 36
abbrev sLShuffled : Stmt := top 37
abbrev sLCost : Stmt := top 38
abbrev sLSomeCounts : Stmt := top 39
abbrev sLLeast : Stmt := top 40
abbrev sLWords : Stmt := top 41
abbrev sLCode : Stmt := top 42
abbrev sLNearCounts : Stmt := top 43
abbrev sLMet : Stmt := top 44
abbrev sLIsLeast : Stmt := top 45
abbrev sLPut : Stmt := top 46
abbrev sLStruck : Stmt := top 47
abbrev sLChanged : Stmt := top 48
abbrev sLArePut : Stmt := top 49
abbrev sLAreStruck : Stmt := top 50
abbrev sLaw : Stmt := top 51
abbrev sTooMany : Stmt := inClass (top 2) 0
abbrev sBadSign : Stmt := inClass (top 3) 0
abbrev sOtherSize : Stmt := inClass (top 9) 0
abbrev sBadRank : Stmt := inClass (top 10) 0
abbrev sCode : Stmt := inClass (top 23) 0
end Wv
set_option Elab.async false
set_option linter.all false
set_option maxRecDepth 100000
set_option maxHeartbeats 4000000
namespace PySem
namespace WvE
open PySem.W PySem.Calls PyProof.Rows PySem.HandSPX
/-- what the written part says of an error's class at C and of its __init__ at fI (its parameters, body, names; the cell of __class__) -/
structure ErrT (prog : Program) (K : Frag) (mg : Str → Option Value) (x qual : Str) (C fI : Addr) (params : Arguments) (body : List Stmt) (sc : Scope) (fs : List Str) : Prop where
  gC : mg x = some (.ref C)
  gS : mg "super" = none
  cls : ∃ nm q N bs bm sn sub ab col dd k0 k1 k2 k3 k5, K.lookup C = some (excClassObj nm q C N bs bm true sn sub ab col dd k0 k1 k2 k3 k5 "ValueError.__new__") ∧ refsVE bm = true
  sa : findIn K (.ref C) "__setattr__" = some (some (.builtin "object.__setattr__"))
  noN : ∀ f ∈ fs, findIn K (.ref C) f = some none
  iC : findIn K (.ref C) "__init__" = some (some (.ref fI))
  tC : typeIn K (.ref fI) = some (.type "function")
  kC : keepIn K (.ref C) = true
  exC : subIn K (.ref C) (.type "BaseException") = some true
  veC : subIn K (.ref C) (.type "ValueError") = some true
  tyC : typeIn K (.ref C) = some (.type "type")
  mrC : mroIn K C (.ref C) = some true
  opq : nsIn K cStatics "thirdparty.any" = some none
  sup : ks_superIn K C C "__init__" = some (some (.builtin "ValueError.__init__"))
  top : (prog.main.scope.names.lookup ("super" : Str)).isSome = false
  fn : ∃ (oc : Value) (od : Option Addr) (doc pm : Value) (an : Option Addr) (ct : Value) (osl : Array (Option Value)) (cc cda : Addr) (ccl cl : Value) (cdd cld : Option Addr) (ccs csl : Array (Option Value)) (vs : Array Value) (file : Str) (tf : Tok),
    K.lookup fI = some ⟨oc, od, .func (ksFn "__init__" qual params body sc .none .none doc pm an (.ref cda) ct cc), osl⟩ ∧ codeIn K (.ref cda) qual = true ∧
    K.lookup cda = some ⟨ccl, cdd, .fields vs, ccs⟩ ∧ vs[2]? = some (.str file tf) ∧ ((prog.main.file : Str) == file) = true ∧ K.lookup cc = some ⟨cl, cld, .cell (some (.ref C)), csl⟩
theorem room_line {us : List Value} (h : us.length ≤ 1000) : us.length ≤ sizeLine := by
  rw [sizeLine_eq]
  exact Nat.le_trans h (by decide)
/-- what __init__ leaves of a new error at x -/
structure Ended (h h' : Heap) (x C dx : Addr) (m : Str → Option Value) : Prop where
  keep : ∀ b o, b ≠ x → h.get? b = some o → h'.get? b = some o
  obj : ∃ t1 : Addr, h'.get? x = some { cls := .ref C, dict := some dx, data := .fields #[.ref t1, .none, .none, .none, .bool false, .none] }
  dbig : h.objs.size ≤ dx
  dne : dx ≠ x
  ns : h'.Ns1 dx m
section
variable {prog : Program} {w : World} {M : Model} {A : Around} {E : Value → Shared → Prop} {h : Heap} {g : Array GenState} {d : Drawn} {t : Nat} {os : OsState}
variable {nm q : Str} {C N : Addr} {bs bm : List Value} {hdct : Bool} {sn : List Str} {sub : List Value} {ab : Bool} {col : Option Bool} {dd : Option Addr} {k0 k1 k2 k3 k5 : Option Value}
/-- the bound ValueError.__init__ called upon the error at e -/
theorem call_bound {u e t0 : Addr} {rest : List Value} {Q : Value → Shared → Prop} (hC : h.get? C = some (excClassObj nm q C N bs bm hdct sn sub ab col dd k0 k1 k2 k3 k5 "ValueError.__new__"))
    (he : h.get? e = some (excO C t0)) (hu : h.get? u = some (kxs_mw "ValueError.__init__" e)) (hz : rest.length ≤ sizeLine)
    (hq : ∀ h' t1, (∀ b o, b ≠ e → h.get? b = some o → h'.get? b = some o) → h'.get? e = some (excO C t1) → Q .none ⟨h', g, d, t, os⟩) :
    wpAny (model prog w) A (call (.ref u) rest) Q E ⟨h, g, d, t, os⟩ := by
  have mw : (Value.type "method-wrapper" == Value.type "method" || Value.type "method-wrapper" == Value.type "builtin_function_or_method" || Value.type "method-wrapper" == Value.type "method-wrapper") = true := by decide
  refine wpAny_call (codeAny_of_tree ?_)
  show wpAny _ A.in1 (callAny (.ref u) ⟨rest, []⟩) _ _ _
  simp only [callAny]
  refine wpAny_bind (wpAny_load hu ?_)
  simp only [kxs_mw, mw, if_true]
  refine KFB.if_so (by decide) (wpAny_bind (check_bound_init F.excBase_ValueError.toExcCallFacts hC he rfl (wpAny_bind (wpAny_pure (wpAny_pure ?_)))))
  refine ⟨Code.quiet_builtin _ (by decide +kernel), codeAny_builtin F.excBase_ValueError.initEntry ?_⟩
  rw [Around.under_plainId F.excBase_ValueError.init.plain _]
  wp_walk
  refine hq _ h.objs.size (fun b o hb ho => ?_) ?_
  · exact (Heap.get?_update_other _ _ (Ne.symm hb)).trans (Heap.get?_push_of_some _ ho)
  · rw [Heap.get?_update_self _ (Heap.get?_push_of_some _ he) rfl]
    rfl
end
section
variable {prog : Program} {w : World} {A : Around} {E : Value → Shared → Prop} {s : Shared} {K : Frag} {mg mb : Str → Option Value} {x qual : Str} {C fI : Addr} {params : Arguments} {body : List Stmt} {sc : Scope} {fs : List Str}
/-- a name of the def's own -/
theorem own_ld {M : Model} {env : Env} {m : Str → Option Value} {y : Str} {pos : Pos} {v : Value} {Q : Value → Shared → Prop} (hn : s.heap.Ns env.locals m) (hv : m y = some v) (hq : Q v s)
    (hk : env.scope.kind = .function := by rfl) (hl : env.kindOf y = some .local := by rfl) (hd : (y == ("__debug__" : Str)) = false := by decide) : wpAny M A (eval (.Name y pos) env) Q E s := wpAny_Name (wpAny_loadName_local hk hl hn hv hq) hd
/-- super().__init__(e, ..), the error at a -/
theorem super_init (T : ErrT prog K mg x qual C fI params body sc fs) {a t0 cc cda L : Addr} {m : Str → Option Value} {p0 p1 p2 pos : Pos} {e : Expr} {es : List Expr} {us : List Value} {ar : Arg} {oc ccl cl : Value} {od an cdd cld : Option Addr} {doc pm ct : Value} {osl ccs csl : Array (Option Value)} {vs : Array Value} {file : Str} {tf : Tok} {Q : Value → Shared → Prop}
    (X : K.In s.heap) (G : s.heap.Ns mainGlobals mg) (B : s.heap.Ns builtinsNs mb) (hb : mb "super" = bootBuiltins "super") (hns : s.heap.Ns L m) (ha : s.heap.get? a = some (excO C t0))
    (lf : K.lookup fI = some ⟨oc, od, .func (ksFn "__init__" qual params body sc .none .none doc pm an (.ref cda) ct cc), osl⟩) (lc : K.lookup cda = some ⟨ccl, cdd, .fields vs, ccs⟩) (hvs : vs[2]? = some (.str file tf)) (hfile : ((prog.main.file : Str) == file) = true)
    (lcc : K.lookup cc = some ⟨cl, cld, .cell (some (.ref C)), csl⟩) (hp : (params.posonlyargs ++ params.args).head? = some ar) (hself : m ar.arg = some (.ref a))
    (hks : sc.names.lookup ("super" : Str) = some .globalImplicit) (hkc : sc.names.lookup ("__class__" : Str) = some .free) (hka : sc.names.lookup ar.arg = some .local) (hk : sc.kind = .function)
    (hu : us.length ≤ 1000)
    (hargs : ∀ (h' : Heap) (tk : Nat), (∀ b o, s.heap.get? b = some o → h'.get? b = some o) → ∀ {Q' : List Value → Shared → Prop}, (∀ tk', Q' us { s with heap := h', toks := tk' }) →
      wpAny (model prog w) A (spliced (backTo pos (starEach (e :: es) (ksEnv qual sc L fI (.ref cda) cc)))) Q' E { s with heap := h', toks := tk })
    (he : starEach (e :: es) (ksEnv qual sc L fI (.ref cda) cc) = (false, eval e (ksEnv qual sc L fI (.ref cda) cc)) :: starEach es (ksEnv qual sc L fI (.ref cda) cc)) (hpl : (backTo pos (starEach es (ksEnv qual sc L fI (.ref cda) cc))).any (·.1) = false)
    {pl : Sem Bool} (hev : eval (.Call (.Attribute (.Call (.Name "super" p0) [] [] p1) "__init__" p2) (e :: es) [] pos) (ksEnv qual sc L fI (.ref cda) cc) = (do
      let ov ← attributeBase (.Call (.Name "super" p0) [] [] p1) "__init__" (ksEnv qual sc L fI (.ref cda) cc) (eval (.Call (.Name "super" p0) [] [] p1) (ksEnv qual sc L fI (.ref cda) cc))
      standAt p2.atName
      let (f, first) ← holding [ov] (getMethod ov "__init__" pl)
      callWith pos f first (backTo pos (starEach (e :: es) (ksEnv qual sc L fI (.ref cda) cc))) []))
    (hq : ∀ h' tk t1, (∀ b o, b ≠ a → s.heap.get? b = some o → h'.get? b = some o) → h'.get? a = some (excO C t1) → Q .none { s with heap := h', toks := tk }) :
    wpAt (model prog w) A (.func body (ksEnv qual sc L fI (.ref cda) cc)) (eval (.Call (.Attribute (.Call (.Name "super" p0) [] [] p1) "__init__" p2) (e :: es) [] pos) (ksEnv qual sc L fI (.ref cda) cc)) Q E s := by
  obtain ⟨nm, q, N, bs, bm, sn, sub, ab, col, dd, k0, k1, k2, k3, k5, hC, hbm⟩ := T.cls
  have hcl : clsIn K C = some { name := nm, bases := bs, mro := .ref C :: bm, ns := N, qualname := q, hasDict := true, slotNames := sn, subclasses := sub, abstract := ab, collection := col, hasDel := false } := by unfold clsIn; rw [hC] <;> rfl
  have I : W.InstAt s.heap a (excO C t0) C none := ⟨ha, rfl, rfl, trivial⟩
  have hsup := T.sup
  have hne : a ≠ C := ks_ne X I hcl
  obtain ⟨hh, g, d, tk, os⟩ := s
  refine ks_wpAt_MethodCall (pl := pl) ?_ hev
  refine ks_wpAt_super_base (env := ksEnv qual sc L fI (.ref cda) cc) hks hkc (by decide) rfl (X _ _ lf) rfl hp rfl (X _ _ lc) rfl hvs hfile T.top ?_
  refine ks_loadName_global hk hks (loadGlobal_builtin (env := ksEnv qual sc L fI (.ref cda) cc) G T.gS B (hb.trans (by decide +kernel)) ⟨rfl, ?_⟩)
  refine wpAny_loadName_free hk hkc rfl ⟨_, X _ _ lcc, rfl⟩ (wpAny_loadName_local hk hka hns hself ?_)
  refine ks_wpAny_isType_cls (X _ _ hC) rfl ⟨rfl, ?_⟩
  refine ks_wpAny_call_super (X _ _ hC) rfl ha rfl (fun c z => by cases z) (looks_mroIn X T.mrC) (fun h1 so1 k1' => ?_)
  have X1 : K.In h1 := X.keeps k1'
  have I1 : W.InstAt h1 a (excO C t0) C none := ⟨k1' _ _ ha, rfl, rfl, trivial⟩
  unfold ks_superIn at hsup
  rw [hcl] at hsup
  refine kxs_getMethod kxs_ValueError so1 (looks_opaque X1 T.opq) (l₀ := Value.ref C :: bm) (fun A Q E s k q => wpAny_bind ((looks_clsIn X1 hcl) A _ E s k (wpAny_pure q))) rfl X1 hsup (I1.type.andThen (looks_subIn X1 T.veC)) hne (by decide) ?_
  have k2' : ∀ b o, hh.get? b = some o → (h1.push (kxs_mw "ValueError.__init__" a)).get? b = some o := fun b o z => Heap.get?_push_of_some _ (k1' b o z)
  have hu1 : (h1.push (kxs_mw "ValueError.__init__" a)).get? h1.objs.size = some (kxs_mw "ValueError.__init__" a) := Heap.get?_push_at rfl rfl
  show wpAny _ _ (callWith pos (.ref h1.objs.size) [] (backTo pos (starEach (e :: es) (ksEnv qual sc L fI (.ref cda) cc))) []) _ _ _
  rw [he]
  refine kxs_callWith (i := "ValueError.__init__") (x := a) (by show (false || (backTo pos (starEach es (ksEnv qual sc L fI (.ref cda) cc))).any (·.1)) = false; rw [hpl]; rfl) ?_
  refine evalArgs_plain ?_
  have := hargs (h1.push (kxs_mw "ValueError.__init__" a)) (tk + 1) k2' (Q' := fun vs' s₁ => KxsAt "ValueError.__init__" h1.objs.size a s₁.heap ∧ wpAny (model prog w) A (call (.ref h1.objs.size) ([] ++ vs')) Q E s₁) (fun tk' => ⟨hu1, ?_⟩)
  · rw [he] at this
    exact this
  · refine call_bound (k2' _ _ (X _ _ hC)) (k2' _ _ ha) hu1 (room_line hu) fun h' t1 kk hx => ?_
    exact hq h' tk' t1 (fun b o hb' z => kk b o hb' (k2' b o z)) hx
/-- a.f = v, the first one -/
theorem put_first (T : ErrT prog K mg x qual C fI params body sc fs) {a t1 : Addr} {f : Str} {v : Value} {Q : Unit → Shared → Prop} (X : K.In s.heap) (ha : s.heap.get? a = some (excO C t1)) (hf : f ∈ fs)
    (hq : ∀ h' tk dx, (∀ b o, b ≠ a → s.heap.get? b = some o → h'.get? b = some o) → s.heap.objs.size ≤ dx → dx ≠ a → h'.get? a = some { cls := .ref C, dict := some dx, data := .fields #[.ref t1, .none, .none, .none, .bool false, .none] } →
      h'.Ns1 dx (fun y => if y = f then some v else none) → Q () { s with heap := h', toks := tk }) : wpAny (model prog w) A (setAttr (.ref a) f v) Q E s := by
  obtain ⟨nm, q, N, bs, bm, sn, sub, ab, col, dd, k0, k1, k2, k3, k5, hC, hbm⟩ := T.cls
  have hcl : clsIn K C = some { name := nm, bases := bs, mro := .ref C :: bm, ns := N, qualname := q, hasDict := true, slotNames := sn, subclasses := sub, abstract := ab, collection := col, hasDel := false } := by unfold clsIn; rw [hC] <;> rfl
  obtain ⟨hp, g, d, t, os⟩ := s
  refine set_plain X (ox := excO C t1) (od := none) ⟨ha, rfl, rfl, trivial⟩ T.sa ?_
  exact exc_osa X ha hcl (show refsVE (.ref C :: bm) = true from hbm) rfl (T.noN f hf) fun h' tk' dx k dn dne hx hn => hq h' tk' dx k dn dne hx hn
/-- a.f = v, a further one -/
theorem put_next (T : ErrT prog K mg x qual C fI params body sc fs) {a t1 dx : Addr} {f : Str} {v : Value} {m0 : Str → Option Value} {nl : List Str} {Q : Unit → Shared → Prop} (X : K.In s.heap)
    (ha : s.heap.get? a = some { cls := .ref C, dict := some dx, data := .fields #[.ref t1, .none, .none, .none, .bool false, .none] }) (hn : s.heap.Ns1 dx m0) (hw : Within m0 nl) (hz : nl.length ≤ 1000) (hf : f ∈ fs)
    (hq : ∀ h' tk, (∀ b o, b ≠ dx → s.heap.get? b = some o → h'.get? b = some o) → h'.Ns1 dx (fun y => if y = f then some v else m0 y) → Q () { s with heap := h', toks := tk }) : wpAny (model prog w) A (setAttr (.ref a) f v) Q E s := by
  obtain ⟨nm, q, N, bs, bm, sn, sub, ab, col, dd, k0, k1, k2, k3, k5, hC, hbm⟩ := T.cls
  have hcl : clsIn K C = some { name := nm, bases := bs, mro := .ref C :: bm, ns := N, qualname := q, hasDict := true, slotNames := sn, subclasses := sub, abstract := ab, collection := col, hasDel := false } := by unfold clsIn; rw [hC] <;> rfl
  obtain ⟨oD, _, _, hoD, _, _⟩ := hn.count hw
  obtain ⟨hp, g, d, t, os⟩ := s
  refine set_plain X (ox := { cls := .ref C, dict := some dx, data := .fields #[.ref t1, .none, .none, .none, .bool false, .none] }) (od := some oD) ⟨ha, rfl, rfl, hoD⟩ T.sa ?_
  exact PySem.OEX.osa_old X ha hn hw hz hcl (show refsVE (.ref C :: bm) = true from hbm) rfl (T.noN f hf) fun h' tk' k hn' => hq h' tk' k hn'
end
/-! ### BadRank -/
theorem BadRank_init {prog : Program} {w : World} {A : Around} {R : Result → Shared → Prop} {s : Shared} {K : Frag} {mg mb : Str → Option Value} {C fI : Addr} 
    (T : ErrT prog K mg "BadRank" "BadRank.__init__" C fI (L2.defArgs Wv.sBadRank) (L2.defBody Wv.sBadRank) (L2.defScope Wv.sBadRank) ["rank"]) {a t0 : Addr} {u0 : Value} (X : K.In s.heap) (G : s.heap.Ns mainGlobals mg) (B : s.heap.Ns builtinsNs mb) (hb : mb "super" = bootBuiltins "super") (hlim : s.heap.NoLimit)
    (ha : s.heap.get? a = some (excO C t0)) (hna : K.lookup a = none) (hroom : A.depth < recursionLimit)
    (hq : ∀ h' tk dx, Ended s.heap h' a C dx (fun y : Str => if y = "rank" then some u0 else none) → R (.ok (.ret .none)) { s with heap := h', toks := tk }) :
    codeAny (model prog w) A (.call (.ref fI) ⟨[.ref a, u0], []⟩) R s := by
  obtain ⟨oc, od, doc, pm, an, ct, osl, cc, cda, ccl, cl, cdd, cld, ccs, csl, vs, file, tf, lf, hcd, lc, hvs, hfile, lcc⟩ := T.fn
  refine ks_codeAny_call_defAt (binds := [("self", .ref a), ("rank", u0)]) hroom (X _ _ lf) rfl hlim (codeRec_of X hcd) rfl (BindsTo.of_eq (by first | rfl | with_unfolding_all rfl)) (by show ∀ y ∈ (L2.defScope Wv.sBadRank).names, y.2 ≠ .cell; decide +kernel) (fun y hy => ?bl) (fun h0 hn0 k0' => ?_) rfl rfl rfl
  case bl =>
    simp only [List.mem_cons, List.not_mem_nil, or_false] at hy
    rcases hy with rfl | rfl <;> first | rfl | kernel_rfl | with_unfolding_all rfl
  have aL : s.heap.objs.size ≠ a := Nat.ne_of_gt (Heap.lt_size ha)
  have X0 : K.In h0 := X.keeps k0'
  have Ka : ∀ {h h' : Heap}, K.In h → (∀ b o, b ≠ a → h.get? b = some o → h'.get? b = some o) → K.In h' := fun {h h'} Y k b o z => k b o (fun y => by rw [y, hna] at z; cases z) (Y b o z)
  have ha0 := k0' _ _ ha
  -- super().__init__(..)
  refine ks_wpAt_execs_cons (ks_wpAt_Expr_any ?_ (by rfl) (by rfl))
  refine super_init (us := [u0]) T X0 (G.keeps k0') (B.keeps k0') hb hn0 ha0 lf lc hvs hfile lcc rfl (by first | rfl | with_unfolding_all rfl | kernel_rfl) rfl rfl rfl rfl (by show 1 ≤ 1000; decide) (fun h1 tk kk Q' hQ => ?_) (by rfl) (by rfl) (by rfl) (fun h1 tk1 t1 kk hx1 => ?_)
  · have hn1 := hn0.keeps kk
    refine Calls.spliced_cons (own_ld (v := u0) hn1 (by first | rfl | with_unfolding_all rfl | kernel_rfl) ?_)
    exact Calls.spliced_nil (hQ _)
  have hn1 : h1.Ns s.heap.objs.size _ := hn0.at fun o z => kk _ _ aL z
  have X1 : K.In h1 := Ka X0 kk
  have sz : s.heap.objs.size < h0.objs.size := hn0.lt
  have sz1 : s.heap.objs.size < h1.objs.size := hn1.lt
  refine ks_wpAt_execs_cons (ks_wpAt_Assign_Attr (wpAt_of_wpAny (own_ld (v := u0) hn1 (by first | rfl | with_unfolding_all rfl | kernel_rfl) (own_ld (v := .ref a) hn1 (by first | rfl | with_unfolding_all rfl | kernel_rfl) ?_))) (by rfl))
  refine put_first T X1 hx1 (by decide) (fun h2 tk2 dx k2' dn dne hx2 nsA0 => ?_)
  have X2 : K.In h2 := Ka X1 k2'
  have hn2 : h2.Ns s.heap.objs.size _ := hn1.at fun o z => k2' _ _ aL z
  have dL : s.heap.objs.size ≠ dx := Nat.ne_of_lt (Nat.lt_of_lt_of_le sz1 dn)
  have dold : s.heap.objs.size ≤ dx := Nat.le_of_lt (Nat.lt_of_lt_of_le sz1 dn)
  have old2 : ∀ b o, b ≠ a → s.heap.get? b = some o → h2.get? b = some o := fun b o hb' z => k2' b o hb' (kk b o hb' (k0' b o z))
  exact wpAt_of_wpAny (wpAny_execs_nil (hq h2 _ dx ⟨old2, ⟨_, hx2⟩, dold, dne, nsA0⟩))
/-! ### BadSign -/
theorem BadSign_init {prog : Program} {w : World} {A : Around} {R : Result → Shared → Prop} {s : Shared} {K : Frag} {mg mb : Str → Option Value} {C fI : Addr} 
    (T : ErrT prog K mg "BadSign" "BadSign.__init__" C fI (L2.defArgs Wv.sBadSign) (L2.defBody Wv.sBadSign) (L2.defScope Wv.sBadSign) ["index"]) {a t0 : Addr} {u0 : Value} (X : K.In s.heap) (G : s.heap.Ns mainGlobals mg) (B : s.heap.Ns builtinsNs mb) (hb : mb "super" = bootBuiltins "super") (hlim : s.heap.NoLimit)
    (ha : s.heap.get? a = some (excO C t0)) (hna : K.lookup a = none) (hroom : A.depth < recursionLimit)
    (hq : ∀ h' tk dx, Ended s.heap h' a C dx (fun y : Str => if y = "index" then some u0 else none) → R (.ok (.ret .none)) { s with heap := h', toks := tk }) :
    codeAny (model prog w) A (.call (.ref fI) ⟨[.ref a, u0], []⟩) R s := by
  obtain ⟨oc, od, doc, pm, an, ct, osl, cc, cda, ccl, cl, cdd, cld, ccs, csl, vs, file, tf, lf, hcd, lc, hvs, hfile, lcc⟩ := T.fn
  refine ks_codeAny_call_defAt (binds := [("self", .ref a), ("index", u0)]) hroom (X _ _ lf) rfl hlim (codeRec_of X hcd) rfl (BindsTo.of_eq (by first | rfl | with_unfolding_all rfl)) (by show ∀ y ∈ (L2.defScope Wv.sBadSign).names, y.2 ≠ .cell; decide +kernel) (fun y hy => ?bl) (fun h0 hn0 k0' => ?_) rfl rfl rfl
  case bl =>
    simp only [List.mem_cons, List.not_mem_nil, or_false] at hy
    rcases hy with rfl | rfl <;> first | rfl | kernel_rfl | with_unfolding_all rfl
  have aL : s.heap.objs.size ≠ a := Nat.ne_of_gt (Heap.lt_size ha)
  have X0 : K.In h0 := X.keeps k0'
  have Ka : ∀ {h h' : Heap}, K.In h → (∀ b o, b ≠ a → h.get? b = some o → h'.get? b = some o) → K.In h' := fun {h h'} Y k b o z => k b o (fun y => by rw [y, hna] at z; cases z) (Y b o z)
  have ha0 := k0' _ _ ha
  -- super().__init__(..)
  refine ks_wpAt_execs_cons (ks_wpAt_Expr_any ?_ (by rfl) (by rfl))
  refine super_init (us := [u0]) T X0 (G.keeps k0') (B.keeps k0') hb hn0 ha0 lf lc hvs hfile lcc rfl (by first | rfl | with_unfolding_all rfl | kernel_rfl) rfl rfl rfl rfl (by show 1 ≤ 1000; decide) (fun h1 tk kk Q' hQ => ?_) (by rfl) (by rfl) (by rfl) (fun h1 tk1 t1 kk hx1 => ?_)
  · have hn1 := hn0.keeps kk
    refine Calls.spliced_cons (own_ld (v := u0) hn1 (by first | rfl | with_unfolding_all rfl | kernel_rfl) ?_)
    exact Calls.spliced_nil (hQ _)
  have hn1 : h1.Ns s.heap.objs.size _ := hn0.at fun o z => kk _ _ aL z
  have X1 : K.In h1 := Ka X0 kk
  have sz : s.heap.objs.size < h0.objs.size := hn0.lt
  have sz1 : s.heap.objs.size < h1.objs.size := hn1.lt
  refine ks_wpAt_execs_cons (ks_wpAt_Assign_Attr (wpAt_of_wpAny (own_ld (v := u0) hn1 (by first | rfl | with_unfolding_all rfl | kernel_rfl) (own_ld (v := .ref a) hn1 (by first | rfl | with_unfolding_all rfl | kernel_rfl) ?_))) (by rfl))
  refine put_first T X1 hx1 (by decide) (fun h2 tk2 dx k2' dn dne hx2 nsA0 => ?_)
  have X2 : K.In h2 := Ka X1 k2'
  have hn2 : h2.Ns s.heap.objs.size _ := hn1.at fun o z => k2' _ _ aL z
  have dL : s.heap.objs.size ≠ dx := Nat.ne_of_lt (Nat.lt_of_lt_of_le sz1 dn)
  have dold : s.heap.objs.size ≤ dx := Nat.le_of_lt (Nat.lt_of_lt_of_le sz1 dn)
  have old2 : ∀ b o, b ≠ a → s.heap.get? b = some o → h2.get? b = some o := fun b o hb' z => k2' b o hb' (kk b o hb' (k0' b o z))
  exact wpAt_of_wpAny (wpAny_execs_nil (hq h2 _ dx ⟨old2, ⟨_, hx2⟩, dold, dne, nsA0⟩))
/-! ### OtherSize -/
theorem OtherSize_init {prog : Program} {w : World} {A : Around} {R : Result → Shared → Prop} {s : Shared} {K : Frag} {mg mb : Str → Option Value} {C fI : Addr} 
    (T : ErrT prog K mg "OtherSize" "OtherSize.__init__" C fI (L2.defArgs Wv.sOtherSize) (L2.defBody Wv.sOtherSize) (L2.defScope Wv.sOtherSize) ["many", "wanted"]) {a t0 : Addr} {u0 u1 : Value} (X : K.In s.heap) (G : s.heap.Ns mainGlobals mg) (B : s.heap.Ns builtinsNs mb) (hb : mb "super" = bootBuiltins "super") (hlim : s.heap.NoLimit)
    (ha : s.heap.get? a = some (excO C t0)) (hna : K.lookup a = none) (hroom : A.depth < recursionLimit)
    (hq : ∀ h' tk dx, Ended s.heap h' a C dx (fun y : Str => if y = "wanted" then some u1 else (if y = "many" then some u0 else none)) → R (.ok (.ret .none)) { s with heap := h', toks := tk }) :
    codeAny (model prog w) A (.call (.ref fI) ⟨[.ref a, u0, u1], []⟩) R s := by
  obtain ⟨oc, od, doc, pm, an, ct, osl, cc, cda, ccl, cl, cdd, cld, ccs, csl, vs, file, tf, lf, hcd, lc, hvs, hfile, lcc⟩ := T.fn
  refine ks_codeAny_call_defAt (binds := [("self", .ref a), ("many", u0), ("wanted", u1)]) hroom (X _ _ lf) rfl hlim (codeRec_of X hcd) rfl (BindsTo.of_eq (by first | rfl | with_unfolding_all rfl)) (by show ∀ y ∈ (L2.defScope Wv.sOtherSize).names, y.2 ≠ .cell; decide +kernel) (fun y hy => ?bl) (fun h0 hn0 k0' => ?_) rfl rfl rfl
  case bl =>
    simp only [List.mem_cons, List.not_mem_nil, or_false] at hy
    rcases hy with rfl | rfl | rfl <;> first | rfl | kernel_rfl | with_unfolding_all rfl
  have aL : s.heap.objs.size ≠ a := Nat.ne_of_gt (Heap.lt_size ha)
  have X0 : K.In h0 := X.keeps k0'
  have Ka : ∀ {h h' : Heap}, K.In h → (∀ b o, b ≠ a → h.get? b = some o → h'.get? b = some o) → K.In h' := fun {h h'} Y k b o z => k b o (fun y => by rw [y, hna] at z; cases z) (Y b o z)
  have ha0 := k0' _ _ ha
  -- super().__init__(..)
  refine ks_wpAt_execs_cons (ks_wpAt_Expr_any ?_ (by rfl) (by rfl))
  refine super_init (us := [u0, u1]) T X0 (G.keeps k0') (B.keeps k0') hb hn0 ha0 lf lc hvs hfile lcc rfl (by first | rfl | with_unfolding_all rfl | kernel_rfl) rfl rfl rfl rfl (by show 2 ≤ 1000; decide) (fun h1 tk kk Q' hQ => ?_) (by rfl) (by rfl) (by rfl) (fun h1 tk1 t1 kk hx1 => ?_)
  · have hn1 := hn0.keeps kk
    refine Calls.spliced_cons (own_ld (v := u0) hn1 (by first | rfl | with_unfolding_all rfl | kernel_rfl) ?_)
    refine Calls.spliced_cons (own_ld (v := u1) hn1 (by first | rfl | with_unfolding_all rfl | kernel_rfl) ?_)
    exact Calls.spliced_nil (hQ _)
  have hn1 : h1.Ns s.heap.objs.size _ := hn0.at fun o z => kk _ _ aL z
  have X1 : K.In h1 := Ka X0 kk
  have sz : s.heap.objs.size < h0.objs.size := hn0.lt
  have sz1 : s.heap.objs.size < h1.objs.size := hn1.lt
  refine ks_wpAt_execs_cons (ks_wpAt_Assign_Attr (wpAt_of_wpAny (own_ld (v := u0) hn1 (by first | rfl | with_unfolding_all rfl | kernel_rfl) (own_ld (v := .ref a) hn1 (by first | rfl | with_unfolding_all rfl | kernel_rfl) ?_))) (by rfl))
  refine put_first T X1 hx1 (by decide) (fun h2 tk2 dx k2' dn dne hx2 nsA0 => ?_)
  have X2 : K.In h2 := Ka X1 k2'
  have hn2 : h2.Ns s.heap.objs.size _ := hn1.at fun o z => k2' _ _ aL z
  have dL : s.heap.objs.size ≠ dx := Nat.ne_of_lt (Nat.lt_of_lt_of_le sz1 dn)
  have dold : s.heap.objs.size ≤ dx := Nat.le_of_lt (Nat.lt_of_lt_of_le sz1 dn)
  have old2 : ∀ b o, b ≠ a → s.heap.get? b = some o → h2.get? b = some o := fun b o hb' z => k2' b o hb' (kk b o hb' (k0' b o z))
  refine ks_wpAt_execs_cons (ks_wpAt_Assign_Attr (wpAt_of_wpAny (own_ld (v := u1) hn2 (by first | rfl | with_unfolding_all rfl | kernel_rfl) (own_ld (v := .ref a) hn2 (by first | rfl | with_unfolding_all rfl | kernel_rfl) ?_))) (by rfl))
  have wi1 : Within (fun y : Str => if y = "many" then some u0 else none) ["many"] := fun y hy => by
    by_cases h0 : y = "many"
    · simp [h0]
    · exact absurd (by simp [h0]) hy
  refine put_next T X2 hx2 nsA0 wi1 (by show 1 ≤ 1000; decide) (by decide) (fun h3 tk3 k3' nsA1 => ?_)
  have dK : ∀ b o, K.lookup b = some o → b ≠ dx := fun b o z y => by
    have q := X b o z
    rw [y] at q
    exact absurd (Heap.lt_size q) (Nat.not_lt.mpr dold)
  have X3 : K.In h3 := fun b o z => k3' b o (dK b o z) (X2 b o z)
  have hn3 : h3.Ns s.heap.objs.size _ := hn2.at fun o z => k3' _ _ dL z
  have hx3 := k3' _ _ dne.symm hx2
  have old3 : ∀ b o, b ≠ a → s.heap.get? b = some o → h3.get? b = some o := fun b o hb' z => k3' b o (fun y => by
    rw [y] at z
    exact absurd (Heap.lt_size z) (Nat.not_lt.mpr dold)) (old2 b o hb' z)
  exact wpAt_of_wpAny (wpAny_execs_nil (hq h3 _ dx ⟨old3, ⟨_, hx3⟩, dold, dne, nsA1⟩))
/-! ### TooMany -/
theorem TooMany_init {prog : Program} {w : World} {A : Around} {R : Result → Shared → Prop} {s : Shared} {K : Frag} {mg mb : Str → Option Value} {C fI : Addr} 
    (T : ErrT prog K mg "TooMany" "TooMany.__init__" C fI (L2.defArgs Wv.sTooMany) (L2.defBody Wv.sTooMany) (L2.defScope Wv.sTooMany) ["what", "many", "most"]) {a t0 : Addr} {u0 u1 u2 : Value} (X : K.In s.heap) (G : s.heap.Ns mainGlobals mg) (B : s.heap.Ns builtinsNs mb) (hb : mb "super" = bootBuiltins "super") (hlim : s.heap.NoLimit)
    (ha : s.heap.get? a = some (excO C t0)) (hna : K.lookup a = none) (hroom : A.depth < recursionLimit)
    (hq : ∀ h' tk dx, Ended s.heap h' a C dx (fun y : Str => if y = "most" then some u2 else (if y = "many" then some u1 else (if y = "what" then some u0 else none))) → R (.ok (.ret .none)) { s with heap := h', toks := tk }) :
    codeAny (model prog w) A (.call (.ref fI) ⟨[.ref a, u0, u1, u2], []⟩) R s := by
  obtain ⟨oc, od, doc, pm, an, ct, osl, cc, cda, ccl, cl, cdd, cld, ccs, csl, vs, file, tf, lf, hcd, lc, hvs, hfile, lcc⟩ := T.fn
  refine ks_codeAny_call_defAt (binds := [("self", .ref a), ("what", u0), ("many", u1), ("most", u2)]) hroom (X _ _ lf) rfl hlim (codeRec_of X hcd) rfl (BindsTo.of_eq (by first | rfl | with_unfolding_all rfl)) (by show ∀ y ∈ (L2.defScope Wv.sTooMany).names, y.2 ≠ .cell; decide +kernel) (fun y hy => ?bl) (fun h0 hn0 k0' => ?_) rfl rfl rfl
  case bl =>
    simp only [List.mem_cons, List.not_mem_nil, or_false] at hy
    rcases hy with rfl | rfl | rfl | rfl <;> first | rfl | kernel_rfl | with_unfolding_all rfl
  have aL : s.heap.objs.size ≠ a := Nat.ne_of_gt (Heap.lt_size ha)
  have X0 : K.In h0 := X.keeps k0'
  have Ka : ∀ {h h' : Heap}, K.In h → (∀ b o, b ≠ a → h.get? b = some o → h'.get? b = some o) → K.In h' := fun {h h'} Y k b o z => k b o (fun y => by rw [y, hna] at z; cases z) (Y b o z)
  have ha0 := k0' _ _ ha
  -- super().__init__(..)
  refine ks_wpAt_execs_cons (ks_wpAt_Expr_any ?_ (by rfl) (by rfl))
  refine super_init (us := [u0, u1, u2]) T X0 (G.keeps k0') (B.keeps k0') hb hn0 ha0 lf lc hvs hfile lcc rfl (by first | rfl | with_unfolding_all rfl | kernel_rfl) rfl rfl rfl rfl (by show 3 ≤ 1000; decide) (fun h1 tk kk Q' hQ => ?_) (by rfl) (by rfl) (by rfl) (fun h1 tk1 t1 kk hx1 => ?_)
  · have hn1 := hn0.keeps kk
    refine Calls.spliced_cons (own_ld (v := u0) hn1 (by first | rfl | with_unfolding_all rfl | kernel_rfl) ?_)
    refine Calls.spliced_cons (own_ld (v := u1) hn1 (by first | rfl | with_unfolding_all rfl | kernel_rfl) ?_)
    refine Calls.spliced_cons (own_ld (v := u2) hn1 (by first | rfl | with_unfolding_all rfl | kernel_rfl) ?_)
    exact Calls.spliced_nil (hQ _)
  have hn1 : h1.Ns s.heap.objs.size _ := hn0.at fun o z => kk _ _ aL z
  have X1 : K.In h1 := Ka X0 kk
  have sz : s.heap.objs.size < h0.objs.size := hn0.lt
  have sz1 : s.heap.objs.size < h1.objs.size := hn1.lt
  refine ks_wpAt_execs_cons (ks_wpAt_Assign_Attr (wpAt_of_wpAny (own_ld (v := u0) hn1 (by first | rfl | with_unfolding_all rfl | kernel_rfl) (own_ld (v := .ref a) hn1 (by first | rfl | with_unfolding_all rfl | kernel_rfl) ?_))) (by rfl))
  refine put_first T X1 hx1 (by decide) (fun h2 tk2 dx k2' dn dne hx2 nsA0 => ?_)
  have X2 : K.In h2 := Ka X1 k2'
  have hn2 : h2.Ns s.heap.objs.size _ := hn1.at fun o z => k2' _ _ aL z
  have dL : s.heap.objs.size ≠ dx := Nat.ne_of_lt (Nat.lt_of_lt_of_le sz1 dn)
  have dold : s.heap.objs.size ≤ dx := Nat.le_of_lt (Nat.lt_of_lt_of_le sz1 dn)
  have old2 : ∀ b o, b ≠ a → s.heap.get? b = some o → h2.get? b = some o := fun b o hb' z => k2' b o hb' (kk b o hb' (k0' b o z))
  refine ks_wpAt_execs_cons (ks_wpAt_Assign_Attr (wpAt_of_wpAny (own_ld (v := u1) hn2 (by first | rfl | with_unfolding_all rfl | kernel_rfl) (own_ld (v := .ref a) hn2 (by first | rfl | with_unfolding_all rfl | kernel_rfl) ?_))) (by rfl))
  have wi1 : Within (fun y : Str => if y = "what" then some u0 else none) ["what"] := fun y hy => by
    by_cases h0 : y = "what"
    · simp [h0]
    · exact absurd (by simp [h0]) hy
  refine put_next T X2 hx2 nsA0 wi1 (by show 1 ≤ 1000; decide) (by decide) (fun h3 tk3 k3' nsA1 => ?_)
  have dK : ∀ b o, K.lookup b = some o → b ≠ dx := fun b o z y => by
    have q := X b o z
    rw [y] at q
    exact absurd (Heap.lt_size q) (Nat.not_lt.mpr dold)
  have X3 : K.In h3 := fun b o z => k3' b o (dK b o z) (X2 b o z)
  have hn3 : h3.Ns s.heap.objs.size _ := hn2.at fun o z => k3' _ _ dL z
  have hx3 := k3' _ _ dne.symm hx2
  have old3 : ∀ b o, b ≠ a → s.heap.get? b = some o → h3.get? b = some o := fun b o hb' z => k3' b o (fun y => by
    rw [y] at z
    exact absurd (Heap.lt_size z) (Nat.not_lt.mpr dold)) (old2 b o hb' z)
  refine ks_wpAt_execs_cons (ks_wpAt_Assign_Attr (wpAt_of_wpAny (own_ld (v := u2) hn3 (by first | rfl | with_unfolding_all rfl | kernel_rfl) (own_ld (v := .ref a) hn3 (by first | rfl | with_unfolding_all rfl | kernel_rfl) ?_))) (by rfl))
  have wi2 : Within (fun y : Str => if y = "many" then some u1 else (if y = "what" then some u0 else none)) ["what", "many"] := fun y hy => by
    by_cases h0 : y = "what"
    · simp [h0]
    · by_cases h1 : y = "many"
      · simp [h1]
      · exact absurd (by simp [h0, h1]) hy
  refine put_next T X3 hx3 nsA1 wi2 (by show 2 ≤ 1000; decide) (by decide) (fun h4 tk4 k4' nsA2 => ?_)
  have dK : ∀ b o, K.lookup b = some o → b ≠ dx := fun b o z y => by
    have q := X b o z
    rw [y] at q
    exact absurd (Heap.lt_size q) (Nat.not_lt.mpr dold)
  have X4 : K.In h4 := fun b o z => k4' b o (dK b o z) (X3 b o z)
  have hn4 : h4.Ns s.heap.objs.size _ := hn3.at fun o z => k4' _ _ dL z
  have hx4 := k4' _ _ dne.symm hx3
  have old4 : ∀ b o, b ≠ a → s.heap.get? b = some o → h4.get? b = some o := fun b o hb' z => k4' b o (fun y => by
    rw [y] at z
    exact absurd (Heap.lt_size z) (Nat.not_lt.mpr dold)) (old3 b o hb' z)
  exact wpAt_of_wpAny (wpAny_execs_nil (hq h4 _ dx ⟨old4, ⟨_, hx4⟩, dold, dne, nsA2⟩))
end WvE
end PySem
set_option Elab.async false
set_option linter.all false
set_option maxRecDepth 100000
set_option maxHeartbeats 4000000
namespace PySem
namespace WvE
open PySem.W PySem.Calls PyProof.Rows PySem.HandSPX
/-- __init__ of an error's class: its fields are its arguments -/
def InitOk (prog : Program) (w : World) (K : Frag) (mg : Str → Option Value) (C fI : Addr) (fs : List Str) : Prop :=
  ∀ {A : Around} {R : Result → Shared → Prop} {s : Shared} {mb : Str → Option Value} {a t0 : Addr} (us : List Value), us.length = fs.length → K.In s.heap → s.heap.Ns mainGlobals mg → s.heap.Ns builtinsNs mb → mb "super" = bootBuiltins "super" → s.heap.NoLimit →
    s.heap.get? a = some (excO C t0) → K.lookup a = none → A.depth < recursionLimit →
    (∀ h' tk dx m, Ended s.heap h' a C dx m → (∀ vs, L2.Vals vs us → ∀ f, L2.RelO ((fs.zip vs).lookup f) (m f)) → R (.ok (.ret .none)) { s with heap := h', toks := tk }) →
    codeAny (model prog w) A (.call (.ref fI) ⟨.ref a :: us, []⟩) R s
theorem lk1 {f g : Str} {v : L2.V} {l : List (Str × L2.V)} : ((f, v) :: l).lookup g = if g = f then some v else l.lookup g := by
  by_cases e : g = f
  · subst e
    simp [List.lookup]
  · have q : (g == f) = false := by simpa using e
    rw [if_neg e]
    simp [List.lookup, q]
section
variable {prog : Program} {w : World} {K : Frag} {mg : Str → Option Value} {C fI : Addr}
theorem init_BadRank (T : ErrT prog K mg "BadRank" "BadRank.__init__" C fI (L2.defArgs Wv.sBadRank) (L2.defBody Wv.sBadRank) (L2.defScope Wv.sBadRank) ["rank"]) : InitOk prog w K mg C fI ["rank"] := by
  intro A R s mb a t0 us hl X G B hb hlim ha hna hroom hq
  match us, hl with
  | [u0], _ =>
    refine BadRank_init T X G B hb hlim ha hna hroom fun h' tk dx E => hq h' tk dx _ E fun vs r f => ?_
    cases r with
    | cons r0 r =>
      cases r
      show L2.RelO (List.lookup f [(("rank" : Str), _)]) _
      rw [lk1]
      by_cases e : f = "rank"
      · rw [if_pos e, if_pos e]
        exact r0
      · rw [if_neg e, if_neg e]
        exact True.intro
theorem init_BadSign (T : ErrT prog K mg "BadSign" "BadSign.__init__" C fI (L2.defArgs Wv.sBadSign) (L2.defBody Wv.sBadSign) (L2.defScope Wv.sBadSign) ["index"]) : InitOk prog w K mg C fI ["index"] := by
  intro A R s mb a t0 us hl X G B hb hlim ha hna hroom hq
  match us, hl with
  | [u0], _ =>
    refine BadSign_init T X G B hb hlim ha hna hroom fun h' tk dx E => hq h' tk dx _ E fun vs r f => ?_
    cases r with
    | cons r0 r =>
      cases r
      show L2.RelO (List.lookup f [(("index" : Str), _)]) _
      rw [lk1]
      by_cases e : f = "index"
      · rw [if_pos e, if_pos e]
        exact r0
      · rw [if_neg e, if_neg e]
        exact True.intro
theorem init_OtherSize (T : ErrT prog K mg "OtherSize" "OtherSize.__init__" C fI (L2.defArgs Wv.sOtherSize) (L2.defBody Wv.sOtherSize) (L2.defScope Wv.sOtherSize) ["many", "wanted"]) : InitOk prog w K mg C fI ["many", "wanted"] := by
  intro A R s mb a t0 us hl X G B hb hlim ha hna hroom hq
  match us, hl with
  | [u0, u1], _ =>
    refine OtherSize_init T X G B hb hlim ha hna hroom fun h' tk dx E => hq h' tk dx _ E fun vs r f => ?_
    cases r with
    | cons r0 r =>
      cases r with
      | cons r1 r =>
        cases r
        show L2.RelO (List.lookup f [(("many" : Str), _), (("wanted" : Str), _)]) _
        rw [lk1, lk1]
        have ne : ¬ (("many" : Str) = "wanted") := by decide +kernel
        by_cases e : f = "many"
        · rw [if_pos e, if_neg (by rw [e]; exact ne), if_pos e]
          exact r0
        · rw [if_neg e]
          by_cases e1 : f = "wanted"
          · rw [if_pos e1, if_pos e1]
            exact r1
          · rw [if_neg e1, if_neg e1, if_neg e]
            exact True.intro
theorem init_TooMany (T : ErrT prog K mg "TooMany" "TooMany.__init__" C fI (L2.defArgs Wv.sTooMany) (L2.defBody Wv.sTooMany) (L2.defScope Wv.sTooMany) ["what", "many", "most"]) : InitOk prog w K mg C fI ["what", "many", "most"] := by
  intro A R s mb a t0 us hl X G B hb hlim ha hna hroom hq
  match us, hl with
  | [u0, u1, u2], _ =>
    refine TooMany_init T X G B hb hlim ha hna hroom fun h' tk dx E => hq h' tk dx _ E fun vs r f => ?_
    cases r with
    | cons r0 r =>
      cases r with
      | cons r1 r =>
        cases r with
        | cons r2 r =>
          cases r
          show L2.RelO (List.lookup f [(("what" : Str), _), (("many" : Str), _), (("most" : Str), _)]) _
          rw [lk1, lk1, lk1]
          have n1 : ¬ (("what" : Str) = "many") := by decide +kernel
          have n2 : ¬ (("what" : Str) = "most") := by decide +kernel
          have n3 : ¬ (("many" : Str) = "most") := by decide +kernel
          by_cases e : f = "what"
          · rw [if_pos e, if_neg (by rw [e]; exact n2), if_neg (by rw [e]; exact n1), if_pos e]
            exact r0
          · rw [if_neg e]
            by_cases e1 : f = "many"
            · rw [if_pos e1, if_neg (by rw [e1]; exact n3), if_pos e1]
              exact r1
            · rw [if_neg e1]
              by_cases e2 : f = "most"
              · rw [if_pos e2, if_pos e2]
                exact r2
              · rw [if_neg e2, if_neg e2, if_neg e1, if_neg e]
                exact True.intro
variable {A : Around} {R : Result → Shared → Prop} {s : Shared} {x qual : Str} {params : Arguments} {body : List Stmt} {sc : Scope} {fs : List Str}
/-- an error that is made: its fields stand in its dict -/
structure Made (h h' : Heap) (e C d : Addr) (m : Str → Option Value) : Prop where
  keep : ∀ b o, h.get? b = some o → h'.get? b = some o
  new : h.objs.size ≤ e
  obj : ∃ oe vs, h'.get? e = some oe ∧ oe.cls = .ref C ∧ oe.dict = some d ∧ oe.data = .fields vs ∧ vs[1]? = some .none
  dbig : h.objs.size ≤ d
  dne : d ≠ e
  ns : h'.Ns1 d m
theorem err_made (T : ErrT prog K mg x qual C fI params body sc fs) (Ini : InitOk prog w K mg C fI fs) {mb : Str → Option Value} (us : List Value) (hl : us.length = fs.length) (hf : fs.length ≤ 1000) (X : K.In s.heap) (G : s.heap.Ns mainGlobals mg) (B : s.heap.Ns builtinsNs mb) (hb : mb "super" = bootBuiltins "super") (hlim : s.heap.NoLimit) (hroom : A.depth + 1 < recursionLimit)
    (hq : ∀ h' tk e d m, Made s.heap h' e C d m → (∀ vs, L2.Vals vs us → ∀ f, L2.RelO ((fs.zip vs).lookup f) (m f)) → R (.ok (.ret (.ref e))) { s with heap := h', toks := tk }) :
    codeAny (model prog w) A (.call (.ref C) ⟨us, []⟩) R s := by
  obtain ⟨nm, q, N, bs, bm, sn, sub, ab, col, dd, k0, k1, k2, k3, k5, hC, hbm⟩ := T.cls
  obtain ⟨hp, g, dr, tk, os⟩ := s
  have k : ∀ b o, hp.get? b = some o → ((hp.push (kdv_tup us)).push (excO C hp.objs.size)).get? b = some o := fun b o e => Heap.get?_push_of_some _ (Heap.get?_push_of_some _ e)
  have hget : ((hp.push (kdv_tup us)).push (excO C hp.objs.size)).get? (hp.objs.size + 1) = some (excO C hp.objs.size) := by heap_get
  have hnx : K.lookup (hp.objs.size + 1) = none := by
    cases e : K.lookup (hp.objs.size + 1) with
    | none => rfl
    | some o => exact absurd (Nat.lt_of_succ_lt (Heap.lt_size (X _ _ e))) (Nat.lt_irrefl _)
  refine call_own F.excBase_ValueError (fun X => refsVE_contains X bm hbm) (X _ _ hC) (looks_findIn X T.iC) (fun self => bind_fn X self T.tC) (room_line (by omega)) ?_
  refine Ini (s := ⟨(hp.push (kdv_tup us)).push (excO C hp.objs.size), g, dr, tk, os⟩) us hl (X.keeps k) (G.keeps k) (B.keeps k) hb (hlim.keeps k) hget hnx (by show A.depth + 1 < recursionLimit; exact hroom) fun h' tk' dx m ⟨k', ⟨t1, hx⟩, dn, dne, hns⟩ rel => ?_
  have old : ∀ b o, hp.get? b = some o → h'.get? b = some o := fun b o e => k' b o (Nat.ne_of_lt (Nat.lt_succ_of_lt (Heap.lt_size e))) (k b o e)
  have z : hp.objs.size + 1 + 1 ≤ dx := by
    first
      | (simpa only [Heap.size_push] using dn)
      | exact dn
  exact ⟨rfl, hq h' tk' (hp.objs.size + 1) dx m ⟨old, Nat.le_succ _, ⟨_, _, hx, rfl, rfl, rfl, rfl⟩, Nat.le_trans (Nat.le_trans (Nat.le_succ _) (Nat.le_succ _)) z, dne, hns⟩ rel⟩
end
end WvE
end PySem
namespace L2
open PySem PySem.Spec PyProof.Rows
section
variable {X : Cx} {C fI : Addr} {x qual : Str} {params : Arguments} {body : List Stmt} {sc : Scope} {fs : List Str}
/-- C(e, ..): the error's fields are the arguments -/
def tMkE (C : Addr) (fs : List Str) (ta : TA) : St → Hp → XK → Prop := fun σ H Q => ta σ H fun vs H1 => vs.length = fs.length ∧ ∀ d, H1 d = none → Q (.ref C) (some d) (upd H1 d (.xd (fs.zip vs)))
theorem pmk_err {e : Expr} {es : List Expr} {ta : TA} {p pos : Pos} {k : Nat} (T : PySem.WvE.ErrT X.prog X.K X.mg x qual C fI params body sc fs) (Ini : PySem.WvE.InitOk X.prog X.w X.K X.mg C fI fs) (hf : fs.length ≤ 1000) (hr : Room k X.A) (ha : PA X (e :: es) ta) (hg : Gl X x) (hdb : (x == ("__debug__" : Str)) = false := by decide)
    (he : starEach (e :: es) X.env = (false, eval e X.env) :: starEach es X.env := by rfl) (hpl : (backTo pos (starEach es X.env)).any (·.1) = false := by rfl) :
    PMk X (.Call (.Name x p) (e :: es) [] pos) (tMkE C fs ta) := by
  intro pins s σ H Q I h
  refine wpAny_Call_Name_kw (ld_glob I hg T.gC ?_ hdb)
  refine PySem.W.callWith_K (h₀ := X.base) I.ok.mod.kin T.kC (thn (ha.run pos pins s σ H _ I h) fun us s1 ⟨vs, H1, I1, r1, hl, q1⟩ => ?_) he hpl
  refine ⟨I1.kIn, ?_⟩
  show wpAny _ _ (call (.ref C) us) _ _ _
  have hlim := I1.nolimit
  obtain ⟨mb, hb1, hb2⟩ := I1.mod.blt
  have G := I1.mod.glob.keeps I1.bk
  have B := hb1.keeps I1.bk
  have hlu : us.length = fs.length := r1.length.symm.trans hl
  obtain ⟨hp, g, dr, tk, os⟩ := s1
  refine wpAny_call (PySem.WvE.err_made (mb := mb) T Ini us hlu hf I1.kIn G B (hb2 "super" (by decide)) hlim (by have := hr.dp; omega) fun h' tk' e d m M rel => ?_)
  show MkP X pins σ Q (.ref e) ⟨h', g, dr, tk', os⟩
  obtain ⟨oe, fv, hoe, hc, hd, hdat, h1⟩ := M.obj
  obtain ⟨G', g1, g2⟩ := restrict h' fun b => decide (b ≠ e)
  have gk : ∀ b, b ≠ e → G'.get? b = h'.get? b := fun b hb => g1 b (decide_eq_true hb)
  have ge : G'.get? e = none := g2 e (by simp)
  have old : ∀ b o, hp.get? b = some o → G'.get? b = some o := fun b o q => (gk b (Nat.ne_of_lt (Nat.lt_of_lt_of_le (Heap.lt_size q) M.new))).trans (M.keep b o q)
  have ob : ObjOk X.prog X.w (upd H1 d (.xd (fs.zip vs))) G' d (.xd (fs.zip vs)) := ⟨m, M.ns.at (fun o q => (gk d M.dne).trans q), rel vs r1⟩
  have J : Inv X pins σ (upd H1 d (.xd (fs.zip vs))) ⟨G', g, dr, tk', os⟩ := I1.laid (t' := tk') old M.dbig ob
  refine ⟨e, oe, fv, ⟨G', g, dr, tk', os⟩, _, .ref C, some d, rfl, J, fun b o q => ?_, ge, hoe, ⟨hc, hd⟩, hdat, h1, ?_, rfl, I1.bare, raises_own T.exC T.tyC, q1 d (I1.hok.fresh M.dbig)⟩
  · by_cases hb : b = e
    · have q' : G'.get? b = some o := q
      rw [hb, ge] at q'
      cases q'
    · exact (gk b hb).symm.trans q
  · rw [upd_ne (Ne.symm M.dne)]
    exact I1.hok.fresh M.new
/-- raise C(e, ..) -/
def tRsE (C : Addr) (fs : List Str) (W : WX) (ta : TA) : TS := fun _ σ H => tMkE C fs ta σ H fun cls d H' => W cls d σ H'
theorem ps_rsE {e : Expr} {es : List Expr} {ta : TA} {W : WX} {p pos pos2 : Pos} {k : Nat} (hc : X.calm = true) (T : PySem.WvE.ErrT X.prog X.K X.mg x qual C fI params body sc fs) (Ini : PySem.WvE.InitOk X.prog X.w X.K X.mg C fI fs) (hf : fs.length ≤ 1000) (hr : Room k X.A) (tk : Takes X W) (ha : PA X (e :: es) ta) (hg : Gl X x) (hdb : (x == ("__debug__" : Str)) = false := by decide)
    (he : starEach (e :: es) X.env = (false, eval e X.env) :: starEach es X.env := by rfl) (hpl : (backTo pos (starEach es X.env)).any (·.1) = false := by rfl) :
    PS X (.Raise (some (.Call (.Name x p) (e :: es) [] pos)) none pos2) (tRsE C fs W ta) := ps_raise hc tk (pmk_err T Ini hf hr ha hg hdb he hpl)
end
end L2
set_option Elab.async false
set_option linter.all false
set_option maxRecDepth 100000
set_option maxHeartbeats 4000000
namespace L2
open PySem PySem.Spec PyProof.Rows
/-! ### several clauses «except x as n», one name n in slot i -/
/-- the ends of a suite: n is gone behind it -/
def gone (i : Nat) (D : Ends) : Ends := { nx := fun σ H => D.nx (σ.set i none) H, rt := D.rt, bk := fun σ H => D.bk (σ.set i none) H, ct := fun σ H => D.ct (σ.set i none) H }
def wAll (K : PySem.W.Frag) (Wout : WX) (i : Nat) (D : Ends) : List (Value × (Addr → Value → Option Addr → TS)) → WX
  | [] => Wout
  | (c, ts) :: r => fun cls d σ H => ∃ b, PySem.W.exmOne K cls c = some b ∧ (b = true → ∀ a, H a = none → ts a cls d (gone i D) (σ.set i (some (.ref a))) H) ∧ (b = false → wAll K Wout i D r cls d σ H)
inductive HdsAs (X : Cx) (n : Str) : List ExceptHandler → List (Value × (Addr → Value → Option Addr → TS)) → Prop
  | nil : HdsAs X n [] []
  | cons {x : Str} {c : Value} {ts : Addr → Value → Option Addr → TS} {b₀ : Stmt} {suite : List Stmt} {np pos' : Pos} {hds : List ExceptHandler} {l : List (Value × (Addr → Value → Option Addr → TS))} (hc : Names X x c)
      (hsu : ∀ (a : Addr) (oe : Obj) (cls : Value) (d : Option Addr) (pn : List (Addr × Obj)), Zc cls d oe → (∃ vs, oe.data = .fields vs) → PSs (X.suite a ((a, oe) :: pn)) (b₀ :: suite) (ts a cls d)) (r : HdsAs X n hds l) :
      HdsAs X n (.ExceptHandler (some (.Name x np)) (some n) (b₀ :: suite) pos' :: hds) ((c, ts) :: l)
section
variable {X : Cx} {body : List Stmt} {n : Str} {i : Nat} {h₀ : ExceptHandler} {hds : List ExceptHandler} {l : List (Value × (Addr → Value → Option Addr → TS))} {pos : Pos} {tb : WX → TS} {Wout : WX}
/-- the clauses one after the other, from the state behind the catch -/
theorem handle_all {pins : List (Addr × Obj)} {σ : St} {H : Hp} {D : Ends} {a : Addr} {B : Heap} {sI s : Shared} {h3 : Heap} {cls : Value} {d : Option Addr} {oe3 : Obj} {vs3 : Array Value} (ok : X.Ok) (hs : X.stack = X.env :: X.outer) (hf : X.env.frame = some X.env.locals)
    (hN : X.N.Nodup) (hi : X.N[i]? = some n) (hln : X.env.kindOf n = some .local) (tk : Takes X Wout)
    (J : Inv X pins σ H sI) (nb : ∀ b o, sI.heap.get? b = some o → b ∉ frs X.stack → B.get? b = some o) (up : sI.heap.UpToSlots s.heap) (up3 : s.heap.UpToSlots h3) (na : H a = none) (os : s.os = sI.os) (ag : AllBare s.gens)
    (fl3 : HandSPX.FlyingZ B (X.env :: X.outer) a (Zc cls d) h3) (nL : a ≠ X.env.locals) (nF : a ∉ X.fs) (he3 : h3.get? a = some oe3) (hz3 : Zc cls d oe3) (hd3 : oe3.data = .fields vs3)
    {hds' : List ExceptHandler} {l' : List (Value × (Addr → Value → Option Addr → TS))} (hk : HdsAs X n hds' l') :
    wAll X.K Wout i D l' cls d σ H → wpAny (model X.prog X.w) X.A (handleBy (.ref a) X.env hds') (SP X pins D) X.xe { s with heap := h3 } := by
  have hfr : X.A.frames = some (X.env :: X.outer) := by rw [ok.frames, hs]
  have J3 : Inv X pins σ H { s with heap := h3 } := J.landed nb fl3.1 (up.trans up3) os ag
  have S3 := J3.suite he3 hd3 na nL nF
  induction hk with
  | nil =>
    intro w
    refine wpAny_handleBy_nil ?_
    obtain ⟨k1, k2, k3, oe, vs, T, oT, ts', he, hz, hd, h1, hr⟩ := id fl3
    unfold PySem.passOn
    refine wpAny_bind (wpAny_field he hd h1 ?_)
    rw [if_neg (show ¬ ((Value.ref T == Value.none) = true) from by simp)]
    have fin : wpAny (model X.prog X.w) X.A (setFlight (.ref a) X.env.frame) (fun _ s4 => wpAny (model X.prog X.w) X.A (throw (.ref a) : Sem Flow) (SP X pins D) X.xe s4) X.xe { s with heap := h3 } := by
      rw [hf]
      exact HandSPX.setFlight_upZ fl3 fun h4 hh4 up4 => wpAny_throw (tk _ _ ⟨a, B, sI, pins, σ, H, cls, d, rfl, J, nb, (up.trans up3).trans up4, .inr (.inr (by rw [hs]; exact hh4)), na, os, ag, w⟩)
    first
      | exact wpAny_bind (wpAny_pure (wpAny_bind fin))
      | exact wpAny_bind fin
  | @cons x c ts b₀ suite np pos' hds2 l2 hc hsu r ih =>
    intro w
    obtain ⟨b, hb1, hyes, hno⟩ := w
    refine wpAny_handleBy_cons (codeAny_handlers_test ?_) (by intro q; cases q)
    have LT : PySem.W.Looks (model X.prog X.w) h3 (typeOf (.ref a)) cls := fun A Q E s k q => wpAny_typeOf_ref (k _ _ he3) (by rw [hz3.1]; exact q)
    have LM := PySem.W.exm_one (M := model X.prog X.w) (J3.kIn) LT hb1
    have test : ∀ {Q : Value → Shared → Prop} {E : Value → Shared → Prop}, Q c { s with heap := h3 } → wpAny (model X.prog X.w) (X.A.mark (some (.ref a))) (eval (.Name x np) X.env) Q E { s with heap := h3 } := fun {Q E} q => by
      rcases hc with ⟨hg, hdbg, hm | ⟨hm, hv, hnn⟩⟩
      · exact ld_glob (X := X.suite a ((a, oe3) :: (X.pn ++ pins))) S3 hg hm q hdbg
      · exact ld_blt (X := X.suite a ((a, oe3) :: (X.pn ++ pins))) S3 hg hm hv q hnn hdbg
    refine test (LM.here ?_)
    cases b with
    | false => exact ih (hno rfl)
    | true =>
      refine codeAny_handlers_suite_as (HandSPX.lands_againZ fl3 fun h4 fl4 up4 => ?_)
      have J4 : Inv X pins σ H { s with heap := h4 } := J.landed nb fl4.1 ((up.trans up3).trans up4) os ag
      obtain ⟨oe4, vs4, he4, hz4, hd4⟩ := fl4.there
      have S4 := J4.suite he4 hd4 na nL nF
      refine store_ok (X := X.suite a ((a, oe4) :: (X.pn ++ pins))) (v := .ref a) S4 hN hi (.inl hln) rfl (fun s5 S5 => ?_) (.inr hln)
      refine wpAny_mono ((hsu a oe4 cls d (X.pn ++ pins) hz4 ⟨_, hd4⟩).run [] s5 _ H _ S5 (hyes rfl a na)) (fun f s6 hsp => ?_) (fun _ _ z => False.elim z)
      have end_ : ∀ {σ6 : St} {H6 : Hp} {Q : Shared → Prop}, Inv (X.suite a ((a, oe4) :: (X.pn ++ pins))) [] σ6 H6 s6 → (∀ s7, Inv X pins (σ6.set i none) H6 s7 → Q s7) →
          wpAny (model X.prog X.w) X.A (do bindName X.env n .none; unbindBehindTheSuite X.env n pos') (fun _ s7 => Q s7) X.xe s6 := fun {σ6 H6 Q} S6 hq => gone_ok (S6.unsuite ok) hN hi hln hq
      cases f with
      | next =>
        obtain ⟨σ6, H6, S6, q6⟩ := hsp
        exact end_ S6 fun s7 J7 => ⟨_, _, J7, q6⟩
      | brk =>
        obtain ⟨σ6, H6, S6, q6⟩ := hsp
        exact end_ S6 fun s7 J7 => ⟨_, _, J7, q6⟩
      | cont =>
        obtain ⟨σ6, H6, S6, q6⟩ := hsp
        exact end_ S6 fun s7 J7 => ⟨_, _, J7, q6⟩
      | ret u =>
        obtain ⟨v6, σ6, H6, S6, r6, q6⟩ := hsp
        exact end_ S6 fun s7 J7 => ⟨_, _, _, J7, r6, q6⟩
theorem ps_try_all (hs : X.stack = X.env :: X.outer) (hf : X.env.frame = some X.env.locals) (hN : X.N.Nodup) (hi : X.N[i]? = some n) (hln : X.env.kindOf n = some .local) (tk : Takes X Wout)
    (hb : ∀ (W : WX) (pn : List (Addr × Obj)) (xe : Value → Shared → Prop), Takes (X.tr pn xe) W → PassesOwn (model X.prog X.w) X.A X.env xe → PSs (X.tr pn xe) body (tb W))
    (hh : HdsAs X n (h₀ :: hds) l) : PS X (.Try body (h₀ :: hds) [] [] pos) (fun D σ H => tb (wAll X.K Wout i D l) D σ H) := by
  refine ⟨fun pins s σ H D I h => ?_⟩
  have ok := I.ok
  have hfr : X.A.frames = some (X.env :: X.outer) := by rw [ok.frames, hs]
  refine wpAny_Try_except (wpAny_mono ((hb (wAll X.K Wout i D l) (X.pn ++ pins) (fun e s₁ => wpAny (model X.prog X.w) X.A (noteFrame e X.env) (fun _ s₂ => wpAny (model X.prog X.w) X.A (setFlight e none) (fun _ s₃ =>
    wpAny (model X.prog X.w) X.A (handleBy e X.env (h₀ :: hds)) (SP X pins D) X.xe s₃) X.xe s₂) X.xe s₁) (fun u s' xx => ?_) PassesOwn.looking).run [] s σ H D (I.toTry _) h) (fun f s1 hsp => ?_) (fun e s1 he => he))
  · obtain ⟨a, B, sI, pins', σ', H', cls, d, rfl, J', nb, up, sky, na, os, ag, w⟩ := xx
    have J : Inv X pins σ' H' sI := J'.ofTry ok
    have sky' : Sky B (X.env :: X.outer) a (Zc cls d) X.env.locals s'.heap := by rw [← hs]; exact sky
    show wpAny (model X.prog X.w) X.A (noteFrame (.ref a) X.env) _ _ _
    refine Sky.land Zc.steady hfr hf sky' fun h3 fl3 up3 => ?_
    obtain ⟨oe3, vs3, he3, hz3, hd3⟩ := fl3.there
    have nfr : a ∉ frs (X.env :: X.outer) := fun hm => by
      obtain ⟨_, o', e', hnf⟩ := fl3.2.2.1.mem hm
      rw [he3] at e'
      cases e'
      exact hnf _ hd3
    have nL : a ≠ X.env.locals := fun z => nfr (List.mem_filterMap.mpr ⟨X.env, List.mem_cons_self, by rw [hf, z]⟩)
    have nF : a ∉ X.fs := fun hm => by
      obtain ⟨e, he, q⟩ := List.mem_filterMap.mp hm
      exact nfr (List.mem_filterMap.mpr ⟨e, List.mem_cons_of_mem _ he, q⟩)
    exact handle_all ok hs hf hN hi hln tk J nb up up3 na os ag fl3 nL nF he3 hz3 hd3 hh w
  · cases f with
    | next =>
      obtain ⟨σ', H', J', q⟩ := hsp
      exact wpAny_execs_nil ⟨σ', H', J'.ofTry ok, q⟩
    | brk =>
      obtain ⟨σ', H', J', q⟩ := hsp
      exact ⟨σ', H', J'.ofTry ok, q⟩
    | cont =>
      obtain ⟨σ', H', J', q⟩ := hsp
      exact ⟨σ', H', J'.ofTry ok, q⟩
    | ret u =>
      obtain ⟨v, σ', H', J', r, q⟩ := hsp
      exact ⟨v, σ', H', J'.ofTry ok, r, q⟩
end
end L2
set_option Elab.async false
set_option linter.all false
set_option maxRecDepth 100000
set_option maxHeartbeats 2000000
/-! zip of THREE lists, walked -/
namespace PySem
namespace F
theorem typeCall_zip_3 (a b c : Value) : checkTypeCall "zip" ⟨[a, b, c], []⟩ = pure () := by kernel_rfl
theorem newCall_zip_3 (a b c : Value) : checkBuiltinCall "zip.__new__" ⟨[.type "zip", a, b, c], []⟩ = pure () := by kernel_rfl
theorem args_object_init_4 (a b c d : Value) : argsOk "object.__init__" ⟨[a, b, c, d], []⟩ := by
  unfold argsOk; rw [signature?_of (id := "object.__init__") (n := ['_', '_', 't', 'i', 'n', 'i', '_', '_']) (o := ['t', 'c', 'e', 'j', 'b', 'o']) (by kernel_rfl) owner_object]; kernel_rfl
end F
namespace Z3
abbrev Is3 (h : Heap) (T : Addr) (a b c : Value) : Prop := h.get? T = some { cls := .type "tuple", data := .seq #[a, b, c] }
/-- the zip at z, its iterators' tuple TI, its own tuple TO, the iterators, the lists -/
structure Apart3 (z TI TO i1 i2 i3 l1 l2 l3 : Addr) : Prop where
  TIz : TI ≠ z
  TOz : TO ≠ z
  i1z : i1 ≠ z
  i2z : i2 ≠ z
  i3z : i3 ≠ z
  TITO : TI ≠ TO
  TIi1 : TI ≠ i1
  TIi2 : TI ≠ i2
  TIi3 : TI ≠ i3
  TOi1 : TO ≠ i1
  TOi2 : TO ≠ i2
  TOi3 : TO ≠ i3
  i12 : i1 ≠ i2
  i13 : i1 ≠ i3
  i23 : i2 ≠ i3
  l1z : l1 ≠ z
  l2z : l2 ≠ z
  l2TO : l2 ≠ TO
  l2i1 : l2 ≠ i1
  l3z : l3 ≠ z
  l3TO : l3 ≠ TO
  l3i1 : l3 ≠ i1
  l3i2 : l3 ≠ i2
theorem apart3 (I l1 l2 l3 : Nat) (h1 : l1 < I) (h2 : l2 < I) (h3 : l3 < I) : Apart3 (I + 5) (I + 3) (I + 4) I (I + 1) (I + 2) l1 l2 l3 := by
  constructor <;> (refine PySem.W.neN ?_; omega)
section
variable {prog : Program} {w : World} {A : Around} {E : Value → Shared → Prop} {s : Shared}
theorem upd_seq3 {T : Addr} {a b c x : Value} {k : Nat} {Q : Unit → Shared → Prop} (hT : Is3 s.heap T a b c)
    (h : ∀ h', h'.get? T = some { cls := .type "tuple", data := .seq ((#[a, b, c] : Array Value).setIfInBounds k x) } → Heap.SameBut T s.heap h' → Q () { s with heap := h' }) :
    wpAny (model prog w) A (updateSeq T (·.setIfInBounds k x)) Q E s := by
  refine wpAny_updateSeq hT rfl (h _ ?_ (Heap.SameBut.update ..))
  rw [Heap.get?_update_self _ hT rfl]
  simp [Obj.mapSeq]
variable {z TI TO i1 i2 i3 l1 l2 l3 : Addr} {k : Nat} {xs ys zs : Array Value} {x y v a b c : Value}
theorem next_item {Q : Value → Shared → Prop} (D : Apart3 z TI TO i1 i2 i3 l1 l2 l3) (hz : IsZip s.heap z TI TO .none) (hTI : Is3 s.heap TI (.ref i1) (.ref i2) (.ref i3)) (hTO : Is3 s.heap TO a b c)
    (h1 : s.heap.IsListIter i1 l1 k) (h2 : s.heap.IsListIter i2 l2 k) (h3 : s.heap.IsListIter i3 l3 k) (hl1 : s.heap.IsList l1 xs) (hl2 : s.heap.IsList l2 ys) (hl3 : s.heap.IsList l3 zs) (hx : xs[k]? = some x) (hy : ys[k]? = some y) (hv : zs[k]? = some v)
    (hQ : ∀ h', IsZip h' z TI TO (rawInt s.heap.objs.size) → Is3 h' TO x y v → h'.IsListIter i1 l1 (k + 1) → h'.IsListIter i2 l2 (k + 1) → h'.IsListIter i3 l3 (k + 1) → Is3 h' s.heap.objs.size x y v →
      (∀ c o, c ≠ z → c ≠ TO → c ≠ i1 → c ≠ i2 → c ≠ i3 → s.heap.get? c = some o → h'.get? c = some o) → Q (.ref s.heap.objs.size) { s with heap := h' }) :
    wpAny (model prog w) A (Builtin.«zip.__next__» ⟨[.ref z], []⟩) (fun fin s' => ∃ u, fin = .done (.ret u) ∧ Q u s') E s := by
  show wpAny _ _ (field (.ref z) 2 >>= _) _ _ _
  refine wpAny_bind (wpAny_field hz rfl (x := .bool false) rfl ?_)
  show wpAny _ _ (field (.ref z) 3 >>= _) _ _ _
  refine wpAny_bind (wpAny_field hz rfl (x := .ref TI) rfl (wpAny_bind (wpAny_seqItems hTI rfl ?_)))
  show wpAny _ _ (Builtin.SmallTypes.ownedTupleIsFree (.ref z) >>= _) _ _ _
  refine wpAny_bind ?_
  unfold Builtin.SmallTypes.ownedTupleIsFree
  refine wpAny_bind (wpAny_field hz rfl (x := .none) rfl (wpAny_pure ?_))
  simp only [if_true]
  refine wpAny_bind (wpAny_rule (wpAny_bind (wpAny_field hz rfl (x := .ref TO) rfl (wpAny_bind (wpAny_setField_rec hz (by simp) fun g1 hz1 s1 => ?_)))))
  replace hz1 : IsZip g1 z TI TO .ellipsis := hz1
  refine wpAny_bind ?_
  simp only [List.zipIdx_cons, List.zipIdx_nil, List.forIn_cons, List.forIn_nil]
  -- the first
  refine wpAny_bind (wpAny_bind (wpAny_onRaise ?_))
  show wpAny _ _ (Builtin.SmallTypes.nextOf (.ref i1) >>= _) _ _ _
  refine wpAny_bind (wpAny_nextOf_list_item (h1.extBut s1.extBut D.i1z) (hl1.extBut s1.extBut D.l1z) hx fun g2 a1 s2 => wpAny_pure ?_)
  have t2 : Is3 g2 TO a b c := s2.extBut _ _ D.TOi1 (s1.extBut _ _ D.TOz hTO)
  refine wpAny_bind (wpAny_seqItems t2 rfl (wpAny_bind (upd_seq3 t2 fun g3 t3 s3 => wpAny_bind (wpAny_letGo (wpAny_pure ?_)))))
  replace t3 : Is3 g3 TO x b c := t3
  -- the second
  refine wpAny_bind (wpAny_bind (wpAny_onRaise ?_))
  show wpAny _ _ (Builtin.SmallTypes.nextOf (.ref i2) >>= _) _ _ _
  have e3 : ∀ {c o}, c ≠ z → c ≠ i1 → c ≠ TO → s.heap.get? c = some o → g3.get? c = some o := fun n1 n2 n3 e => s3.extBut _ _ n3 (s2.extBut _ _ n2 (s1.extBut _ _ n1 e))
  refine wpAny_bind (wpAny_nextOf_list_item (h2.at fun o e => e3 D.i2z D.i12.symm D.TOi2.symm e) (hl2.at fun o e => e3 D.l2z D.l2i1 D.l2TO e) hy fun g4 a2 s4 => wpAny_pure ?_)
  have t4 : Is3 g4 TO x b c := s4.extBut _ _ D.TOi2 t3
  refine wpAny_bind (wpAny_seqItems t4 rfl (wpAny_bind (upd_seq3 t4 fun g5 t5 s5 => wpAny_bind (wpAny_letGo (wpAny_pure ?_)))))
  replace t5 : Is3 g5 TO x y c := t5
  -- the third
  refine wpAny_bind (wpAny_bind (wpAny_onRaise ?_))
  show wpAny _ _ (Builtin.SmallTypes.nextOf (.ref i3) >>= _) _ _ _
  have e5 : ∀ {c o}, c ≠ z → c ≠ i1 → c ≠ TO → c ≠ i2 → s.heap.get? c = some o → g5.get? c = some o := fun n1 n2 n3 n4 e => s5.extBut _ _ n3 (s4.extBut _ _ n4 (e3 n1 n2 n3 e))
  refine wpAny_bind (wpAny_nextOf_list_item (h3.at fun o e => e5 D.i3z D.i13.symm D.TOi3.symm D.i23.symm e) (hl3.at fun o e => e5 D.l3z D.l3i1 D.l3TO D.l3i2 e) hv fun g6 a3 s6 => wpAny_pure ?_)
  have t6 : Is3 g6 TO x y c := s6.extBut _ _ D.TOi3 t5
  refine wpAny_bind (wpAny_seqItems t6 rfl (wpAny_bind (upd_seq3 t6 fun g7 t7 s7 => wpAny_bind (wpAny_letGo (wpAny_pure (wpAny_pure ?_))))))
  replace t7 : Is3 g7 TO x y v := t7
  refine wpAny_bind (wpAny_seqItems t7 rfl (wpAny_bind (wpAny_newTuple ?_)))
  have hsz : g7.objs.size = s.heap.objs.size := by rw [s7.1, s6.1, s5.1, s4.1, s3.1, s2.1, s1.1]
  have e7 : ∀ {c o}, c ≠ z → c ≠ i1 → c ≠ TO → c ≠ i2 → c ≠ i3 → s.heap.get? c = some o → g7.get? c = some o := fun n1 n2 n3 n4 n5 e => s7.extBut _ _ n3 (s6.extBut _ _ n5 (e5 n1 n2 n3 n4 e))
  have z7 : IsZip g7 z TI TO .ellipsis := s7.extBut _ _ D.TOz.symm (s6.extBut _ _ D.i3z.symm (s5.extBut _ _ D.TOz.symm (s4.extBut _ _ D.i2z.symm (s3.extBut _ _ D.TOz.symm (s2.extBut _ _ D.i1z.symm hz1)))))
  have b1 : g7.IsListIter i1 l1 (k + 1) := a1.at fun o e => s7.extBut _ _ D.TOi1.symm (s6.extBut _ _ D.i13 (s5.extBut _ _ D.TOi1.symm (s4.extBut _ _ D.i12 (s3.extBut _ _ D.TOi1.symm e))))
  have b2 : g7.IsListIter i2 l2 (k + 1) := a2.at fun o e => s7.extBut _ _ D.TOi2.symm (s6.extBut _ _ D.i23 (s5.extBut _ _ D.TOi2.symm e))
  have b3 : g7.IsListIter i3 l3 (k + 1) := a3.at fun o e => s7.extBut _ _ D.TOi3.symm e
  have zl : z < g7.objs.size := Heap.lt_size z7
  show wpAny _ _ (Builtin.SmallTypes.ownedTupleHandOut (.ref z) (.ref g7.objs.size) >>= _) _ _ _
  refine wpAny_bind ?_
  unfold Builtin.SmallTypes.ownedTupleHandOut
  have z8 : IsZip (g7.push { cls := .type "tuple", data := .seq #[x, y, v] }) z TI TO .ellipsis := Heap.get?_push_of_some _ z7
  refine wpAny_bind (wpAny_setField_rec z8 (by simp) fun g8 y8 s8 => ?_)
  replace y8 : IsZip g8 z TI TO (rawInt g7.objs.size) := y8
  refine wpAny_setField_rec y8 (by simp) fun g9 y9 s9 => ?_
  replace y9 : IsZip g9 z TI TO (rawInt g7.objs.size) := y9
  have up : ∀ c o, c ≠ z → g7.get? c = some o → g9.get? c = some o := fun c o n e => s9.extBut _ _ n (s8.extBut _ _ n (Heap.get?_push_of_some _ e))
  have new : Is3 g9 g7.objs.size x y v := s9.extBut _ _ (Nat.ne_of_gt zl) (s8.extBut _ _ (Nat.ne_of_gt zl) (Heap.get?_push_size _ rfl))
  rw [hsz] at y9 new
  refine wpAny_pure ⟨_, rfl, ?_⟩
  show Q (.ref g7.objs.size) _
  rw [hsz]
  exact hQ g9 y9 (up _ _ D.TOz t7) (b1.at fun o e => up _ o D.i1z e) (b2.at fun o e => up _ o D.i2z e) (b3.at fun o e => up _ o D.i3z e) new fun c o n1 n2 n3 n4 n5 e => up c o n1 (e7 n1 n3 n2 n4 n5 e)
/-- the first list is at its end -/
theorem next_end {Q : Fin → Shared → Prop} (hh : A.handled = none) (D : Apart3 z TI TO i1 i2 i3 l1 l2 l3) (hz : IsZip s.heap z TI TO .none) (hTI : Is3 s.heap TI (.ref i1) (.ref i2) (.ref i3)) (hTO : Is3 s.heap TO a b c)
    (h1 : s.heap.IsListIter i1 l1 k) (hl1 : s.heap.IsList l1 xs) (hx : xs[k]? = none)
    (hE : ∀ h' e, (∀ c o, c ≠ z → c ≠ i1 → s.heap.get? c = some o → h'.get? c = some o) → (∃ o, h'.get? e = some o ∧ o.cls = .type "StopIteration") → E (.ref e) { s with heap := h' }) :
    wpAny (model prog w) A (Builtin.«zip.__next__» ⟨[.ref z], []⟩) Q E s := by
  show wpAny _ _ (field (.ref z) 2 >>= _) _ _ _
  refine wpAny_bind (wpAny_field hz rfl (x := .bool false) rfl ?_)
  show wpAny _ _ (field (.ref z) 3 >>= _) _ _ _
  refine wpAny_bind (wpAny_field hz rfl (x := .ref TI) rfl (wpAny_bind (wpAny_seqItems hTI rfl ?_)))
  show wpAny _ _ (Builtin.SmallTypes.ownedTupleIsFree (.ref z) >>= _) _ _ _
  refine wpAny_bind ?_
  unfold Builtin.SmallTypes.ownedTupleIsFree
  refine wpAny_bind (wpAny_field hz rfl (x := .none) rfl (wpAny_pure ?_))
  simp only [if_true]
  refine wpAny_bind (wpAny_rule (wpAny_bind (wpAny_field hz rfl (x := .ref TO) rfl (wpAny_bind (wpAny_setField_rec hz (by simp) fun g1 hz1 s1 => ?_)))))
  replace hz1 : IsZip g1 z TI TO .ellipsis := hz1
  refine wpAny_bind ?_
  simp only [List.zipIdx_cons, List.zipIdx_nil, List.forIn_cons, List.forIn_nil]
  refine wpAny_bind (wpAny_bind (wpAny_onRaise ?_))
  show wpAny _ _ (Builtin.SmallTypes.nextOf (.ref i1) >>= _) _ _ _
  refine wpAny_bind (wpAny_nextOf_list_end hh (h1.extBut s1.extBut D.i1z) (hl1.extBut s1.extBut D.l1z) hx fun g2 e s2 he => ?_)
  obtain ⟨oe, hoe, hce⟩ := he
  have z2 : IsZip g2 z TI TO .ellipsis := s2 _ _ D.i1z.symm hz1
  have hez : e ≠ z := fun q => by
    subst q
    rw [z2] at hoe
    cases hoe
    simp at hce
  exact wpAny_setField_rec z2 (by simp) fun g3 _ s3 => hE g3 e (fun c o n1 n2 q => s3.extBut _ _ n1 (s2 _ _ n2 (s1.extBut _ _ n1 q))) ⟨oe, s3.extBut _ _ hez hoe, hce⟩
theorem py_item {Q : Option Value → Shared → Prop} (D : Apart3 z TI TO i1 i2 i3 l1 l2 l3) (hz : IsZip s.heap z TI TO .none) (hTI : Is3 s.heap TI (.ref i1) (.ref i2) (.ref i3)) (hTO : Is3 s.heap TO a b c)
    (h1 : s.heap.IsListIter i1 l1 k) (h2 : s.heap.IsListIter i2 l2 k) (h3 : s.heap.IsListIter i3 l3 k) (hl1 : s.heap.IsList l1 xs) (hl2 : s.heap.IsList l2 ys) (hl3 : s.heap.IsList l3 zs) (hx : xs[k]? = some x) (hy : ys[k]? = some y) (hv : zs[k]? = some v)
    (hQ : ∀ h', IsZip h' z TI TO (rawInt s.heap.objs.size) → Is3 h' TO x y v → h'.IsListIter i1 l1 (k + 1) → h'.IsListIter i2 l2 (k + 1) → h'.IsListIter i3 l3 (k + 1) → Is3 h' s.heap.objs.size x y v →
      (∀ c o, c ≠ z → c ≠ TO → c ≠ i1 → c ≠ i2 → c ≠ i3 → s.heap.get? c = some o → h'.get? c = some o) → Q (some (.ref s.heap.objs.size)) { s with heap := h' }) :
    wpAny (model prog w) A (pyNext (.ref z)) Q E s := by
  have hT : s.TypeIs (.ref z) "zip" := ⟨_, hz, rfl⟩
  unfold pyNext
  exact wpAny_bind (wpAny_attempt (wpAny_callSpecial?_slot (name := Str.ofString "__next__") hT F.slot_zip_next
    (wpAny_call_entry F.slot_zip_next hT F.entry_zip_next (next_item D hz hTI hTO h1 h2 h3 hl1 hl2 hl3 hx hy hv fun h' a1 a2 a3 a4 a5 a6 a7 => wpAny_pure (hQ h' a1 a2 a3 a4 a5 a6 a7)) (F.args_zip_next_1 _))))
theorem py_end {Q : Option Value → Shared → Prop} (hh : A.handled = none) (D : Apart3 z TI TO i1 i2 i3 l1 l2 l3) (hz : IsZip s.heap z TI TO .none) (hTI : Is3 s.heap TI (.ref i1) (.ref i2) (.ref i3)) (hTO : Is3 s.heap TO a b c)
    (h1 : s.heap.IsListIter i1 l1 k) (hl1 : s.heap.IsList l1 xs) (hx : xs[k]? = none)
    (hQ : ∀ h', (∀ c o, c ≠ z → c ≠ i1 → s.heap.get? c = some o → h'.get? c = some o) → Q none { s with heap := h' }) : wpAny (model prog w) A (pyNext (.ref z)) Q E s := by
  have hT : s.TypeIs (.ref z) "zip" := ⟨_, hz, rfl⟩
  unfold pyNext
  refine wpAny_bind (wpAny_attempt (wpAny_callSpecial?_slot (name := Str.ofString "__next__") hT F.slot_zip_next
    (wpAny_call_entry F.slot_zip_next hT F.entry_zip_next (next_end hh D hz hTI hTO h1 hl1 hx fun h' e hk ⟨o, ho, hc⟩ => ?_) (F.args_zip_next_1 _))))
  exact wpAny_bind (wpAny_isInstance (T := "StopIteration") (b := true) ⟨o, ho, hc⟩ isSubtype_stop (wpAny_pure (hQ _ hk)))
end
abbrev zN1 (h : Heap) (l1 : Addr) : Heap := h.push { cls := .type "list_iterator", data := .fields #[.ref l1, .int 0 0] }
abbrev zN2 (h : Heap) (l1 l2 : Addr) : Heap := (zN1 h l1).push { cls := .type "list_iterator", data := .fields #[.ref l2, .int 0 0] }
abbrev zN3 (h : Heap) (l1 l2 l3 : Addr) : Heap := (zN2 h l1 l2).push { cls := .type "list_iterator", data := .fields #[.ref l3, .int 0 0] }
abbrev zN4 (h : Heap) (l1 l2 l3 : Addr) : Heap := (zN3 h l1 l2 l3).push { cls := .type "tuple", data := .seq #[.ref h.objs.size, .ref (zN1 h l1).objs.size, .ref (zN2 h l1 l2).objs.size] }
abbrev zN5 (h : Heap) (l1 l2 l3 : Addr) : Heap := (zN4 h l1 l2 l3).push { cls := .type "tuple", data := .seq #[.none, .none, .none] }
abbrev zN6 (h : Heap) (l1 l2 l3 : Addr) : Heap := (zN5 h l1 l2 l3).push { cls := .type "zip", data := .fields #[.none, .bool false, .bool false, .ref (zN3 h l1 l2 l3).objs.size, .ref (zN4 h l1 l2 l3).objs.size] }
theorem meets_new3 (l1 l2 l3 : Addr) (xs ys zs : Array Value) :
    Meets (Builtin.«zip.__new__» ⟨[.type "zip", .ref l1, .ref l2, .ref l3], []⟩) (fun _ R s => s.heap.IsList l1 xs ∧ s.heap.IsList l2 ys ∧ s.heap.IsList l3 zs ∧
      R (.ok (.ret (.ref (zN5 s.heap l1 l2 l3).objs.size))) { s with heap := zN6 s.heap l1 l2 l3 }) :=
  .of_wp fun prog w A R s h => by
    obtain ⟨hp, g, d, tk, os⟩ := s
    obtain ⟨hl1, hl2, hl3, h⟩ := h
    have hsub := sub_zip
    have hL1 : Heap.IsList (Shared.heap ⟨hp, g, d, tk, os⟩) l1 xs := hl1
    have hL2 : Heap.IsList (Shared.heap ⟨hp.push { cls := .type "list_iterator", data := .fields #[.ref l1, .int 0 0] }, g, d, tk, os⟩) l2 ys := Heap.IsList.push hl2 _
    have hL3 : Heap.IsList (Shared.heap ⟨(hp.push { cls := .type "list_iterator", data := .fields #[.ref l1, .int 0 0] }).push { cls := .type "list_iterator", data := .fields #[.ref l2, .int 0 0] }, g, d, tk, os⟩) l3 zs := Heap.IsList.push (Heap.IsList.push hl3 _) _
    wp_walk using wpAny_pyIter_list hL1, wpAny_pyIter_list hL2, wpAny_pyIter_list hL3
    exact ⟨_, rfl, h⟩
theorem call_3 {prog : Program} {w : World} {A : Around} {E : Value → Shared → Prop} {s : Shared} {l1 l2 l3 : Addr} {xs ys zs : Array Value} {Q : Value → Shared → Prop} (hl1 : s.heap.IsList l1 xs) (hl2 : s.heap.IsList l2 ys) (hl3 : s.heap.IsList l3 zs)
    (h : ∀ h', IsZip h' (s.heap.objs.size + 5) (s.heap.objs.size + 3) (s.heap.objs.size + 4) .none → Is3 h' (s.heap.objs.size + 3) (.ref s.heap.objs.size) (.ref (s.heap.objs.size + 1)) (.ref (s.heap.objs.size + 2)) →
      Is3 h' (s.heap.objs.size + 4) .none .none .none → h'.IsListIter s.heap.objs.size l1 0 → h'.IsListIter (s.heap.objs.size + 1) l2 0 → h'.IsListIter (s.heap.objs.size + 2) l3 0 →
      (∀ c o, s.heap.get? c = some o → h'.get? c = some o) → Q (.ref (s.heap.objs.size + 5)) { s with heap := h' }) :
    wpAny (model prog w) A (call (.type "zip") [.ref l1, .ref l2, .ref l3]) Q E s := by
  refine callType_new F.called_zip (by decide) (F.typeCall_zip_3 _ _ _) (F.newCall_zip_3 _ _ _) (fun obj => F.args_object_init_4 obj _ _ _) F.entry_zip_new (meets_new3 l1 l2 l3 xs ys zs) ⟨hl1, hl2, hl3, ?_⟩
  have z1 : (zN1 s.heap l1).objs.size = s.heap.objs.size + 1 := Heap.size_push ..
  have z2 : (zN2 s.heap l1 l2).objs.size = s.heap.objs.size + 2 := by rw [Heap.size_push, z1]
  have z3 : (zN3 s.heap l1 l2 l3).objs.size = s.heap.objs.size + 3 := by rw [Heap.size_push, z2]
  have z4 : (zN4 s.heap l1 l2 l3).objs.size = s.heap.objs.size + 4 := by rw [Heap.size_push, z3]
  have z5 : (zN5 s.heap l1 l2 l3).objs.size = s.heap.objs.size + 5 := by rw [Heap.size_push, z4]
  have p {h : Heap} {c : Addr} {o o' : Obj} (e : h.get? c = some o) : (h.push o').get? c = some o := Heap.get?_push_of_some _ e
  have g6 : (zN6 s.heap l1 l2 l3).get? (zN5 s.heap l1 l2 l3).objs.size = some _ := Heap.get?_push_size _ rfl
  have g5 : (zN6 s.heap l1 l2 l3).get? (zN4 s.heap l1 l2 l3).objs.size = some _ := p (Heap.get?_push_size _ rfl)
  have g4 : (zN6 s.heap l1 l2 l3).get? (zN3 s.heap l1 l2 l3).objs.size = some _ := p (p (Heap.get?_push_size _ rfl))
  have g3 : (zN6 s.heap l1 l2 l3).get? (zN2 s.heap l1 l2).objs.size = some _ := p (p (p (Heap.get?_push_size _ rfl)))
  have g2 : (zN6 s.heap l1 l2 l3).get? (zN1 s.heap l1).objs.size = some _ := p (p (p (p (Heap.get?_push_size _ rfl))))
  have g1 : (zN6 s.heap l1 l2 l3).get? s.heap.objs.size = some _ := p (p (p (p (p (Heap.get?_push_size _ rfl)))))
  show _ ∧ _
  rw [z3, z4, z5] at g6
  rw [z4] at g5
  rw [z1, z2, z3] at g4
  rw [z2] at g3
  rw [z1] at g2
  rw [z5]
  exact ⟨⟨_, g6, rfl⟩, h _ g6 g4 g5 ⟨_, g1, rfl, rfl⟩ ⟨_, g2, rfl, rfl⟩ ⟨_, g3, rfl, rfl⟩ fun c o e => p (p (p (p (p (p e)))))⟩
end Z3
end PySem
namespace L2
open PySem PySem.Spec PyProof.Rows PySem.Z3
/-- the lists at a, b, c as they stand at each turn, the items in new triples; the end is that of the first -/
def Itz3 (K : PySem.W.Frag) (a b c : Addr) : It :=
  ⟨fun i H => ∃ (xs ys zs : List V) (x y v : V), SqL K H a xs ∧ SqL K H b ys ∧ SqL K H c zs ∧ xs[i]? = some x ∧ ys[i]? = some y ∧ zs[i]? = some v,
    fun i H u H' => ∃ T x y v, u = .ref T ∧ H T = none ∧ H' = upd H T (.tup [x, y, v]) ∧ (∀ xs, SqL K H a xs → xs[i]? = some x) ∧ (∀ ys, SqL K H b ys → ys[i]? = some y) ∧ ∀ zs, SqL K H c zs → zs[i]? = some v,
    fun i H => ∃ xs : List V, SqL K H a xs ∧ xs.length ≤ i⟩
theorem turn_zip3 {P : Program} {w : World} {K : PySem.W.Frag} {elts : List Expr} {kk : Nat} {tpos : Pos} {a b c z TI TO i1 i2 i3 : Addr} (D : Apart3 z TI TO i1 i2 i3 a b c) :
    Turn P w K (.Tuple elts kk tpos) (Itz3 K a b c) [z, TI, TO, i1, i2, i3] z (fun i h => IsZip h z TI TO .none ∧ Is3 h TI (.ref i1) (.ref i2) (.ref i3) ∧ (∃ x y v, Is3 h TO x y v) ∧ h.IsListIter i1 a i ∧ h.IsListIter i2 b i ∧ h.IsListIter i3 c i) where
  mem := by simp
  obj := fun i h st d hd => by
    obtain ⟨hz, hTI, ⟨x, y, v, hTO⟩, ⟨o1, e1, _, d1⟩, ⟨o2, e2, _, d2⟩, ⟨o3, e3, _, d3⟩⟩ := st
    have e' : d = z ∨ d = TI ∨ d = TO ∨ d = i1 ∨ d = i2 ∨ d = i3 := by simpa using hd
    rcases e' with q | q | q | q | q | q
    · rw [q]; exact ⟨_, hz, fun v q => nomatch q⟩
    · rw [q]; exact ⟨_, hTI, fun v q => nomatch q⟩
    · rw [q]; exact ⟨_, hTO, fun v q => nomatch q⟩
    · rw [q]; exact ⟨o1, e1, fun v q => by rw [d1] at q; cases q⟩
    · rw [q]; exact ⟨o2, e2, fun v q => by rw [d2] at q; cases q⟩
    · rw [q]; exact ⟨o3, e3, fun v q => by rw [d3] at q; cases q⟩
  keep := fun i h h' st k => by
    obtain ⟨hz, hTI, ⟨x, y, v, hTO⟩, h1, h2, h3⟩ := st
    exact ⟨k z (by simp) _ hz, k TI (by simp) _ hTI, ⟨x, y, v, k TO (by simp) _ hTO⟩, h1.at fun o q => k i1 (by simp) o q, h2.at fun o q => k i2 (by simp) o q, h3.at fun o q => k i3 (by simp) o q⟩
  item := by
    intro X hP hw hK hc i pins s σ H E I hf st hg
    subst hP hw hK
    obtain ⟨hz, hTI, ⟨x0, y0, v0, hTO⟩, h1, h2, h3⟩ := st
    obtain ⟨xs, ys, zs, x, y, v, hqx, hqy, hqv, hx, hy, hv⟩ := hg
    obtain ⟨its, rv, p, _⟩ := I.list hqx
    obtain ⟨its2, rv2, p2, _⟩ := I.list hqy
    obtain ⟨its3, rv3, p3, _⟩ := I.list hqv
    obtain ⟨u, hu, ru⟩ := rv.get hx
    obtain ⟨u2, hu2, ru2⟩ := rv2.get hy
    obtain ⟨u3, hu3, ru3⟩ := rv3.get hv
    have hzl : z < s.heap.objs.size := Heap.lt_size hz
    refine py_item D hz hTI hTO h1 h2 h3 p.isList p2.isList p3.isList (x := u) (y := u2) (v := u3) (by simpa using hu) (by simpa using hu2) (by simpa using hu3) fun h' z' TO' h1' h2' h3' hT hk => ?_
    refine ⟨_, rfl, wpAny_letOwnedTupleGo_zip (s := { s with heap := h' }) z' fun h'' z'' sb => ?_⟩
    have hT2 : h''.get? s.heap.objs.size = some { cls := .type "tuple", data := .seq #[u, u2, u3] } := (sb.2 _ (Nat.ne_of_gt hzl)).trans hT
    have new : ObjOk X.prog X.w (upd H s.heap.objs.size (.tup [x, y, v])) h'' s.heap.objs.size (.tup [x, y, v]) :=
      ⟨by show 3 ≤ sizeLine; decide, [u, u2, u3], .cons ru (.cons ru2 (.cons ru3 .nil)), ⟨_, hT2, rfl, _, rfl⟩⟩
    have I1 : Inv X pins σ (upd H s.heap.objs.size (.tup [x, y, v])) { s with heap := h'' } :=
      I.turnedNew (t' := s.toks) (ch := [z, TI, TO, i1, i2, i3]) (fun d o hb q => (sb.2 d (fun q' => hb (by simp [q']))).trans (hk d o (fun q' => hb (by simp [q'])) (fun q' => hb (by simp [q'])) (fun q' => hb (by simp [q'])) (fun q' => hb (by simp [q'])) (fun q' => hb (by simp [q'])) q)) hf (Nat.le_refl _) new
    refine ⟨.ref s.heap.objs.size, _, I1, rfl, ⟨_, x, y, v, rfl, I.hok.fresh (Nat.le_refl _), rfl, fun l hl => by rw [I.list_inj hl hqx]; exact hx, fun l hl => by rw [I.list_inj hl hqy]; exact hy, fun l hl => by rw [I.list_inj hl hqv]; exact hv⟩, ⟨z'', ?_, ⟨u, u2, u3, ?_⟩, ?_, ?_, ?_⟩, fun d hcm => ?_⟩
    · exact (sb.2 _ D.TIz).trans (hk _ _ D.TIz D.TITO D.TIi1 D.TIi2 D.TIi3 hTI)
    · exact (sb.2 _ D.TOz).trans TO'
    · exact h1'.at fun o q => (sb.2 _ D.i1z).trans q
    · exact h2'.at fun o q => (sb.2 _ D.i2z).trans q
    · exact h3'.at fun o q => (sb.2 _ D.i3z).trans q
    · have hlt : d < s.heap.objs.size := by
        have e' : d = z ∨ d = TI ∨ d = TO ∨ d = i1 ∨ d = i2 ∨ d = i3 := by simpa using hcm
        rcases e' with q | q | q | q | q | q
        · rw [q]; exact hzl
        · rw [q]; exact Heap.lt_size hTI
        · rw [q]; exact Heap.lt_size hTO
        · rw [q]; obtain ⟨_, e1, _⟩ := h1; exact Heap.lt_size e1
        · rw [q]; obtain ⟨_, e2, _⟩ := h2; exact Heap.lt_size e2
        · rw [q]; obtain ⟨_, e3, _⟩ := h3; exact Heap.lt_size e3
      rw [upd_ne (Nat.ne_of_lt hlt)]
      exact (hf d hcm).1
  done := by
    intro X hP hw hK hc i pins s σ H E I hf st hg
    subst hP hw hK
    obtain ⟨hz, hTI, ⟨x0, y0, v0, hTO⟩, h1, h2, h3⟩ := st
    obtain ⟨xs, hqx, hend⟩ := hg
    obtain ⟨its, rv, p, _⟩ := I.list hqx
    have l1 := rv.length
    exact py_end (I.ok.hd hc) D hz hTI hTO h1 p.isList (by simp; omega) fun h' hk => ⟨rfl, I.turnedL (t' := s.toks) (ch := [z, TI, TO, i1, i2, i3]) (fun d o hb q => hk d o (fun q' => hb (by simp [q'])) (fun q' => hb (by simp [q'])) q) hf⟩
  self := fun A i s Q E st h => wpAny_pyIter_zip st.1 h
def iZip3 (K : PySem.W.Frag) (ta : TA) : TI := fun σ H R => ta σ H fun vs H1 => ∃ a b c xs ys zs, vs = [.ref a, .ref b, .ref c] ∧ SqL K H1 a xs ∧ SqL K H1 b ys ∧ SqL K H1 c zs ∧ R (Itz3 K a b c) H1
theorem pi_zip3 {X : Cx} {e e2 e3 : Expr} {ta : TA} {p pos tpos : Pos} {elts : List Expr} {kk : Nat} (hg : Gl X "zip") (hm : X.mg "zip" = none) (ha : PA X [e, e2, e3] ta)
    (hs : starEach [e, e2, e3] X.env = (false, eval e X.env) :: starEach [e2, e3] X.env := by rfl) (hpl : (backTo pos (starEach [e2, e3] X.env)).any (·.1) = false := by rfl) :
    PI X (.Tuple elts kk tpos) (.Call (.Name "zip" p) [e, e2, e3] [] pos) (iZip3 X.K ta) := by
  refine ⟨fun pins s σ H R I h => ?_⟩
  refine Call_ (ld_blt I hg hm PyProof.Rows.boot_zip (PyProof.Rows.callWith_type1 (thn (ha.run pos pins s σ H _ I h) fun us s1 ⟨vs, H1, I1, r1, q1⟩ => ?_) hs hpl))
  obtain ⟨a, b, c, xs, ys, zs, ex, hqx, hqy, hqz, q⟩ := q1
  subst ex
  cases r1 with
  | cons r rr =>
    cases rr with
    | cons r' rr =>
      cases rr with
      | cons r'' rr =>
        cases rr
        cases r
        cases r'
        cases r''
        obtain ⟨its, rv, p1, _⟩ := I1.list hqx
        obtain ⟨its2, rv2, p2, _⟩ := I1.list hqy
        obtain ⟨its3, rv3, p3, _⟩ := I1.list hqz
        refine call_3 p1.isList p2.isList p3.isList fun h' hz hTI hTO h1 h2 h3 hk => wpAny_pyIter_zip hz ?_
        have I2 : Inv X pins σ H1 { s1 with heap := h' } := I1.kept (t' := s1.toks) hk
        refine ⟨s1.heap.objs.size + 5, [s1.heap.objs.size + 5, s1.heap.objs.size + 3, s1.heap.objs.size + 4, s1.heap.objs.size, s1.heap.objs.size + 1, s1.heap.objs.size + 2], _, _, H1, rfl, I2, turn_zip3 (apart3 s1.heap.objs.size a b c p1.lt p2.lt p3.lt), ⟨hz, hTI, ⟨_, _, _, hTO⟩, h1, h2, h3⟩, fun d hcm => ?_, q⟩
        have e' : d = s1.heap.objs.size + 5 ∨ d = s1.heap.objs.size + 3 ∨ d = s1.heap.objs.size + 4 ∨ d = s1.heap.objs.size ∨ d = s1.heap.objs.size + 1 ∨ d = s1.heap.objs.size + 2 := by simpa using hcm
        have hle : s1.heap.objs.size ≤ d := by
          rcases e' with z | z | z | z | z | z
          · rw [z]; exact Nat.le_add_right _ _
          · rw [z]; exact Nat.le_add_right _ _
          · rw [z]; exact Nat.le_add_right _ _
          · rw [z]; exact Nat.le_refl _
          · rw [z]; exact Nat.le_add_right _ _
          · rw [z]; exact Nat.le_add_right _ _
        exact I1.fpOk hle (I1.hok.fresh hle)
end L2
set_option Elab.async false
set_option linter.all false
set_option maxRecDepth 100000
set_option maxHeartbeats 2000000
/-! enumerate of a TUPLE, walked -/
namespace PySem
namespace EnT
section
variable {prog : Program} {w : World} {A : Around} {E : Value → Shared → Prop} {s : Shared} {e it l : Addr} {i : Nat} {items : Array Value} {x old : Value}
theorem next_item {Q : Value → Shared → Prop} (he : IsEnum s.heap e it i old) (hit : s.heap.IsTupleIter it l i) (hl : s.heap.IsTuple l items) (hx : items[i]? = some x) (hne : e ≠ it)
    (hQ : ∀ h', IsEnumOut h' e it ((i : Int) + 1) x s.heap.objs.size → h'.IsTupleIter it l (i + 1) → h'.get? s.heap.objs.size = some { cls := .type "tuple", data := .seq #[.int i s.toks, x] } →
      (∀ b o, b ≠ e → b ≠ it → s.heap.get? b = some o → h'.get? b = some o) → Q (.ref s.heap.objs.size) { s with heap := h', toks := s.toks + 1 }) :
    wpAny (model prog w) A (Builtin.«enumerate.__next__» ⟨[.ref e], []⟩) (fun fin s' => ∃ v, fin = .done (.ret v) ∧ Q v s') E s := by
  obtain ⟨hp, g, d, tk, os⟩ := s
  have hel : e < hp.objs.size := Heap.lt_size he
  show wpAny _ _ (field (.ref e) 2 >>= _) _ _ _
  refine wpAny_bind (wpAny_field he rfl (x := .ref it) rfl (wpAny_bind (RZ.nextOf_tuple_item hit hl hx fun h1 i1 (s1 : Heap.SameBut it hp h1) => ?_)))
  have e1 : IsEnum h1 e it i old := (s1.2 e hne).trans he
  show wpAny _ _ (field (.ref e) 3 >>= _) _ _ ⟨h1, g, d, tk, os⟩
  refine wpAny_bind (wpAny_field e1 rfl (x := rawInt i) rfl ?_)
  show wpAny _ _ (field (.ref e) 4 >>= _) _ _ ⟨h1, g, d, tk, os⟩
  refine wpAny_bind (wpAny_field e1 rfl (x := .none) rfl ?_)
  show wpAny _ _ (mkInt i >>= _) _ _ ⟨h1, g, d, tk, os⟩
  refine wpAny_bind (wpAny_mkInt ?_)
  show wpAny _ _ (setField (.ref e) 3 (rawInt ((i : Int) + 1)) >>= _) _ _ ⟨h1, g, d, tk + 1, os⟩
  refine wpAny_bind (wpAny_setField_rec e1 (by simp) fun h2 e2 (s2 : Heap.SameBut e h1 h2) => ?_)
  replace e2 : IsEnum h2 e it ((i : Int) + 1) old := e2
  show wpAny _ _ (setField (.ref e) 4 .none >>= _) _ _ ⟨h2, g, d, tk + 1, os⟩
  refine wpAny_bind (wpAny_setField_rec e2 (by simp) fun h3 e3 (s3 : Heap.SameBut e h2 h3) => ?_)
  replace e3 : IsEnum h3 e it ((i : Int) + 1) old := e3
  show wpAny _ _ (newTuple [.int i tk, x] >>= _) _ _ ⟨h3, g, d, tk + 1, os⟩
  refine wpAny_bind (wpAny_newTuple ?_)
  have hsz : h3.objs.size = hp.objs.size := by rw [s3.1, s2.1, s1.1]
  have e4 : IsEnum (h3.push { cls := .type "tuple", data := .seq #[.int i tk, x] }) e it ((i : Int) + 1) old := Heap.get?_push_of_some _ e3
  have t4 : (h3.push { cls := .type "tuple", data := .seq #[.int i tk, x] }).get? hp.objs.size = some { cls := .type "tuple", data := .seq #[.int i tk, x] } := by rw [← hsz]; exact Heap.get?_push_size _ rfl
  have k4 : ∀ b o, b ≠ e → b ≠ it → hp.get? b = some o → (h3.push { cls := .type "tuple", data := .seq #[.int i tk, x] }).get? b = some o := fun b o n1 n2 q => Heap.get?_push_of_some _ (s3.extBut b o n1 (s2.extBut b o n1 (s1.extBut b o n2 q)))
  have i4 : (h3.push { cls := .type "tuple", data := .seq #[.int i tk, x] }).IsTupleIter it l (i + 1) := i1.at fun o q => Heap.get?_push_of_some _ (s3.extBut _ _ (Ne.symm hne) (s2.extBut _ _ (Ne.symm hne) q))
  show wpAny _ _ (Builtin.SmallTypes.ownedTupleIsFree (.ref e) >>= _) _ _ ⟨_, g, d, tk + 1, os⟩
  rw [hsz]
  generalize h3.push { cls := .type "tuple", data := .seq #[.int i tk, x] } = h4 at e4 t4 k4 i4
  refine wpAny_bind ?_
  unfold Builtin.SmallTypes.ownedTupleIsFree
  refine wpAny_bind (wpAny_field e4 rfl (x := .none) rfl (wpAny_pure ?_))
  simp only [if_true]
  refine wpAny_bind (wpAny_rule (wpAny_bind (wpAny_field e4 rfl (x := old) rfl (wpAny_bind (wpAny_setField_rec e4 (by simp) fun h5 e5 (s5 : Heap.SameBut e h4 h5) => ?_)))))
  replace e5 : IsEnum h5 e it ((i : Int) + 1) x := e5
  show wpAny _ _ (Builtin.SmallTypes.ownedTupleHandOut (.ref e) (.ref hp.objs.size) >>= _) _ _ ⟨h5, g, d, tk + 1, os⟩
  refine wpAny_bind ?_
  unfold Builtin.SmallTypes.ownedTupleHandOut
  refine wpAny_bind (wpAny_setField_rec e5 (by simp) fun h6 e6 (s6 : Heap.SameBut e h5 h6) => ?_)
  replace e6 : IsEnumOut h6 e it ((i : Int) + 1) x hp.objs.size := e6
  refine wpAny_setField_rec e6 (by simp) fun h7 e7 (s7 : Heap.SameBut e h6 h7) => ?_
  replace e7 : IsEnumOut h7 e it ((i : Int) + 1) x hp.objs.size := e7
  have up : ∀ b o, b ≠ e → h4.get? b = some o → h7.get? b = some o := fun b o n q => s7.extBut _ _ n (s6.extBut _ _ n (s5.extBut _ _ n q))
  exact wpAny_bind (wpAny_letGo (wpAny_pure ⟨_, rfl, hQ h7 e7 (i4.at fun o q => up _ o (Ne.symm hne) q) (up _ _ (Nat.ne_of_gt hel) t4) fun b o n1 n2 q => up b o n1 (k4 b o n1 n2 q)⟩))
theorem py_item {Q : Option Value → Shared → Prop} (he : IsEnum s.heap e it i old) (hit : s.heap.IsTupleIter it l i) (hl : s.heap.IsTuple l items) (hx : items[i]? = some x) (hne : e ≠ it)
    (hQ : ∀ h', IsEnumOut h' e it ((i : Int) + 1) x s.heap.objs.size → h'.IsTupleIter it l (i + 1) → h'.get? s.heap.objs.size = some { cls := .type "tuple", data := .seq #[.int i s.toks, x] } →
      (∀ b o, b ≠ e → b ≠ it → s.heap.get? b = some o → h'.get? b = some o) → Q (some (.ref s.heap.objs.size)) { s with heap := h', toks := s.toks + 1 }) : wpAny (model prog w) A (pyNext (.ref e)) Q E s := by
  have hT : s.TypeIs (.ref e) "enumerate" := ⟨_, he, rfl⟩
  unfold pyNext
  exact wpAny_bind (wpAny_attempt (wpAny_callSpecial?_slot (name := Str.ofString "__next__") hT F.slot_enumerate_next
    (wpAny_call_entry F.slot_enumerate_next hT F.entry_enumerate_next (next_item he hit hl hx hne fun h' a b c d => wpAny_pure (hQ h' a b c d)) (F.args_enumerate_next_1 _))))
theorem py_end {Q : Option Value → Shared → Prop} (hh : A.handled = none) (he : IsEnum s.heap e it i old) (hit : s.heap.IsTupleIter it l i) (hl : s.heap.IsTuple l items) (hx : items[i]? = none)
    (hQ : ∀ h', Heap.ExtBut it s.heap h' → Q none { s with heap := h' }) : wpAny (model prog w) A (pyNext (.ref e)) Q E s := by
  have hT : s.TypeIs (.ref e) "enumerate" := ⟨_, he, rfl⟩
  unfold pyNext
  refine wpAny_bind (wpAny_attempt (wpAny_callSpecial?_slot (name := Str.ofString "__next__") hT F.slot_enumerate_next
    (wpAny_call_entry F.slot_enumerate_next hT F.entry_enumerate_next ?_ (F.args_enumerate_next_1 _))))
  show wpAny _ _ (field (.ref e) 2 >>= _) _ _ _
  refine wpAny_bind (wpAny_field he rfl (x := .ref it) rfl (wpAny_bind (RZ.nextOf_tuple_end hh hit hl hx fun h' y k ⟨o, ho, hc⟩ => ?_)))
  exact wpAny_bind (wpAny_isInstance (T := "StopIteration") (b := true) ⟨o, ho, hc⟩ isSubtype_stop (wpAny_pure (hQ _ k)))
end
abbrev enH1 (h : Heap) (l : Addr) : Heap := h.push { cls := .type "tuple_iterator", data := .fields #[.ref l, .int 0 0] }
abbrev enH2 (h : Heap) (l : Addr) : Heap := (enH1 h l).push { cls := .type "enumerate", data := .fields #[.none, .bool false, .ref h.objs.size, rawInt 0, .none, .none] }
theorem meets_newT (l : Addr) (items : Array Value) :
    Meets (Builtin.«enumerate.__new__» ⟨[.type "enumerate", .ref l], []⟩) (fun _ R s => s.heap.IsTuple l items ∧ R (.ok (.ret (.ref (enH1 s.heap l).objs.size))) { s with heap := enH2 s.heap l }) :=
  .of_wp fun prog w A R s h => by
    obtain ⟨hp, g, d, tk, os⟩ := s
    obtain ⟨hL, h⟩ := h
    obtain ⟨o, hl, hc, n, hd⟩ := id hL
    have hsub := sub_enumerate
    have hL : Heap.IsTuple (Shared.heap ⟨hp, g, d, tk, os⟩) l items := hL
    have hl : hp.get? l = some o := hl
    wp_walk using AutoSeq1.wpAny_loadPart' hl
    refine wpAny_stack_any fun st => wpAny_pure ?_
    split
    · rename_i c _ _ _ _ _
      cases (c == Value.type "enumerate")
      · wp_walk using AutoSeq1.wpAny_loadPart' hl, wpAny_pyIter_tuple hL
        exact ⟨_, rfl, h⟩
      · wp_walk using AutoSeq1.wpAny_loadPart' hl, wpAny_pyIter_tuple hL
        exact ⟨_, rfl, h⟩
    · wp_walk using AutoSeq1.wpAny_loadPart' hl, wpAny_pyIter_tuple hL
      exact ⟨_, rfl, h⟩
theorem call_tuple {prog : Program} {w : World} {A : Around} {E : Value → Shared → Prop} {s : Shared} {l : Addr} {items : Array Value} {Q : Value → Shared → Prop} (hL : s.heap.IsTuple l items)
    (h : ∀ h', IsEnum h' (s.heap.objs.size + 1) s.heap.objs.size 0 .none → h'.IsTupleIter s.heap.objs.size l 0 → (∀ b o, s.heap.get? b = some o → h'.get? b = some o) → Q (.ref (s.heap.objs.size + 1)) { s with heap := h' }) :
    wpAny (model prog w) A (call (.type "enumerate") [.ref l]) Q E s := by
  refine callType_new F.called_enumerate (by decide) (F.typeCall_enumerate_1 _) (F.newCall_enumerate_1 _) (fun obj => F.args_object_init_2 obj _) F.entry_enumerate_new (meets_newT l items) ⟨hL, ?_⟩
  have hz : (enH1 s.heap l).objs.size = s.heap.objs.size + 1 := Heap.size_push ..
  have he : (enH2 s.heap l).get? (enH1 s.heap l).objs.size = some _ := Heap.get?_push_size _ rfl
  have hi : (enH2 s.heap l).get? s.heap.objs.size = some _ := Heap.get?_push_of_some _ (Heap.get?_push_size _ rfl)
  show _ ∧ _
  rw [hz] at he ⊢
  exact ⟨⟨_, he, rfl⟩, h _ he ⟨_, hi, rfl, rfl⟩ fun b o q => Heap.get?_push_of_some _ (Heap.get?_push_of_some _ q)⟩
end EnT
end PySem
namespace L2
open PySem PySem.Spec PyProof.Rows
/-- the tuple at a, each item in a new pair -/
def IteT (K : PySem.W.Frag) (a : Addr) : It :=
  ⟨fun i H => ∃ (xs : List V) (x : V), SqT K H a xs ∧ xs[i]? = some x, fun i H v H' => ∃ T x, v = .ref T ∧ H T = none ∧ H' = upd H T (.tup [.int (i : Nat), x]) ∧ ∀ xs, SqT K H a xs → xs[i]? = some x, fun i H => ∃ xs : List V, SqT K H a xs ∧ xs.length ≤ i⟩
theorem turn_enumT {P : Program} {w : World} {K : PySem.W.Frag} {elts : List Expr} {kk : Nat} {tpos : Pos} (a e it : Addr) :
    Turn P w K (.Tuple elts kk tpos) (IteT K a) [e, it] e (fun i h => (∃ old, IsEnum h e it ((i : Nat) : Int) old) ∧ h.IsTupleIter it a i ∧ e ≠ it) where
  mem := by simp
  obj := fun i h st b hb => by
    obtain ⟨⟨old, he⟩, ⟨o, ho, hc, hd⟩, _⟩ := st
    have e' : b = e ∨ b = it := by simpa using hb
    rcases e' with z | z
    · rw [z]; exact ⟨_, he, fun v q => nomatch q⟩
    · rw [z]; exact ⟨o, ho, fun v q => by rw [hd] at q; cases q⟩
  keep := fun i h h' st k => let ⟨⟨old, he⟩, hi, hne⟩ := st; ⟨⟨old, k e (by simp) _ he⟩, hi.at fun o q => k it (by simp) o q, hne⟩
  item := by
    intro X hP hw hK hc i pins s σ H E I hf st hg
    subst hP hw hK
    obtain ⟨⟨old, he⟩, hit, hne⟩ := st
    obtain ⟨xs, x, hq, hx⟩ := hg
    obtain ⟨its, rv, p, hz⟩ := I.tuple hq
    obtain ⟨u, hu, ru⟩ := rv.get hx
    have hel : e < s.heap.objs.size := Heap.lt_size he
    have hil : it < s.heap.objs.size := by obtain ⟨_, q, _⟩ := hit; exact Heap.lt_size q
    refine EnT.py_item he hit (show s.heap.IsTuple a its.toArray from p) (x := u) (by simpa using hu) hne fun h' ho hit' hT hk => ?_
    refine ⟨_, rfl, wpAny_letOwnedTupleGo_enum (s := { s with heap := h', toks := s.toks + 1 }) ho fun h'' he' sb => ?_⟩
    have hT2 : h''.get? s.heap.objs.size = some { cls := .type "tuple", data := .seq #[.int i s.toks, u] } := (sb.2 _ (Nat.ne_of_gt hel)).trans hT
    have new : ObjOk X.prog X.w (upd H s.heap.objs.size (.tup [.int (i : Nat), x])) h'' s.heap.objs.size (.tup [.int (i : Nat), x]) :=
      ⟨by show 2 ≤ sizeLine; decide, [.int i s.toks, u], .cons ⟨_, rfl⟩ (.cons ru .nil), ⟨_, hT2, rfl, _, rfl⟩⟩
    have I1 : Inv X pins σ (upd H s.heap.objs.size (.tup [.int (i : Nat), x])) { s with heap := h'', toks := s.toks + 1 } :=
      I.turnedNew (ch := [e, it]) (fun b ob hb q => (sb.2 b (fun z => hb (by simp [z]))).trans (hk b ob (fun z => hb (by simp [z])) (fun z => hb (by simp [z])) q)) hf (Nat.le_refl _) new
    refine ⟨.ref s.heap.objs.size, _, I1, rfl, ⟨_, x, rfl, I.hok.fresh (Nat.le_refl _), rfl, fun ys hy => by rw [I.tuple_inj hy hq]; exact hx⟩, ⟨⟨u, ?_⟩, hit'.at fun o q => (sb.2 it (Ne.symm hne)).trans q, hne⟩, fun b hb => ?_⟩
    · have e1 : ((i + 1 : Nat) : Int) = (i : Int) + 1 := by omega
      rw [e1]; exact he'
    · have hb' : b < s.heap.objs.size := by
        have e' : b = e ∨ b = it := by simpa using hb
        rcases e' with z | z
        · rw [z]; exact hel
        · rw [z]; exact hil
      rw [upd_ne (Nat.ne_of_lt hb')]
      exact (hf b hb).1
  done := by
    intro X hP hw hK hc i pins s σ H E I hf st hg
    subst hP hw hK
    obtain ⟨⟨old, he⟩, hit, hne⟩ := st
    obtain ⟨xs, hq, hx⟩ := hg
    obtain ⟨its, rv, p, hz⟩ := I.tuple hq
    obtain ⟨f0, f1, f2, f3, f4, f5⟩ := hf it (by simp)
    have hl := rv.length
    exact EnT.py_end (I.ok.hd hc) he hit (show s.heap.IsTuple a its.toArray from p) (by simp; omega) fun h' eb => ⟨rfl, I.turned (t' := s.toks) (fun b o hb q => eb b o hb q) f0 f1 f3 f4 f5⟩
  self := fun A i s Q E st h => let ⟨⟨_, he⟩, _⟩ := st; wpAny_pyIter_enum he h
def iEnumT (K : PySem.W.Frag) (ta : TA) : TI := fun σ H R => ta σ H fun vs H1 => ∃ a xs, vs = [.ref a] ∧ SqT K H1 a xs ∧ R (IteT K a) H1
theorem pi_enumT {X : Cx} {e : Expr} {ta : TA} {p pos tpos : Pos} {elts : List Expr} {kk : Nat} (hg : Gl X "enumerate") (hm : X.mg "enumerate" = none) (ha : PA X [e] ta) (hs : starEach [e] X.env = [(false, eval e X.env)] := by rfl) :
    PI X (.Tuple elts kk tpos) (.Call (.Name "enumerate" p) [e] [] pos) (iEnumT X.K ta) := by
  refine ⟨fun pins s σ H R I h => ?_⟩
  refine Call_ (ld_blt I hg hm boot_enumerate (PyProof.Rows.callWith_type1 (thn (ha.run pos pins s σ H _ I h) fun us s1 ⟨vs, H1, I1, r1, q1⟩ => ?_) hs rfl))
  obtain ⟨a, xs, ex, hq, q⟩ := q1
  subst ex
  cases r1 with
  | cons r rr =>
    cases rr
    cases r
    obtain ⟨its, rv, p', hz⟩ := I1.tuple hq
    refine EnT.call_tuple (show s1.heap.IsTuple a its.toArray from p') fun h' he hit hk => wpAny_pyIter_enum he ?_
    have I2 : Inv X pins σ H1 { s1 with heap := h' } := I1.kept (t' := s1.toks) hk
    refine ⟨s1.heap.objs.size + 1, [s1.heap.objs.size + 1, s1.heap.objs.size], _, _, H1, rfl, I2, turn_enumT a (s1.heap.objs.size + 1) s1.heap.objs.size, ⟨⟨.none, he⟩, hit, Nat.succ_ne_self _⟩, fun b hb => ?_, q⟩
    have e' : b = s1.heap.objs.size + 1 ∨ b = s1.heap.objs.size := by simpa using hb
    have hle : s1.heap.objs.size ≤ b := by
      rcases e' with z | z
      · rw [z]; exact Nat.le_add_right _ _
      · rw [z]; exact Nat.le_refl _
    exact I1.fpOk hle (I1.hok.fresh hle)
end L2
set_option Elab.async false
set_option linter.all false
set_option maxRecDepth 100000
set_option maxHeartbeats 2000000
namespace Wv
open PySem PySem.Spec PyProof.Rows L2 TL
/-! ### words, counts as values -/
def sw (w : Hf.Wd) : Str := ⟨w.toArray⟩
abbrev Ws (ws : List Hf.Wd) : List V := ws.map fun w => V.str (sw w)
abbrev Is (ns : List Int) : List V := ns.map V.int
theorem sw_len (w : Hf.Wd) : (sw w).length = w.length := by simp [sw, Str.length]
theorem sw_tl (w : Hf.Wd) : tl (sw w) = w := rfl
theorem sw_of (x : Str) : x = sw (tl x) := (mk_tl x).symm
theorem sw_app (a b : Hf.Wd) : sw a ++ sw b = sw (a ++ b) := ext_tl (by rw [tl_append, sw_tl, sw_tl, sw_tl])
theorem sw_inj {a b : Hf.Wd} (h : sw a = sw b) : a = b := congrArg tl h
theorem sw0 : (Str.ofString "0") = sw [48] := by decide +kernel
theorem sw1 : (Str.ofString "1") = sw [49] := by decide +kernel
theorem sw_one (c : Nat) : (⟨#[c]⟩ : Str) = sw [c] := rfl
theorem ws_len (ws : List Hf.Wd) : (Ws ws).length = ws.length := List.length_map _
theorem is_len (ns : List Int) : (Is ns).length = ns.length := List.length_map _
theorem ws_get {ws : List Hf.Wd} {i : Nat} {w : Hf.Wd} (h : ws[i]? = some w) : (Ws ws)[i]? = some (.str (sw w)) := by rw [List.getElem?_map, h]; rfl
theorem is_get {ns : List Int} {i : Nat} {n : Int} (h : ns[i]? = some n) : (Is ns)[i]? = some (.int n) := by rw [List.getElem?_map, h]; rfl
theorem ws_at {ws : List Hf.Wd} {i : Nat} {v : V} (h : (Ws ws)[i]? = some v) : ∃ w, ws[i]? = some w ∧ v = .str (sw w) := by
  rw [List.getElem?_map] at h
  cases e : ws[i]? with
  | none => rw [e] at h; cases h
  | some w => rw [e] at h; exact ⟨w, rfl, (Option.some.inj h).symm⟩
theorem is_at {ns : List Int} {i : Nat} {v : V} (h : (Is ns)[i]? = some v) : ∃ n, ns[i]? = some n ∧ v = .int n := by
  rw [List.getElem?_map] at h
  cases e : ns[i]? with
  | none => rw [e] at h; cases h
  | some w => rw [e] at h; exact ⟨w, rfl, (Option.some.inj h).symm⟩
theorem line_of {n : Nat} (h : n ≤ 1000) : n ≤ sizeLine := Nat.le_of_lt (small1000 h)
theorem take_snoc {α : Type} {l : List α} {i : Nat} {x : α} (h : l[i]? = some x) : l.take (i + 1) = l.take i ++ [x] := by
  rw [List.take_add_one, h]
  rfl
theorem lt_of_get {α : Type} {l : List α} {i : Nat} {x : α} (h : l[i]? = some x) : i < l.length := (List.getElem?_eq_some_iff.mp h).1
theorem get_of_lt {α : Type} {l : List α} {i : Nat} (h : i < l.length) : ∃ x, l[i]? = some x := ⟨l[i], by simp [h]⟩

/-! ### heaps -/
/-- all that was tracked but what stands at p is as it was -/
def But (p : Addr) (H H' : Hp) : Prop := ∀ b o, b ≠ p → H b = some o → H' b = some o
theorem But.refl (p : Addr) (H : Hp) : But p H H := fun _ _ _ h => h
theorem But.trans {p : Addr} {H H1 H2 : Hp} (a : But p H H1) (b : But p H1 H2) : But p H H2 := fun c o n h => b c o n (a c o n h)
theorem But.of {p : Addr} {H H' : Hp} (s : Same H H') : But p H H' := fun b o _ h => s b o h
theorem But.upd {p : Addr} {H : Hp} {o : HO} : But p H (L2.upd H p o) := fun b o n h => by rw [upd_ne n]; exact h
theorem same_upd {H : Hp} {a : Addr} {o : HO} (h : H a = none) : Same H (upd H a o) := fun b u e => by rw [upd_ne (ne_of_none e h)]; exact e
theorem _root_.L2.Same.set {H H' : Hp} {a : Addr} {o : HO} (s : Same H H') (h : H a = none) : Same H (upd H' a o) := fun b u e => by rw [upd_ne (ne_of_none e h)]; exact s b u e
theorem _root_.L2.Same.to {H H' : Hp} {a : Addr} {o : HO} (s : Same H H') (h : H' a = none) : Same H (upd H' a o) := s.set (s.free h)
theorem But.set {p : Addr} {H H' : Hp} {a : Addr} {o : HO} (s : But p H H') (h : H a = none) : But p H (L2.upd H' a o) := fun b u n e => by rw [upd_ne (ne_of_none e h)]; exact s b u n e
theorem But.free {p : Addr} {H H' : Hp} (s : But p H H') {a : Addr} (hp : ∃ o, H' p = some o) (h : H' a = none) : H a = none := by
  cases q : H a with
  | none => rfl
  | some o =>
    have n : a ≠ p := fun z => by
      obtain ⟨u, hu⟩ := hp
      rw [z, hu] at h
      cases h
    rw [s a o n q] at h
    cases h
theorem seqT {K : PySem.W.Frag} {H H' : Hp} {a : Addr} {xs : List V} (e : Same H H') (h : SqT K H a xs) : SqT K H' a xs := by
  rcases h with (h | ⟨o, h⟩) | h
  · exact .inl (.inl (e _ _ h))
  · exact .inl (.inr ⟨o, e _ _ h⟩)
  · exact .inr h

/-! ### a def by its name, its promise -/
structure At (K : PySem.W.Frag) (mg : Str → Option Value) (x : Str) (st : Stmt) : Prop where
  ex : ∃ (f : Addr) (fd : FuncData), Fun K x x st f fd ∧ mg x = some (.ref f)
structure Kn (P : Program) (w : World) (K : PySem.W.Frag) (mg : Str → Option Value) (base : Heap) (CX : CXT) (k : Nat) (x : Str) (ps : List Str) (sp : Sp) : Prop where
  ex : ∃ (f : Addr) (fd : FuncData), FnOk P w K mg base CX k f fd ps sp ∧ mg x = some (.ref f) ∧ PySem.W.keepIn K (.ref f) = true ∧ Binds K fd ps []
section
variable {P : Program} {w : World} {K : PySem.W.Frag} {mg : Str → Option Value} {base : Heap}
theorem At.kn {CX : CXT} {k : Nat} {x : Str} {ps : List Str} {sp : Sp} {st : Stmt} (A : At K mg x st) (ok : ∀ f fd, Fun K x x st f fd → FnOk P w K mg base CX k f fd ps sp)
    (b : ∀ (kV doc pm : Value) (an : Option Addr) (cdv ct : Value) (us : List Value), us.length = ps.length → bindArgs (PySem.W.fnOf x x (defArgs st) (defBody st) (defScope st) .none kV doc pm an cdv ct) ⟨us, []⟩ = pure (ps.zip us)) : Kn P w K mg base CX k x ps sp := by
  obtain ⟨f, fd, F, hm⟩ := A.ex
  exact ⟨f, fd, ok f fd F, hm, F.kp, F.binds b⟩
end
theorem pe_kn {X : Cx} {CX : CXT} {k : Nat} {x : Str} {ps : List Str} {sp : Sp} {E : XK} {e : Expr} {es : List Expr} {t : TA} {p pos : Pos} (D : Kn X.prog X.w X.K X.mg X.base CX k x ps sp) (hr : Room k X.A) (hx : Passes CX X E) (ha : PA X (e :: es) t) (hg : Gl X x := by rfl) (hdb : (x == ("__debug__" : Str)) = false := by decide)
    (he : starEach (e :: es) X.env = (false, eval e X.env) :: starEach es X.env := by rfl) (hpl : (backTo pos (starEach es X.env)).any (·.1) = false := by rfl) :
    PE X (.Call (.Name x p) (e :: es) [] pos) (tCall sp [] E t) := by
  obtain ⟨f, fd, G, hm, hk, hb⟩ := D.ex
  exact pe_call G hr hg hm hk hb .nil hx ha hdb he hpl
/-- an expression that is never reached -/
def tNo : TE := fun _ _ _ => False
theorem pe_no {X : Cx} {e : Expr} : PE X e tNo := ⟨fun _ _ _ _ _ _ h => h.elim⟩

/-! ### the built-in names that the text leaves alone -/
structure Bi (mg : Str → Option Value) : Prop where
  len : mg "len" = none
  enumerate : mg "enumerate" = none
  isinstance : mg "isinstance" = none
  sum : mg "sum" = none
  max : mg "max" = none
  min : mg "min" = none
  all : mg "all" = none
  any : mg "any" = none
  sorted : mg "sorted" = none
  zip : mg "zip" = none
  tuple : mg "tuple" = none
  list : mg "list" = none
  range : mg "range" = none
  int : mg "int" = none
  bool : mg "bool" = none
  str : mg "str" = none
  abs : mg "abs" = none
end Wv
set_option Elab.async false
set_option linter.all false
set_option maxRecDepth 100000
set_option maxHeartbeats 2000000
namespace Wv
open PySem PySem.Spec PyProof.Rows L2 TL
section
variable {P : Program} {w : World} {K : PySem.W.Frag} {mg : Str → Option Value} {base : Heap}
/-! ### is_count -/
def isCnt : V → Bool
  | .int i => decide (0 ≤ i)
  | _ => false
/-- what is_count is asked of here -/
def Okv (H : Hp) : V → Prop
  | .int _ => True
  | .non => True
  | .bl _ => True
  | .str _ => True
  | .ref a => ∃ xs, H a = some (.lst xs)
  | _ => False
def spIsCount : Sp := fun vs H Q _ => ∃ v, vs = [v] ∧ Okv H v ∧ Q (.bl (isCnt v)) H
theorem scIsCount : FnScope ["value"] ["value"] (defScope sIsCount) := ⟨rfl, rfl, rfl, by decide +kernel, rfl, by decide +kernel, by decide +kernel⟩
theorem kIsCount (A : At K mg "is_count" sIsCount) (B : Bi mg) : Kn P w K mg base CX0 1 "is_count" ["value"] spIsCount := by
  refine A.kn (fun f fd F => F.ok scIsCount (fun vs H Q E h => ?_) (fun cdv A outer s H vs Q E hr h => ?_)) (fun _ _ _ _ _ _ us hl => match us, hl with | [_], _ => rfl)
  · obtain ⟨v, rfl, _⟩ := h
    rfl
  · obtain ⟨v, rfl, ok, k⟩ := h
    refine ⟨_, (pss_one (ps_ret (pe_and (pe_callB call_isi (by rfl) B.isinstance (by decide +kernel) (pa_cons (pv 0) (pa_cons (pe_bltn (v := .ty "int") (by rfl) B.int (by decide +kernel) rfl) pa_nil))) (pe_and (pe_not (pe_callB call_isi (by rfl) B.isinstance (by decide +kernel) (pa_cons (pv 0) (pa_cons (pe_bltn (v := .ty "bool") (by rfl) B.bool (by decide +kernel) rfl) pa_nil)))) (pe_one (pe_cmpR op_ge (pv 0) pe_int (nomark _))))))), ?_⟩
    have yes : ∀ {t : String}, TyX K H v (.type t) → kitB t "int" = some false → isCnt v = false → ∃ v_1, (start ["value"] [v])[0]? = some (some v_1) ∧ rIsi K [v_1, .ty "int"] H (fun x H1 => ∃ c, x = .bl c ∧ if c = true then tAndV (tNotV (tCB (rIsi K) (tCons (tVar 0) (tCons (tC (.ty "bool")) tNil)))) (tOp (rI0 fun i j => .bl (decide (j ≤ i))) (tVar 0) (tC (.int 0))) (start ["value"] [v]) H1 Q else Q (.bl false) H1) := fun {t} ty e e2 =>
      ⟨v, rfl, v, .ty "int", _, _, false, rfl, .ty _, ty, kit_ty e, false, rfl, iteF (by rw [e2] at k; exact k)⟩
    cases v with
    | int i =>
      refine ⟨.int i, rfl, .int i, .ty "int", _, _, true, rfl, .ty _, .base (.int i), kit_ty (by decide +kernel), true, rfl, iteT ?_⟩
      refine ⟨.int i, rfl, .int i, .ty "bool", _, _, false, rfl, .ty _, .base (.int i), kit_ty (by decide +kernel), false, rfl, true, rfl, iteT ?_⟩
      exact ⟨_, rfl, _, _, rfl, rfl, k⟩
    | bl b =>
      refine ⟨.bl b, rfl, .bl b, .ty "int", _, _, true, rfl, .ty _, .base (.bl b), kit_ty (by decide +kernel), true, rfl, iteT ?_⟩
      exact ⟨.bl b, rfl, .bl b, .ty "bool", _, _, true, rfl, .ty _, .base (.bl b), kit_ty (by decide +kernel), true, rfl, false, rfl, iteF k⟩
    | non => exact yes (.base .non) (by decide +kernel) rfl
    | str x => exact yes (.base (.str x)) (by decide +kernel) rfl
    | ref a =>
      obtain ⟨xs, hx⟩ := ok
      exact yes (.base (.lst hx)) (by decide +kernel) rfl
    | byt _ => exact ok.elim
    | flt _ => exact ok.elim
    | ty _ => exact ok.elim
/-! ### two_power -/
def spTwoPower : Sp := fun vs H Q _ => ∃ n : Nat, vs = [.int n] ∧ n ≤ 60 ∧ ∀ H', Same H H' → Q (.int ((2 ^ n : Nat) : Int)) H'
theorem scTwoPower : FnScope ["many", "found", "base"] ["many"] (defScope sTwoPower) := ⟨rfl, rfl, rfl, by decide +kernel, rfl, by decide +kernel, by decide +kernel⟩
theorem pow60 {a : Nat} (h : a ≤ 60) : ((2 ^ a : Nat) : Int) < 2 ^ 64 := by
  have : 2 ^ a ≤ 2 ^ 60 := Nat.pow_le_pow_right (by decide) h
  omega
theorem kTwoPower (A : At K mg "two_power" sTwoPower) : Kn P w K mg base CX0 1 "two_power" ["many"] spTwoPower := by
  have sc := scTwoPower
  refine A.kn (fun f fd F => F.ok scTwoPower (fun vs H Q E h => ?_) (fun cdv A outer s H vs Q E hr h => ?_)) (fun _ _ _ _ _ _ us hl => match us, hl with | [_], _ => rfl)
  · obtain ⟨n, rfl, _⟩ := h
    rfl
  · obtain ⟨n, rfl, hn, k⟩ := h
    refine ⟨_, (pss_cons (ps_asg (pe_tup (pa_cons pe_int (pa_cons pe_int pa_nil))) (pg_tup rfl (pgs_cons (pg_name (i := 1) sc.nd rfl (Or.inl rfl)) (pgs_cons (pg_name (i := 2) sc.nd rfl (Or.inl rfl)) pgs_nil)))) (pss_cons (ps_while PassesOwn.never (pt_cmpR op_gt (pv 0) pe_int (nomark _))
      (pss_cons (ps_if (pt_cmpR op_eq (pe_op op_mod (pv 0) pe_int) pe_int (nomark _)) (pss_one (ps_set (i := 1) sc.nd rfl (Or.inl rfl) (pe_op op_mul (pv 1) (pv 2)))) pss_nil) (pss_cons (ps_set (i := 2) sc.nd rfl (Or.inl rfl) (pe_op op_mul (pv 2) (pv 2))) (pss_one (ps_set (i := 0) sc.nd rfl (Or.inl rfl) (pe_op op_fdiv (pv 0) pe_int)))))) (pss_one (ps_ret (pv 1))))), ?_⟩
    refine ⟨by show 2 ≤ sizeLine; decide, fun p hp => ⟨p, _, rfl, SqT.of upd_same, rfl, _, _, rfl, _, _, rfl, rfl, ?_⟩⟩
    refine while_by (fun σ H' => H' = upd H p (.tup [.int 1, .int 2]) ∧ ∃ (m a b : Nat), σ = [some (.int m), some (.int ((2 ^ a : Nat) : Int)), some (.int ((2 ^ b : Nat) : Int))] ∧ 1 ≤ b ∧ a + b * m = n) (fun σ H' => match σ with | some (.int m) :: _ => m.toNat | _ => 0)
      ⟨rfl, n, 0, 1, rfl, Nat.le_refl _, by omega⟩ ?_ ?_
    · rintro σ H' ⟨rfl, m, a, b, rfl, hb, e⟩
      refine ⟨_, rfl, _, _, rfl, rfl, _, rfl, ?_⟩
      by_cases hm : m = 0
      · subst hm
        have e' : a = n := by omega
        subst e'
        exact iteF ⟨_, rfl, k _ (same_upd hp)⟩
      · have hm' : 0 < m := Nat.pos_of_ne_zero hm
        have hd : decide ((0 : Int) < (m : Int)) = true := decide_eq_true (by omega)
        rw [hd]
        refine iteT ?_
        have hbm : b ≤ b * m := Nat.le_mul_of_pos_right b hm'
        have hb60 : b ≤ 60 := by omega
        have ha60 : a ≤ 60 := by omega
        refine ⟨_, rfl, _, _, rfl, rfl, (by show (0 : Int) < 2; decide), rfl, _, rfl, ?_⟩
        have dv : b * m = b * (m % 2) + (b + b) * (m / 2) := by
          have q := Nat.div_add_mod m 2
          calc b * m = b * (2 * (m / 2) + m % 2) := by rw [q]
            _ = b * (m % 2) + (b + b) * (m / 2) := by rw [Nat.mul_add, Nat.add_mul, Nat.two_mul, Nat.mul_add]; omega
        have ed : ((m : Int) / 2) = ((m / 2 : Nat) : Int) := by omega
        have sq : ((2 ^ b : Nat) : Int) * ((2 ^ b : Nat) : Int) = ((2 ^ (b + b) : Nat) : Int) := by rw [Nat.pow_add, Int.natCast_mul]
        by_cases ho : m % 2 = 1
        · have et : decide (V.int ((m : Int) % 2) = V.int 1) = true := decide_eq_true (by congr 1; omega)
          rw [et]
          refine iteT ?_
          refine ⟨_, rfl, _, rfl, _, _, rfl, rfl, .inl ⟨by have : (0:Int) ≤ ((2 ^ a : Nat) : Int) := Int.natCast_nonneg _; omega, pow60 ha60⟩, ?_⟩
          have mul : ((2 ^ a : Nat) : Int) * ((2 ^ b : Nat) : Int) = ((2 ^ (a + b) : Nat) : Int) := by rw [Nat.pow_add, Int.natCast_mul]
          dsimp only
          rw [mul]
          have ea : (a + b) + (b + b) * (m / 2) = n := by rw [dv, ho] at e; omega
          clear et mul e dv ha60
          generalize a + b = a' at ea ⊢
          refine ⟨_, rfl, _, rfl, _, _, rfl, rfl, .inl ⟨by have : (0:Int) ≤ ((2 ^ b : Nat) : Int) := Int.natCast_nonneg _; omega, pow60 hb60⟩, ?_⟩
          dsimp only
          rw [sq]
          refine ⟨_, rfl, _, _, rfl, rfl, ⟨by decide, by decide⟩, ?_⟩
          dsimp only
          rw [ed]
          refine ⟨⟨rfl, m / 2, a', b + b, rfl, by omega, ea⟩, ?_⟩
          show (((m / 2 : Nat) : Int)).toNat < ((m : Int)).toNat
          omega
        · have et : decide (V.int ((m : Int) % 2) = V.int 1) = false := decide_eq_false (fun q => by injection q with q; omega)
          rw [et]
          refine iteF ?_
          have ea : a + (b + b) * (m / 2) = n := by rw [dv, show m % 2 = 0 by omega] at e; omega
          refine ⟨_, rfl, _, rfl, _, _, rfl, rfl, .inl ⟨by have : (0:Int) ≤ ((2 ^ b : Nat) : Int) := Int.natCast_nonneg _; omega, pow60 hb60⟩, ?_⟩
          dsimp only
          rw [sq]
          refine ⟨_, rfl, _, _, rfl, rfl, ⟨by decide, by decide⟩, ?_⟩
          dsimp only
          rw [ed]
          refine ⟨⟨rfl, m / 2, a, b + b, rfl, by omega, ea⟩, ?_⟩
          show (((m / 2 : Nat) : Int)).toNat < ((m : Int)).toNat
          omega
    · rintro σ H' Q1 Q2 hq ⟨v, e1, i, j, e2, e3, kk, e4, q⟩
      exact ⟨v, e1, i, j, e2, e3, kk, e4, hq _ _ q⟩
/-! ### check_counts: of counts of two signs at least nothing is said -/
def Tm (K : PySem.W.Frag) (P : Program) (w : World) (mg : Str → Option Value) (C : Addr) : Prop := True
end
end Wv
set_option Elab.async false
set_option linter.all false
set_option maxRecDepth 100000
set_option maxHeartbeats 2000000
namespace Wv
open PySem PySem.Spec PyProof.Rows L2 TL
/-! ### the errors and the class Code as they stand behind the top -/
abbrev ETm (P : Program) (K : PySem.W.Frag) (mg : Str → Option Value) (C fI : Addr) : Prop := PySem.WvE.ErrT P K mg "TooMany" "TooMany.__init__" C fI (defArgs sTooMany) (defBody sTooMany) (defScope sTooMany) ["what", "many", "most"]
abbrev EBs (P : Program) (K : PySem.W.Frag) (mg : Str → Option Value) (C fI : Addr) : Prop := PySem.WvE.ErrT P K mg "BadSign" "BadSign.__init__" C fI (defArgs sBadSign) (defBody sBadSign) (defScope sBadSign) ["index"]
abbrev EOs (P : Program) (K : PySem.W.Frag) (mg : Str → Option Value) (C fI : Addr) : Prop := PySem.WvE.ErrT P K mg "OtherSize" "OtherSize.__init__" C fI (defArgs sOtherSize) (defBody sOtherSize) (defScope sOtherSize) ["many", "wanted"]
abbrev EBr (P : Program) (K : PySem.W.Frag) (mg : Str → Option Value) (C fI : Addr) : Prop := PySem.WvE.ErrT P K mg "BadRank" "BadRank.__init__" C fI (defArgs sBadRank) (defBody sBadRank) (defScope sBadRank) ["rank"]
/-- the places of the four errors' classes -/
structure EA where
  tm : Addr
  bs : Addr
  os : Addr
  br : Addr
structure Errs (P : Program) (K : PySem.W.Frag) (mg : Str → Option Value) (R : EA) : Prop where
  tm : ∃ fI, ETm P K mg R.tm fI
  bs : ∃ fI, EBs P K mg R.bs fI
  os : ∃ fI, EOs P K mg R.os fI
  br : ∃ fI, EBr P K mg R.br fI
/-- an error of the class at C with these fields, all else as it was -/
def Thr (E : XK) (C : Addr) (fs : List (Str × V)) (H : Hp) : Prop := ∀ (d : Addr) (H' : Hp), Same H H' → H' d = some (.xd fs) → E (.ref C) (some d) H'
theorem Thr.up {E : XK} {C : Addr} {fs : List (Str × V)} {H H' : Hp} (t : Thr E C fs H) (s : Same H H') : Thr E C fs H' := fun d H2 s2 h => t d H2 (s.trans s2) h
structure CTxt (K : PySem.W.Frag) (mg : Str → Option Value) (C : Addr) : Prop where
  cl : Cls K C
  nL : NoAttr K C "lengths"
  nW : NoAttr K C "words"
  nS : NoAttr K C "size"
  nG : NoAttr K C "longest"
  mgC : mg "Code" = some (.ref C)
/-- at c: a code of these words -/
def CodeAt (C : Addr) (H : Hp) (c : Addr) (ws : List Hf.Wd) : Prop := ∃ (dx wt : Addr) (fs : List (Str × V)), H c = some (.ins C dx fs) ∧ fs.lookup ("words" : Str) = some (.ref wt) ∧ fs.lookup ("size" : Str) = some (.int (ws.length : Nat)) ∧ H wt = some (.tup (Ws ws))
theorem CodeAt.up {C : Addr} {H H' : Hp} {c : Addr} {ws : List Hf.Wd} (x : CodeAt C H c ws) (s : Same H H') : CodeAt C H' c ws := by
  obtain ⟨dx, wt, fs, h1, h2, h3, h4⟩ := x
  exact ⟨dx, wt, fs, s _ _ h1, h2, h3, s _ _ h4⟩
section
variable {P : Program} {w : World} {K : PySem.W.Frag} {mg : Str → Option Value} {base : Heap} {R : EA} {C : Addr}
/-! ### check_signs -/
def spCheckSigns (R : EA) : Sp := fun vs H Q E => ∃ n : Int, vs = [.int n] ∧ ((2 ≤ n ∧ n ≤ 2000) → Q .non H) ∧ (¬ (2 ≤ n ∧ n ≤ 2000) → Thr E R.tm [("what", .str "signs"), ("many", .int n), ("most", .int 2000)] H)
theorem scCheckSigns : FnScope ["many"] ["many"] (defScope sCheckSigns) := ⟨rfl, rfl, rfl, by decide +kernel, rfl, by decide +kernel, by decide +kernel⟩
theorem kCheckSigns (A : At K mg "check_signs" sCheckSigns) (EE : Errs P K mg R) (hM : ∃ t, mg "MOST_SIGNS" = some (.int 2000 t)) : Kn P w K mg base (L2.CX P w) 3 "check_signs" ["many"] (spCheckSigns R) := by
  obtain ⟨tM, hM⟩ := hM
  obtain ⟨fI, T⟩ := EE.tm
  refine A.kn (fun f fd F => F.okX scCheckSigns (fun vs H Q E h => ?_) (fun cdv A outer s H vs Q E hr h => ?_)) (fun _ _ _ _ _ _ us hl => match us, hl with | [_], _ => rfl)
  · obtain ⟨n, rfl, _⟩ := h
    rfl
  · obtain ⟨n, rfl, k1, k2⟩ := h
    have pM {p : Pos} : PE (cxOf (L2.CX P w) P w K mg base ["many"] "check_signs" (defScope sCheckSigns) f cdv A outer s H E) (.Name "MOST_SIGNS" p) (tC (.int 2000)) := pe_glob rfl hM ⟨_, rfl⟩
    refine ⟨_, (pss_one (ps_if (pt_not (pt_chain op_le op_le pe_int (pv 0) pM)) (pss_one (ps_rsE rfl T (PySem.WvE.init_TooMany T) (by decide) hr (takes_of rfl rfl rfl rfl) (pa_cons pe_str (pa_cons (pv 0) (pa_cons pM pa_nil))) (by rfl))) pss_nil)), ?_⟩
    refine ⟨_, rfl, _, _, rfl, rfl, _, rfl, ?_⟩
    by_cases h2 : 2 ≤ n
    · rw [decide_eq_true h2]
      refine iteT ⟨_, _, rfl, rfl, _, rfl, ?_⟩
      by_cases h3 : n ≤ 2000
      · rw [decide_eq_true h3]
        exact iteF (k1 ⟨h2, h3⟩)
      · rw [decide_eq_false h3]
        refine iteT ⟨_, rfl, rfl, fun d hd => k2 (fun q => h3 q.2) d _ (same_upd hd) upd_same⟩
    · rw [decide_eq_false h2]
      refine iteF ⟨_, rfl, ?_⟩
      refine iteT ⟨_, rfl, rfl, fun d hd => k2 (fun q => h2 q.1) d _ (same_upd hd) upd_same⟩
/-! ### check_counts: of right counts -/
def spCheckCounts (K : PySem.W.Frag) : Sp := fun vs H Q _ => ∃ (a : Addr) (ns : List Int), vs = [.ref a] ∧ SqL K H a (Is ns) ∧ 2 ≤ ns.length ∧ ns.length ≤ 1000 ∧ (∀ x ∈ ns, 0 ≤ x) ∧ ∀ H', Same H H' → Q .non H'
theorem scCheckCounts : FnScope ["counts", "index", "count"] ["counts"] (defScope sCheckCounts) := ⟨rfl, rfl, rfl, by decide +kernel, rfl, by decide +kernel, by decide +kernel⟩
theorem kCheckCounts (A : At K mg "check_counts" sCheckCounts) (B : Bi mg) (D1 : Kn P w K mg base (L2.CX P w) 3 "check_signs" ["many"] (spCheckSigns R)) (D2 : Kn P w K mg base CX0 1 "is_count" ["value"] spIsCount) :
    Kn P w K mg base CX0 4 "check_counts" ["counts"] (spCheckCounts K) := by
  have sc := scCheckCounts
  refine A.kn (fun f fd F => F.ok scCheckCounts (fun vs H Q E h => ?_) (fun cdv A outer s H vs Q E hr h => ?_)) (fun _ _ _ _ _ _ us hl => match us, hl with | [_], _ => rfl)
  · obtain ⟨a, ns, rfl, _⟩ := h
    rfl
  · obtain ⟨a, ns, rfl, hS, h2, h3, h0, k⟩ := h
    refine ⟨_, (pss_cons (ps_expr (pe_kn D1 hr passL (pa_cons (pe_callB call_len_seq (by rfl) B.len PySem.boot_len (pa_cons (pv 0) pa_nil)) pa_nil))) (pss_one (ps_for PassesOwn.never rfl (pi_enum (by rfl) B.enumerate (pa_cons (pv 0) pa_nil)) (pg_tup rfl (pgs_cons (pg_name (i := 1) sc.nd rfl (Or.inl rfl)) (pgs_cons (pg_name (i := 2) sc.nd rfl (Or.inl rfl)) pgs_nil)))
      (pss_one (ps_if (pt_not (pt_val (pe_kn D2 (hr.mono (by decide)) pass0 (pa_cons (pv 2) pa_nil)))) pss_never pss_nil))))), ?_⟩
    refine ⟨_, rfl, a, _, rfl, .inl hS, _, rfl, fun _ => ?_, fun q => absurd ⟨by rw [is_len]; omega, by rw [is_len]; omega⟩ q⟩
    refine ⟨_, rfl, a, _, rfl, hS, for_it (walk_enum (K := K) (a := a) (xs := Is ns)) (fun i σ H' => Same H H' ∧ ∃ u v, σ = [some (.ref a), u, v]) ⟨Same.refl _, _, _, rfl⟩ (fun i σ H' _ h => h.1.seq hS) ?_ (fun σ H' h => k _ h.1)⟩
    rintro i x σ H' H'' hi ⟨sm, u, v, rfl⟩ ⟨T, y, z, rfl, hT, rfl, hy, hz⟩
    obtain ⟨n, hn, rfl⟩ := is_at hz
    refine ⟨T, _, rfl, SqT.of upd_same, rfl, _, _, rfl, _, _, rfl, rfl, ?_⟩
    refine ⟨_, rfl, _, rfl, True.intro, ?_⟩
    have e : isCnt (.int n) = true := decide_eq_true (h0 n (List.mem_of_getElem? hn))
    rw [e]
    exact ⟨_, rfl, iteF ⟨sm.to hT, _, _, rfl⟩⟩
/-! ### check_pair -/
def spCheckPair (K : PySem.W.Frag) (R : EA) (C : Addr) : Sp := fun vs H Q E => ∃ (c a : Addr) (ws : List Hf.Wd) (ns : List Int), vs = [.ref c, .ref a] ∧ CodeAt C H c ws ∧ SqL K H a (Is ns) ∧ 2 ≤ ns.length ∧ ns.length ≤ 1000 ∧ (∀ x ∈ ns, 0 ≤ x) ∧
  (ns.length = ws.length → ∀ H', Same H H' → Q .non H') ∧ (ns.length ≠ ws.length → Thr E R.os [("many", .int (ns.length : Nat)), ("wanted", .int (ws.length : Nat))] H)
theorem scCheckPair : FnScope ["code", "counts"] ["code", "counts"] (defScope sCheckPair) := ⟨rfl, rfl, rfl, by decide +kernel, rfl, by decide +kernel, by decide +kernel⟩
theorem kCheckPair (A : At K mg "check_pair" sCheckPair) (B : Bi mg) (EE : Errs P K mg R) (T : CTxt K mg C) (D1 : Kn P w K mg base CX0 4 "check_counts" ["counts"] (spCheckCounts K)) : Kn P w K mg base (L2.CX P w) 5 "check_pair" ["code", "counts"] (spCheckPair K R C) := by
  obtain ⟨fI, TE⟩ := EE.os
  refine A.kn (fun f fd F => F.okX scCheckPair (fun vs H Q E h => ?_) (fun cdv A outer s H vs Q E hr h => ?_)) (fun _ _ _ _ _ _ us hl => match us, hl with | [_, _], _ => rfl)
  · obtain ⟨c, a, ws, ns, rfl, _⟩ := h
    rfl
  · obtain ⟨c, a, ws, ns, rfl, hC, hS, h2, h3, h0, k1, k2⟩ := h
    refine ⟨_, (pss_cons (ps_expr (pe_kn D1 hr pass0 (pa_cons (pv 1) pa_nil))) (pss_one (ps_if (pt_cmpR op_ne (pe_callB call_len_seq (by rfl) B.len PySem.boot_len (pa_cons (pv 1) pa_nil)) (pe_fld (pv 0) rfl) (nomark _)) (pss_one (ps_rsE rfl TE (PySem.WvE.init_OtherSize TE) (by decide) hr (takes_of rfl rfl rfl rfl) (pa_cons (pe_callB call_len_seq (by rfl) B.len PySem.boot_len (pa_cons (pv 1) pa_nil)) (pa_cons (pe_fld (pv 0) rfl) pa_nil)) (by rfl))) pss_nil))), ?_⟩
    refine ⟨_, rfl, a, ns, rfl, hS, h2, h3, h0, fun H1 s1 => ?_⟩
    obtain ⟨dx, wt, fs, e1, e2, e3, e4⟩ := hC.up s1
    refine ⟨_, rfl, a, _, rfl, .inl (s1.seq hS), _, rfl, c, C, dx, fs, _, rfl, e1, T.cl, T.nS, e3, rfl, _, rfl, ?_⟩
    rw [is_len]
    by_cases hl : ns.length = ws.length
    · have e : (!decide (V.int (ns.length : Nat) = V.int (ws.length : Nat))) = false := by rw [decide_eq_true (by rw [hl])]; rfl
      rw [e]
      exact iteF (k1 hl H1 s1)
    · have e : (!decide (V.int (ns.length : Nat) = V.int (ws.length : Nat))) = true := by rw [decide_eq_false (fun q => by injection q with q; omega)]; rfl
      rw [e]
      refine iteT ⟨_, rfl, a, _, rfl, .inl (s1.seq hS), _, rfl, c, C, dx, fs, _, rfl, e1, T.cl, T.nS, e3, rfl, fun d hd => ?_⟩
      rw [is_len]
      exact k2 hl d _ (s1.to hd) upd_same
/-! ### check_rank -/
def isRank (n : Nat) : V → Bool
  | .int i => decide (0 ≤ i ∧ i ≤ n)
  | _ => false
def spCheckRank (R : EA) (C : Addr) : Sp := fun vs H Q E => ∃ (c : Addr) (v : V) (ws : List Hf.Wd), vs = [.ref c, v] ∧ CodeAt C H c ws ∧ Okv H v ∧ (isRank ws.length v = true → Q .non H) ∧ (isRank ws.length v = false → Thr E R.br [("rank", v)] H)
theorem scCheckRank : FnScope ["code", "rank"] ["code", "rank"] (defScope sCheckRank) := ⟨rfl, rfl, rfl, by decide +kernel, rfl, by decide +kernel, by decide +kernel⟩
theorem kCheckRank (A : At K mg "check_rank" sCheckRank) (EE : Errs P K mg R) (T : CTxt K mg C) (D1 : Kn P w K mg base CX0 1 "is_count" ["value"] spIsCount) : Kn P w K mg base (L2.CX P w) 3 "check_rank" ["code", "rank"] (spCheckRank R C) := by
  obtain ⟨fI, TE⟩ := EE.br
  refine A.kn (fun f fd F => F.okX scCheckRank (fun vs H Q E h => ?_) (fun cdv A outer s H vs Q E hr h => ?_)) (fun _ _ _ _ _ _ us hl => match us, hl with | [_, _], _ => rfl)
  · obtain ⟨c, v, ws, rfl, _⟩ := h
    rfl
  · obtain ⟨c, v, ws, rfl, hC, ok, k1, k2⟩ := h
    obtain ⟨dx, wt, fs, e1, e2, e3, e4⟩ := hC
    refine ⟨_, (pss_one (ps_if (PW.pt (pw_or (pt_not (pt_val (pe_kn D1 (hr.mono (by decide)) pass0 (pa_cons (pv 1) pa_nil)))) (pw_or1 (pt_cmpR op_gt (pv 1) (pe_fld (pv 0) rfl) (nomark _))))) (pss_one (ps_rsE rfl TE (PySem.WvE.init_BadRank TE) (by decide) hr (takes_of rfl rfl rfl rfl) (pa_cons (pv 1) pa_nil) (by rfl))) pss_nil)), ?_⟩
    have bad : isRank ws.length v = false → tRsE R.br ["rank"] (fun cls d x H => E cls d H) (tCons (tVar 1) tNil) { nx := fun _ H' => Q .non H', rt := Q } (start ["code", "rank"] [.ref c, v]) H := fun q =>
      ⟨_, rfl, rfl, fun d hd => k2 q d _ (same_upd hd) upd_same⟩
    refine ⟨_, rfl, v, rfl, ok, _, rfl, ?_⟩
    cases v with
    | int i =>
      by_cases hi : 0 ≤ i
      · rw [show isCnt (.int i) = true from decide_eq_true hi]
        refine iteF ⟨_, rfl, _, rfl, c, C, dx, fs, _, rfl, e1, T.cl, T.nS, e3, _, _, rfl, rfl, _, rfl, ?_⟩
        by_cases hl : (ws.length : Int) < i
        · rw [decide_eq_true hl]
          exact iteT (bad (decide_eq_false (by omega)))
        · rw [decide_eq_false hl]
          exact iteF (k1 (decide_eq_true (by omega)))
      · rw [show isCnt (.int i) = false from decide_eq_false hi]
        exact iteT (iteT (bad (decide_eq_false (by omega))))
    | _ => exact iteT (iteT (bad rfl))
/-! ### is_sign_of -/
def isSgn (n : Nat) : V → Bool
  | .int i => decide (0 ≤ i ∧ i < n)
  | _ => false
def spIsSignOf (C : Addr) : Sp := fun vs H Q _ => ∃ (c : Addr) (v : V) (ws : List Hf.Wd), vs = [.ref c, v] ∧ CodeAt C H c ws ∧ Okv H v ∧ Q (.bl (isSgn ws.length v)) H
theorem scIsSignOf : FnScope ["code", "value"] ["code", "value"] (defScope sIsSignOf) := ⟨rfl, rfl, rfl, by decide +kernel, rfl, by decide +kernel, by decide +kernel⟩
theorem kIsSignOf (A : At K mg "is_sign_of" sIsSignOf) (T : CTxt K mg C) (D1 : Kn P w K mg base CX0 1 "is_count" ["value"] spIsCount) : Kn P w K mg base CX0 2 "is_sign_of" ["code", "value"] (spIsSignOf C) := by
  refine A.kn (fun f fd F => F.ok scIsSignOf (fun vs H Q E h => ?_) (fun cdv A outer s H vs Q E hr h => ?_)) (fun _ _ _ _ _ _ us hl => match us, hl with | [_, _], _ => rfl)
  · obtain ⟨c, v, ws, rfl, _⟩ := h
    rfl
  · obtain ⟨c, v, ws, rfl, hC, ok, k⟩ := h
    obtain ⟨dx, wt, fs, e1, e2, e3, e4⟩ := hC
    refine ⟨_, (pss_one (ps_ret (pe_and (pe_kn D1 hr pass0 (pa_cons (pv 1) pa_nil)) (pe_one (pe_cmpR op_lt (pv 1) (pe_fld (pv 0) rfl) (nomark _)))))), ?_⟩
    refine ⟨_, rfl, v, rfl, ok, _, rfl, ?_⟩
    cases v with
    | int i =>
      by_cases hi : 0 ≤ i
      · rw [show isCnt (.int i) = true from decide_eq_true hi]
        refine iteT ⟨_, rfl, _, rfl, c, C, dx, fs, _, rfl, e1, T.cl, T.nS, e3, _, _, rfl, rfl, ?_⟩
        have e : isSgn ws.length (.int i) = decide (i < (ws.length : Int)) := by
          show decide (0 ≤ i ∧ i < (ws.length : Int)) = _
          by_cases hl : i < (ws.length : Int)
          · rw [decide_eq_true hl, decide_eq_true ⟨hi, hl⟩]
          · rw [decide_eq_false hl, decide_eq_false (fun q => hl q.2)]
        rw [e] at k
        exact k
      · rw [show isCnt (.int i) = false from decide_eq_false hi]
        refine iteF ?_
        have e : isSgn ws.length (.int i) = false := decide_eq_false (fun q => hi q.1)
        rw [e] at k
        exact k
    | _ => exact iteF k
end
end Wv
set_option Elab.async false
set_option linter.all false
set_option maxRecDepth 100000
set_option maxHeartbeats 2000000
namespace Wv
open PySem PySem.Spec PyProof.Rows L2 TL
/-! ### texts that begin with another -/
theorem sw_starts (x p : Hf.Wd) : Txt.startswith (sw x) (sw p) = p.isPrefixOf x := by
  have e : Txt.startswith (sw x) (sw p) = (decide (0 + (sw p).length ≤ (sw x).length) && ((tl (sw x)).drop 0).take (sw p).length == tl (sw p)) := by
    rw [← StrLaws.subAt_eq]
    rfl
  rw [e, sw_len, sw_len, sw_tl, sw_tl, List.drop_zero, Bool.eq_iff_iff, List.isPrefixOf_iff_prefix]
  simp only [Bool.and_eq_true, decide_eq_true_eq, beq_iff_eq, Nat.zero_add]
  constructor
  · rintro ⟨_, h⟩
    exact ⟨x.drop p.length, by
      conv => rhs; rw [← List.take_append_drop p.length x, h]⟩
  · rintro ⟨t, rfl⟩
    simp
theorem ws_map (ws : List Hf.Wd) : Ws ws = (ws.map sw).map V.str := by rw [List.map_map]; rfl
theorem op_inK {X : Cx} (K : PySem.W.Frag) (h : X.K = K) : OpR X (compareOp .In) (rIn K false) := h ▸ op_in_seq
theorem pg_tupK {X : Cx} (K : PySem.W.Frag) (hK : X.K = K) {es : List Expr} {k : Nat} {pos : Pos} {t : TGs} {n : Nat} (hc : X.calm = true) (h : PGs X es t)
    (hn : (assignEach es X.env).length = n := by rfl) (hst : (assignEach es X.env).findIdx? (·.1) = none := by rfl) : PG X (.Tuple es k pos) (gTup K n t) := hK ▸ pg_tup hc h hn hst
theorem ws_of (ys : List Str) : ys.map V.str = Ws (ys.map tl) := by
  induction ys with
  | nil => rfl
  | cons y r ih => rw [List.map_cons, ih, List.map_cons]; show V.str y :: _ = V.str (sw (tl y)) :: _; rw [← sw_of y]
theorem wipe1 (σ : L2.St) (i : Nat) : wipe σ [i] = σ.set i none := rfl
section
variable {P : Program} {w : World} {K : PySem.W.Frag} {mg : Str → Option Value} {base : Heap} {R : EA} {C : Addr}
abbrev rLen (K : PySem.W.Frag) : List V → Hp → VK → Prop := fun xs H Q => ∃ p ys, xs = [.ref p] ∧ (SqL K H p ys ∨ SqT K H p ys) ∧ Q (.int ys.length) H
abbrev rLenT : List V → Hp → VK → Prop := fun xs H Q => ∃ z, xs = [.str z] ∧ z.length ≤ sizeLine ∧ Q (.int z.length) H
/-- [len(word) for word in words] -/
theorem lc_lens {a D : Addr} {ws : List Hf.Wd} {H : Hp} {σ : L2.St} {i : Nat} {Qd : Hp → Prop} (hi : i < σ.length) (hS : SqL K H a (Ws ws)) (hn : ws.length ≤ 1000) (hw : ∀ w ∈ ws, w.length ≤ 1000) (hD : H D = none) (hd : ∀ H', Same H H' → H' D = some (.lst (Is (Hf.lens ws))) → Qd H') :
    ∃ W : Nat → Nat → Hp → Prop, (∃ m, W 0 m (upd H D (.lst []))) ∧ ∀ j m H, W j m H →
      ((Itl K a).stop j H ∧ Qd H) ∨ ((Itl K a).go j H ∧ ∃ Nx : Hp → Prop, (∀ H', Nx H' → ∃ m', m' < m ∧ W (j + 1) m' H') ∧ ∀ x H', (Itl K a).yld j H x H' → gName i x (wipe σ [i]) H' fun σ2 H2 => wipe σ2 [i] = wipe σ [i] ∧ tYes σ2 H2 fun b H3 =>
        if b = true then tCB rLenT (tCons (tVar i) tNil) σ2 H3 fun y H4 => ∃ acc, H4 D = some (.lst acc) ∧ acc.length < sizeLine ∧ Nx (upd H4 D (.lst (acc ++ [y]))) else Nx H3) := by
  refine lc_it (walk_list (K := K) (a := a) (xs := Ws ws)) (fun j H' => Same H H' ∧ H' D = some (.lst (Is (Hf.lens (ws.take j))))) ⟨same_upd hD, upd_same⟩ (fun j H' _ h => h.1.seq hS) ?_ (fun H' h => hd H' h.1 (by have := h.2; rw [ws_len, List.take_length] at this; exact this))
  rintro j x H' H'' hj ⟨sm, hL⟩ ⟨rfl, hx⟩
  obtain ⟨wd, hwd, rfl⟩ := ws_at hx
  have hm := List.mem_of_getElem? hwd
  refine ⟨by rw [wipe1, wipe1, List.set_set, List.set_set], iteT (B := Same H H'' ∧ H'' D = some (.lst (Is (Hf.lens (ws.take (j + 1)))))) ⟨_, List.getElem?_set_self (by rw [wipe1, List.length_set]; exact hi), _, rfl, by rw [sw_len]; exact line_of (hw _ hm), ?_⟩⟩
  refine ⟨_, hL, ?_, sm.set hD, ?_⟩
  · rw [is_len, List.length_map]
    exact small1000 (Nat.le_trans (by rw [List.length_take]; exact Nat.min_le_right _ _) hn)
  · rw [upd_same, take_snoc hwd, sw_len]
    simp
/-! ### is_bits: of bits -/
def spIsBits : Sp := fun vs H Q _ => ∃ wd : Hf.Wd, vs = [.str (sw wd), .int (wd.length : Nat)] ∧ wd.length ≤ 1000 ∧ (∀ c ∈ wd, c = 48 ∨ c = 49) ∧ ∀ H', Same H H' → Q (.bl true) H'
theorem scIsBits : FnScope ["value", "size", "bit"] ["value", "size"] (defScope sIsBits) := ⟨rfl, rfl, rfl, by decide +kernel, rfl, by decide +kernel, by decide +kernel⟩
theorem kIsBits (A : At K mg "is_bits" sIsBits) (B : Bi mg) : Kn P w K mg base CX0 1 "is_bits" ["value", "size"] spIsBits := by
  have sc := scIsBits
  refine A.kn (fun f fd F => F.ok scIsBits (fun vs H Q E h => ?_) (fun cdv A outer s H vs Q E hr h => ?_)) (fun _ _ _ _ _ _ us hl => match us, hl with | [_, _], _ => rfl)
  · obtain ⟨wd, rfl, _⟩ := h
    rfl
  · obtain ⟨wd, rfl, hl, hb, k⟩ := h
    refine ⟨_, (pss_one (ps_ret (pe_and (pe_callB call_isi (by rfl) B.isinstance (by decide +kernel) (pa_cons (pv 0) (pa_cons (pe_bltn (v := .ty "str") (by rfl) B.str (by decide +kernel) rfl) pa_nil))) (pe_and (pe_cmpR op_eq (pe_callB call_len_str (by rfl) B.len PySem.boot_len (pa_cons (pv 0) pa_nil)) (pv 1) (nomark _)) (pe_one (pe_callB (cr_all rfl) (by rfl) B.all (by decide +kernel) (pa_cons (pe_lc (own := [("bit", 2)]) rfl sc.nd (pi_str (pv 0)) (blkOk_by (own := [("bit", 2)]) (N := ["value", "size", "bit"]) (sc := defScope sIsBits) (by decide +kernel)) (fun _ _ _ _ _ => (pg_name (i := 2) sc.nd rfl (Or.inl rfl))) (fun _ _ _ _ _ => pts_nil) (fun _ _ _ _ _ => (by exact (pe_cmpR (op_inK K rfl) (pv 2) (pe_tup (pa_cons pe_str (pa_cons pe_str pa_nil))) (by rfl))))) pa_nil))))))), ?_⟩
    refine ⟨_, rfl, _, .ty "str", _, _, true, rfl, .ty _, .base (.str _), kit_ty (by decide +kernel), true, rfl, iteT ?_⟩
    refine ⟨_, rfl, _, rfl, by rw [sw_len]; exact line_of hl, _, rfl, rfl, true, by rw [sw_len]; exact congrArg V.bl (decide_eq_true rfl), iteT ?_⟩
    refine ⟨_, rfl, _, rfl, fun D hD => ?_⟩
    refine lc_it walk_str (fun i H' => Same H H' ∧ H' D = some (.lst ((List.replicate i true).map V.bl))) ⟨same_upd hD, upd_same⟩ (fun _ _ _ _ => True.intro) ?_ ?_
    · rintro i x H' H'' hi ⟨sm, hL⟩ ⟨rfl, c, hc, rfl⟩
      have hc' : wd[i]? = some c := by simpa [sw] using hc
      have h49 := hb c (List.mem_of_getElem? hc')
      refine ⟨rfl, iteT (B := True) ⟨_, rfl, by show 2 ≤ sizeLine; decide, fun T hT => ?_⟩⟩
      refine ⟨T, _, rfl, .inr (SqT.of upd_same), rfl, rfl, ?_⟩
      have e : inV (V.str ⟨#[c]⟩) [V.str "0", V.str "1"] = true := by
        rw [sw0, sw1, sw_one]
        rcases h49 with q | q
        · subst q
          decide +kernel
        · subst q
          decide +kernel
      refine ⟨_, (upd_ne (ne_of_none hL hT)).trans hL, ?_, (sm.to hT).set hD, ?_⟩
      · rw [List.length_map, List.length_replicate]
        have := lt_of_get hc'
        exact small1000 (by omega)
      · rw [upd_same, e, List.replicate_succ', List.map_append]
        rfl
    · rintro H' ⟨sm, hL⟩
      refine ⟨D, _, rfl, SqL.of hL, ?_⟩
      have e : (List.replicate (sw wd).cps.size true).all id = true := by simp
      rw [e]
      exact k H' sm
/-! ### checked_words: of a full code -/
def spChecked (K : PySem.W.Frag) : Sp := fun vs H Q _ => ∃ (lt wl : Addr) (ws : List Hf.Wd), vs = [.ref lt, .ref wl] ∧ SqT K H lt (Is (Hf.lens ws)) ∧ H wl = some (.lst (Ws ws)) ∧ Hf.Full ws ∧ ws.length < 64 ∧ ∀ (H' : Hp) (p : Addr), Same H H' → H' p = some (.tup (Ws ws)) → Q (.ref p) H'
theorem scChecked : FnScope ["lengths", "words", "index", "length", "order", "word", "after"] ["lengths", "words"] (defScope sCheckedWords) := ⟨rfl, rfl, rfl, by decide +kernel, rfl, by decide +kernel, by decide +kernel⟩
theorem kChecked (A : At K mg "checked_words" sCheckedWords) (B : Bi mg) (D1 : Kn P w K mg base CX0 1 "is_bits" ["value", "size"] spIsBits) : Kn P w K mg base CX0 2 "checked_words" ["lengths", "words"] (spChecked K) := by
  have sc := scChecked
  refine A.kn (fun f fd F => F.ok scChecked (fun vs H Q E h => ?_) (fun cdv A outer s H vs Q E hr h => ?_)) (fun _ _ _ _ _ _ us hl => match us, hl with | [_, _], _ => rfl)
  · obtain ⟨lt, wl, ws, rfl, _⟩ := h
    rfl
  · obtain ⟨lt, wl, ws, rfl, hT, hW, hF, h64, k⟩ := h
    refine ⟨_, (pss_cons (ps_for PassesOwn.never rfl (pi_enumT (by rfl) B.enumerate (pa_cons (pv 0) pa_nil)) (pg_tup rfl (pgs_cons (pg_name (i := 2) sc.nd rfl (Or.inl rfl)) (pgs_cons (pg_name (i := 3) sc.nd rfl (Or.inl rfl)) pgs_nil))) (pss_one (ps_if (pt_not (pt_val (pe_kn D1 hr pass0 (pa_cons (pe_ix ix_list (pv 1) (pv 2) (fun _ _ => rfl)) (pa_cons (pv 3) pa_nil))))) pss_never pss_nil))) (pss_cons (ps_set (i := 4) sc.nd rfl (Or.inl rfl) (pe_callB cr_sortedS (by rfl) B.sorted (by decide +kernel) (pa_cons (pv 1) pa_nil))) (pss_cons (ps_if (pt_val (pe_callB (cr_any rfl) (by rfl) B.any (by decide +kernel) (pa_cons (pe_lc (own := [("word", 5), ("after", 6)]) rfl sc.nd (pi_zip (by rfl) B.zip (pa_cons (pv 4) (pa_cons (pe_slice sl_list (pv 4) (po_some pe_int) po_none) pa_nil))) (blkOk_by (own := [("word", 5), ("after", 6)]) (N := ["lengths", "words", "index", "length", "order", "word", "after"]) (sc := defScope sCheckedWords) (by decide +kernel)) (fun _ _ _ _ _ => (pg_tupK (n := 2) K rfl rfl (pgs_cons (pg_name (i := 5) sc.nd rfl (Or.inl rfl)) (pgs_cons (pg_name (i := 6) sc.nd rfl (Or.inl rfl)) pgs_nil)))) (fun _ _ _ _ _ => pts_nil) (fun _ _ _ _ _ => (by exact (pe_m1 PySem.F.slot_str_startswith PySem.F.type_str_startswith mt_startswith (pv 6) (pv 5))))) pa_nil))) pss_never pss_nil) (pss_one (ps_ret (pe_callTy call_tuple_of (by rfl) B.tuple (by decide +kernel) (pa_cons (pv 1) pa_nil))))))), ?_⟩
    refine ⟨_, rfl, lt, _, rfl, hT, ?_⟩
    refine for_it (J := IteT K lt) (n := ws.length) (G := fun H' => SqT K H' lt (Is (Hf.lens ws))) (Y := YPair (fun i => some (.int (i : Nat))) (fun i => (Is (Hf.lens ws))[i]?))
      ⟨fun i H' hi q => ⟨_, _, q, List.getElem?_eq_getElem (by rw [is_len, List.length_map]; exact hi)⟩, fun H' q => ⟨_, q, by rw [is_len, List.length_map]; exact Nat.le_refl _⟩, fun i H' v H2 _ q ⟨T, x, h1, h2, h3, h4⟩ => ⟨T, _, x, h1, h2, h3, rfl, h4 _ q⟩⟩
      (fun i σ H' => Same H H' ∧ ∃ u v, σ = [some (.ref lt), some (.ref wl), u, v, none, none, none]) ⟨Same.refl _, _, _, rfl⟩ (fun i σ H' _ h => seqT h.1 hT) ?_ ?_
    · rintro i x σ H' H'' hi ⟨sm, u, v, rfl⟩ ⟨T, y, z, rfl, hTn, rfl, hy, hz⟩
      cases hy
      obtain ⟨n, hn, rfl⟩ := is_at hz
      obtain ⟨wd, hwd⟩ := get_of_lt hi
      have en : n = (wd.length : Nat) := by
        rw [List.getElem?_map, hwd] at hn
        exact (Option.some.inj hn).symm
      subst en
      have hm := List.mem_of_getElem? hwd
      have s2 : Same H (upd H' T (.tup [.int (i : Nat), .int (wd.length : Nat)])) := sm.to hTn
      refine ⟨T, _, rfl, SqT.of upd_same, rfl, _, _, rfl, _, _, rfl, rfl, ?_⟩
      refine ⟨_, rfl, _, rfl, _, _, _, _, rfl, rfl, SqL.of (s2 _ _ hW), atI_nat (ws_get hwd), _, rfl, wd, rfl, ?_, hF.bits hm, fun H2 sm2 => ⟨_, rfl, iteF ⟨s2.trans sm2, _, _, rfl⟩⟩⟩
      have := hF.short hm
      omega
    · rintro σ H1 ⟨sm, u, v, rfl⟩
      refine ⟨_, rfl, wl, ws.map sw, rfl, SqL.of (by rw [← ws_map]; exact sm _ _ hW), by rw [List.length_map]; exact h64, fun ys p hp _ hn => ?_⟩
      -- the sorted words are an arrangement of the words
      have ep : (ys.map tl).Perm ws := by
        have := hp.map tl
        rw [List.map_map] at this
        have e : (tl ∘ sw) = (id : Hf.Wd → Hf.Wd) := rfl
        rw [e, List.map_id] at this
        exact this
      have ey := ws_of ys
      have apart := (hF.perm ep.symm).apart
      have hlen : (ys.map tl).length < 64 := by rw [ep.length_eq]; exact h64
      rw [ey]
      generalize ys.map tl = os at ep apart hlen
      have s1 : Same H (upd H1 p (.lst (Ws os))) := sm.to hn
      have hcut : cutV (Ws os) (some 1) none = Ws os.tail := by
        unfold cutV
        rw [HT.sIx_none, show (1 : Int) = ((1 : Nat) : Int) from rfl, HT.sIx_nat]
        cases os with
        | nil => rfl
        | cons o r =>
          simp
          exact List.take_of_length_le (by rw [List.length_map]; exact Nat.le_refl _)
      refine ⟨_, rfl, _, rfl, _, rfl, p, _, rfl, SqL.of upd_same, fun q hq => ?_⟩
      rw [hcut]
      have npq : p ≠ q := fun z => by rw [← z, upd_same] at hq; cases hq
      have s2 : Same H (upd (upd H1 p (.lst (Ws os))) q (.lst (Ws os.tail))) := s1.to hq
      have hp2 : (upd (upd H1 p (.lst (Ws os))) q (.lst (Ws os.tail))) p = some (.lst (Ws os)) := by rw [upd_ne npq, upd_same]
      refine ⟨p, q, _, _, rfl, SqL.of hp2, SqL.of upd_same, fun D hD => ?_⟩
      generalize hH2 : (upd (upd H1 p (.lst (Ws os))) q (.lst (Ws os.tail))) = H2 at s2 hp2 hD
      have hq2 : H2 q = some (.lst (Ws os.tail)) := by rw [← hH2, upd_same]
      refine lc_it (walk_zip (K := K) (a := p) (b := q) (xs := Ws os) (ys := Ws os.tail) rfl) (fun i H' => Same H2 H' ∧ H' D = some (.lst ((List.replicate i false).map V.bl))) ⟨same_upd hD, upd_same⟩ (fun i H' _ h => ⟨SqL.of (h.1 _ _ hp2), SqL.of (h.1 _ _ hq2)⟩) ?_ ?_
      · rintro i x H' H'' hi ⟨sm', hL⟩ ⟨T, y, z, rfl, hTn, rfl, hy, hz⟩
        obtain ⟨o1, ho1, rfl⟩ := ws_at hy
        obtain ⟨o2, ho2, rfl⟩ := ws_at hz
        have ho2' : os[i + 1]? = some o2 := by rw [← List.getElem?_tail]; exact ho2
        have ap : Hf.Apart o1 o2 := by
          obtain ⟨l1, e1⟩ := List.getElem?_eq_some_iff.mp ho1
          obtain ⟨l2, e2⟩ := List.getElem?_eq_some_iff.mp ho2'
          have := List.pairwise_iff_getElem.mp apart i (i + 1) l1 l2 (Nat.lt_succ_self i)
          rw [e1, e2] at this
          exact this
        refine ⟨T, _, rfl, SqT.of upd_same, rfl, _, _, rfl, _, _, rfl, rfl, rfl, iteT (B := True) ?_⟩
        refine ⟨_, rfl, ⟨_, rfl⟩, _, rfl, _, _, rfl, rfl, ?_⟩
        refine ⟨_, (upd_ne (ne_of_none hL hTn)).trans hL, ?_, (sm'.to hTn).set hD, ?_⟩
        · rw [List.length_map, List.length_replicate]
          have := lt_of_get ho1
          exact small1000 (by omega)
        · rw [upd_same, sw_starts, ap.1, List.replicate_succ', List.map_append]
          rfl
      · rintro H' ⟨sm', hL⟩
        refine ⟨D, _, rfl, SqL.of hL, ?_⟩
        have e : (List.replicate (min (Ws os).length (Ws os.tail).length) false).any id = false := by simp
        rw [e]
        refine ⟨_, rfl, iteF ⟨_, rfl, wl, _, rfl, .inl ⟨SqL.of (sm' _ _ (s2 _ _ hW)), fun l hl => ?_⟩⟩⟩
        exact k _ l ((s2.trans sm').to hl) upd_same
end
end Wv
set_option Elab.async false
set_option linter.all false
set_option maxRecDepth 100000
set_option maxHeartbeats 2000000
namespace Wv
open PySem PySem.Spec PyProof.Rows L2 TL
/-! ### the class Code: what is made of a full code -/
/-- Code.__init__ behind the top -/
abbrev CodeFD (K : PySem.W.Frag) (f : Addr) (fd : FuncData) : Prop := FunD K "__init__" "Code.__init__" (defArgs sCode) (defBody sCode) (defScope sCode) [.non] [] f fd
def spInit (C : Addr) : Sp := fun vs H Q _ => ∃ (x ll wl dx : Addr) (ws : List Hf.Wd), vs = [.ref x, .ref ll, .ref wl] ∧ H x = some (.ins C dx []) ∧ H ll = some (.lst (Is (Hf.lens ws))) ∧ H wl = some (.lst (Ws ws)) ∧ Hf.Full ws ∧ ws.length < 60 ∧
  ∀ H', But x H H' → CodeAt C H' x ws → Q .non H'
theorem scCode : FnScope ["self", "lengths", "words", "index", "length", "longest"] ["self", "lengths", "words"] (defScope sCode) := ⟨rfl, rfl, rfl, by decide +kernel, rfl, by decide +kernel, by decide +kernel⟩
section
variable {P : Program} {w : World} {K : PySem.W.Frag} {mg : Str → Option Value} {base : Heap} {R : EA} {C : Addr}
theorem lens_at {ws : List Hf.Wd} {i : Nat} {n : Int} (h : (Hf.lens ws)[i]? = some n) : ∃ wd, ws[i]? = some wd ∧ n = (wd.length : Nat) := by
  rw [List.getElem?_map] at h
  cases e : ws[i]? with
  | none => rw [e] at h; cases h
  | some wd => rw [e] at h; exact ⟨wd, rfl, (Option.some.inj h).symm⟩
theorem kr_sum (M : Nat) (ws : List Hf.Wd) : ((ws.map fun x => ((2 ^ (M - x.length) : Nat) : Int)).sum : Int) = ((Hf.kr M (ws.map List.length) : Nat) : Int) := by
  induction ws with
  | nil => rfl
  | cons x r ih => rw [List.map_cons, List.sum_cons, ih, List.map_cons, Hf.kr_cons]; push_cast; rfl
theorem putF_len (f : Str) (v : V) : ∀ fs : List (Str × V), (putF f v fs).length ≤ fs.length + 1
  | [] => Nat.le_refl _
  | (g, x) :: r => by
    unfold putF
    split
    · simp
    · have := putF_len f v r
      simp only [List.length_cons]
      omega
theorem kInit {f : Addr} {fd : FuncData} (F : CodeFD K f fd) (B : Bi mg) (T : CTxt K mg C) (hL : ∃ t, mg "MOST_LENGTH" = some (.int 1999 t)) (D0 : Kn P w K mg base CX0 1 "is_count" ["value"] spIsCount) (D1 : Kn P w K mg base CX0 1 "two_power" ["many"] spTwoPower)
    (D2 : Kn P w K mg base (L2.CX P w) 3 "check_signs" ["many"] (spCheckSigns R)) (D3 : Kn P w K mg base CX0 2 "checked_words" ["lengths", "words"] (spChecked K)) : FnOk P w K mg base CX0 4 f fd ["self", "lengths", "words"] (spInit C) := by
  have sc := scCode
  obtain ⟨tL, hL⟩ := hL
  refine F.ok scCode (fun vs H Q E h => ?_) (fun cdv A outer s H vs Q E hr h => ?_)
  · obtain ⟨x, ll, wl, dx, ws, rfl, _⟩ := h
    rfl
  · obtain ⟨x, ll, wl, dx, ws, rfl, hx, hl, hw, hF, h60, k⟩ := h
    have pM {p : Pos} : PE (cxOf CX0 P w K mg base ["self", "lengths", "words", "index", "length", "longest"] "Code.__init__" (defScope sCode) f cdv A outer s H E).nox (.Name "MOST_LENGTH" p) (tC (.int 1999)) := pe_glob rfl hL ⟨_, rfl⟩
    refine ⟨_, PSs.nox (pss_cons (ps_expr (pe_kn D2 hr passL (pa_cons (pe_callB call_len_seq (by rfl) B.len PySem.boot_len (pa_cons (pv 1) pa_nil)) pa_nil))) (pss_cons (ps_for PassesOwn.never rfl (pi_enum (by rfl) B.enumerate (pa_cons (pv 1) pa_nil)) (pg_tup rfl (pgs_cons (pg_name (i := 3) sc.nd rfl (Or.inl rfl)) (pgs_cons (pg_name (i := 4) sc.nd rfl (Or.inl rfl)) pgs_nil))) (pss_one (ps_if (PW.pt (pw_or (pt_not (pt_val (pe_kn D0 (hr.mono (by decide)) pass0 (pa_cons (pv 4) pa_nil)))) (pw_or1 (pt_not (pt_chain op_le op_le pe_int (pv 4) pM))))) pss_never pss_nil))) (pss_cons (ps_set (i := 5) sc.nd rfl (Or.inr rfl) (pe_callB (cr_max rfl) (by rfl) B.max (by decide +kernel) (pa_cons (pv 1) pa_nil))) (pss_cons (ps_if (pt_cmpR op_ne (pe_callB (cr_sum rfl) (by rfl) B.sum (by decide +kernel) (pa_cons (pe_lc (own := [("length", 4)]) rfl sc.nd (pi_list (pv 1)) (blkOk_by (own := [("length", 4)]) (N := ["self", "lengths", "words", "index", "length", "longest"]) (sc := defScope sCode) (by decide +kernel)) (fun _ _ _ _ _ => (pg_name (i := 4) sc.nd rfl (Or.inl rfl))) (fun _ _ _ _ _ => pts_nil) (fun _ _ _ _ _ => (pe_kn D1 (hr.mono (by decide)) pass0 (pa_cons (pe_op op_sub (pv 5) (pv 4)) pa_nil)))) pa_nil)) (pe_kn D1 (hr.mono (by decide)) pass0 (pa_cons (pv 5) pa_nil)) (nomark _)) pss_never pss_nil) (pss_cons (ps_fld (pv 0) (pe_callTy call_tuple_of (by rfl) B.tuple (by decide +kernel) (pa_cons (pv 1) pa_nil)) rfl) (pss_cons (ps_fld (pv 0) (pe_ifExp (pt_cmpR op_isN (pv 2) pe_non (nomark _)) pe_no (pe_kn D3 (hr.mono (by decide)) pass0 (pa_cons (pe_fld (pv 0) rfl) (pa_cons (pv 2) pa_nil)))) rfl) (pss_cons (ps_fld (pv 0) (pe_callB call_len_seq (by rfl) B.len PySem.boot_len (pa_cons (pe_fld (pv 0) rfl) pa_nil)) rfl) (pss_one (ps_fld (pv 0) (pv 5) rfl))))))))), ?_⟩
    have hn0 : 0 < ws.length := by
      obtain ⟨t, ht, hl⟩ := hF
      omega
    have hn2 : 2 ≤ ws.length := hF.choose_spec.2
    have el : (Is (Hf.lens ws)).length = ws.length := by rw [is_len, List.length_map]
    refine ⟨_, rfl, ll, _, rfl, .inl (SqL.of hl), _, rfl, fun _ => ?_, fun q => absurd ⟨by rw [el]; omega, by rw [el]; omega⟩ q⟩
    refine ⟨_, rfl, ll, _, rfl, SqL.of hl, for_it (walk_enum (K := K) (a := ll) (xs := Is (Hf.lens ws))) (fun i σ H' => Same H H' ∧ ∃ u v, σ = [some (.ref x), some (.ref ll), some (.ref wl), u, v, none]) ⟨Same.refl _, _, _, rfl⟩ (fun i σ H' _ h => SqL.of (h.1 _ _ hl)) ?_ ?_⟩
    · rintro i y σ H' H'' hi ⟨sm, u, v, rfl⟩ ⟨T, y, z, rfl, hT, rfl, hy, hz⟩
      obtain ⟨n, hn, rfl⟩ := is_at hz
      obtain ⟨wd, hwd, rfl⟩ := lens_at hn
      have hm := List.mem_of_getElem? hwd
      have g1 := hF.long hm
      have g2 := hF.short hm
      refine ⟨T, _, rfl, SqT.of upd_same, rfl, _, _, rfl, _, _, rfl, rfl, ?_⟩
      refine ⟨_, rfl, _, rfl, True.intro, _, rfl, ?_⟩
      rw [show isCnt (.int (wd.length : Nat)) = true from decide_eq_true (show (0 : Int) ≤ (wd.length : Nat) by omega)]
      refine iteF ⟨_, rfl, _, _, rfl, rfl, _, rfl, ?_⟩
      rw [decide_eq_true (show (1 : Int) ≤ (wd.length : Nat) by omega)]
      refine iteT ⟨_, _, rfl, rfl, _, rfl, ?_⟩
      rw [decide_eq_true (show ((wd.length : Nat) : Int) ≤ 1999 by omega)]
      exact iteF ⟨sm.to hT, _, _, rfl⟩
    · rintro σ H1 ⟨sm, u, v, rfl⟩
      have hl1 := sm _ _ hl
      refine ⟨_, rfl, ll, _, rfl, SqL.of hl1, by rw [List.length_map]; exact hn0, fun M hM hmax => ?_⟩
      obtain ⟨wM, hwM, rfl⟩ := List.mem_map.mp hM
      have hsh := hF.short hwM
      have hle : ∀ x ∈ ws, x.length ≤ wM.length := fun x hx => by
        have := hmax _ (List.mem_map_of_mem hx)
        omega
      refine ⟨_, rfl, ll, rfl, ⟨_, SqL.of hl1⟩, fun D hD => ?_⟩
      refine lc_it (walk_list (K := K) (a := ll) (xs := Is (Hf.lens ws))) (fun i H' => Same H1 H' ∧ H' D = some (.lst (Is ((ws.take i).map fun x => ((2 ^ (wM.length - x.length) : Nat) : Int))))) ⟨same_upd hD, upd_same⟩ (fun i H' _ h => SqL.of (h.1 _ _ hl1)) ?_ ?_
      · rintro i y H' H'' hi ⟨sm', hL⟩ ⟨rfl, hy⟩
        obtain ⟨n, hn, rfl⟩ := is_at hy
        obtain ⟨wd, hwd, rfl⟩ := lens_at hn
        have hm := List.mem_of_getElem? hwd
        have g1 := hle _ hm
        refine ⟨rfl, iteT (B := True) ⟨_, rfl, _, rfl, _, _, rfl, rfl, wM.length - wd.length, ?_, by omega, fun H3 s3 => ?_⟩⟩
        · rw [show ((wM.length - wd.length : Nat) : Int) = (wM.length : Int) - (wd.length : Int) by omega]
          rfl
        refine ⟨_, s3 _ _ hL, ?_, (sm'.trans s3).set hD, ?_⟩
        · rw [is_len, List.length_map]
          exact small1000 (Nat.le_trans (by rw [List.length_take]; exact Nat.min_le_right _ _) (by omega))
        · rw [upd_same, take_snoc hwd]
          simp
      · rintro H2 ⟨sm2, hL⟩
        rw [el] at hL
        rw [List.take_length] at hL
        have hl2 := sm2 _ _ hl1
        refine ⟨D, _, rfl, SqL.of hL, _, rfl, wM.length, rfl, by omega, fun H3 s3 => ⟨rfl, _, rfl, ?_⟩⟩
        rw [kr_sum, hF.kraft_at hle, decide_eq_true rfl]
        refine iteF ?_
        have s13 := (sm.trans sm2).trans s3
        have hl3 := s13 _ _ hl
        have hx3 := s13 _ _ hx
        have hw3 := s13 _ _ hw
        refine ⟨_, rfl, ll, _, rfl, .inl ⟨SqL.of hl3, fun l hln => ?_⟩⟩
        have nxl : x ≠ l := fun z => by rw [← z, hx3] at hln; cases hln
        have hxa : (upd H3 l (.tup (Is (Hf.lens ws)))) x = some (.ins C dx []) := by rw [upd_ne nxl]; exact hx3
        refine ⟨_, rfl, x, C, dx, [], rfl, hxa, T.cl, T.nL, by decide, ?_⟩
        have n1 : ¬ (("lengths" : Str) = "words") := by decide +kernel
        have n2 : ¬ (("words" : Str) = "size") := by decide +kernel
        have n3 : ¬ (("lengths" : Str) = "size") := by decide +kernel
        have n4 : ¬ (("words" : Str) = "longest") := by decide +kernel
        have n5 : ¬ (("size" : Str) = "longest") := by decide +kernel
        have a1 : ∀ u v : V, (putF "words" u (putF "lengths" v [])).length ≤ 2 := fun u v => by
          have q1 := putF_len "words" u (putF "lengths" v [])
          have q2 := putF_len "lengths" v []
          simp only [List.length_nil] at q2
          omega
        generalize hHb : upd (upd H3 l (.tup (Is (Hf.lens ws)))) x (.ins C dx (putF "lengths" (.ref l) [])) = Hb
        have hbx : Hb x = some (.ins C dx (putF "lengths" (.ref l) [])) := by rw [← hHb, upd_same]
        have hbl : Hb l = some (.tup (Is (Hf.lens ws))) := by rw [← hHb, upd_ne (fun z => nxl z.symm), upd_same]
        have butb : But x H Hb := by
          rw [← hHb]
          exact (But.of (s13.to hln)).trans But.upd
        have hbw : Hb wl = some (.lst (Ws ws)) := butb _ _ (fun z => by rw [z, hx] at hw; cases hw) hw
        refine ⟨_, rfl, rfl, _, rfl, ?_⟩
        rw [decide_eq_false (show ¬ (V.ref wl = V.non) by intro z; cases z)]
        refine iteF ⟨_, rfl, x, C, dx, _, .ref l, rfl, hbx, T.cl, T.nL, by rw [lookup_putF]; exact if_pos rfl, _, rfl, l, wl, ws, rfl, SqT.of hbl, hbw, hF, by omega, fun Hc p sc' hp => ?_⟩
        have hcx := sc' _ _ hbx
        have hcl := sc' _ _ hbl
        have npx : p ≠ x := fun z => by rw [z, hcx] at hp; cases hp
        refine ⟨_, rfl, x, C, dx, _, rfl, hcx, T.cl, T.nW, by show 1 < 1000; decide, ?_⟩
        refine ⟨_, rfl, x, C, dx, _, .ref l, rfl, upd_same, T.cl, T.nL, by rw [lookup_putF, if_neg n1, lookup_putF]; exact if_pos rfl, l, _, rfl, .inr (SqT.of (by rw [upd_ne (fun z => nxl z.symm)]; exact hcl)), ?_⟩
        refine ⟨_, rfl, x, C, dx, _, rfl, upd_same, T.cl, T.nS, (by have := a1 (.ref p) (.ref l); omega), ?_⟩
        refine ⟨_, rfl, _, rfl, x, C, dx, _, rfl, upd_same, T.cl, T.nG, (by have := a1 (.ref p) (.ref l); have := putF_len "size" (.int ((Is (Hf.lens ws)).length : Nat)) (putF "words" (.ref p) (putF "lengths" (.ref l) [])); omega), ?_⟩
        refine k _ ((((butb.trans (But.of sc')).trans But.upd).trans But.upd).trans But.upd) ?_
        refine ⟨dx, p, _, upd_same, ?_, ?_, by rw [upd_ne npx, upd_ne npx, upd_ne npx]; exact hp⟩
        · rw [lookup_putF, if_neg n4, lookup_putF, if_neg n2, lookup_putF]
          exact if_pos rfl
        · rw [lookup_putF, if_neg n5, lookup_putF, if_pos rfl, el]
end
end Wv
set_option Elab.async false
set_option linter.all false
set_option maxRecDepth 100000
set_option maxHeartbeats 2000000
namespace Wv
open PySem PySem.Spec PyProof.Rows L2 TL
/-! ### slices -/
theorem cut_to (xs : List V) (r : Nat) : cutV xs none (some (r : Int)) = xs.take r := by
  unfold cutV
  rw [HT.sIx_none, HT.sIx_nat, List.drop_zero, Nat.sub_zero, ← List.take_eq_take_min]
theorem cut_from (xs : List V) (r : Nat) : cutV xs (some (r : Int)) none = xs.drop r := by
  unfold cutV
  rw [HT.sIx_none, HT.sIx_nat]
  by_cases h : r ≤ xs.length
  · rw [Nat.min_eq_left h]
    exact List.take_of_length_le (by rw [List.length_drop]; exact Nat.le_refl _)
  · rw [Nat.min_eq_right (by omega), Nat.sub_self, List.take_zero, List.drop_eq_nil_of_le (by omega)]
/-! ### the making of a code -/
section
variable {P : Program} {w : World} {K : PySem.W.Frag} {mg : Str → Option Value} {base : Heap} {R : EA} {C : Addr}
structure CdOk (P : Program) (w : World) (K : PySem.W.Frag) (mg : Str → Option Value) (base : Heap) (C : Addr) : Prop where
  ex : ∃ (f : Addr) (fd : FuncData), Mk K C f ∧ FnOk P w K mg base CX0 4 f fd ["self", "lengths", "words"] (spInit C) ∧ Binds K fd ["self", "lengths", "words"] []
  mg : mg "Code" = some (.ref C)
theorem cdOk {f : Addr} {fd : FuncData} (M : Mk K C f) (F : CodeFD K f fd) (T : CTxt K mg C) (O : FnOk P w K mg base CX0 4 f fd ["self", "lengths", "words"] (spInit C)) : CdOk P w K mg base C := by
  obtain ⟨ds, r, b⟩ := F.binds1 (ps := ["self", "lengths", "words"]) 3 1 (by simp) rfl fun T kV doc pm an cdv ct us its hl hi => match us, its, hl, hi with | [_, _, _], [_], _, _ => ⟨_, rfl, rfl⟩
  cases r
  exact ⟨⟨f, fd, M, O, b⟩, T.mgC⟩
theorem pe_cd {X : Cx} {C : Addr} {E : XK} {e : Expr} {es : List Expr} {t : TA} {p pos : Pos} (D : CdOk X.prog X.w X.K X.mg X.base C) (hr : Room 5 X.A) (ha : PA X (e :: es) t) (hg : Gl X "Code" := by rfl)
    (he : starEach (e :: es) X.env = (false, eval e X.env) :: starEach es X.env := by rfl) (hpl : (backTo pos (starEach es X.env)).any (·.1) = false := by rfl) :
    PE X (.Call (.Name "Code" p) (e :: es) [] pos) (tMake C (spInit C) [] E t) := by
  obtain ⟨f, fd, M, O, b⟩ := D.ex
  exact pe_make M O hr hg D.mg b .nil pass0 ha (by decide) he hpl
/-- Code(lengths, words) at a full code -/
theorem mk_cd {H : Hp} {ll wl : Addr} {ws : List Hf.Wd} {E : XK} {Q : VK} (hl : H ll = some (.lst (Is (Hf.lens ws)))) (hw : H wl = some (.lst (Ws ws))) (hF : Hf.Full ws) (h60 : ws.length < 60) (k : ∀ H' c, Same H H' → CodeAt C H' c ws → Q (.ref c) H') :
    ∀ x dx, H x = none → H dx = none → dx ≠ x → spInit C (.ref x :: ([.ref ll, .ref wl] ++ [])) (upd (upd H dx (.own x)) x (.ins C dx [])) (fun v H2 => v = .non ∧ Q (.ref x) H2) E := by
  intro x dx hx hd hn
  have s1 : Same H (upd (upd H dx (.own x)) x (.ins C dx [])) := ((Same.refl H).set hd).set hx
  refine ⟨x, ll, wl, dx, ws, rfl, upd_same, s1 _ _ hl, s1 _ _ hw, hF, h60, fun H' b hc => ⟨rfl, k H' x (fun a o h => ?_) hc⟩⟩
  exact b a o (ne_of_none h hx) (s1 a o h)
/-! ### code_of -/
def spCodeOf (C : Addr) : Sp := fun vs H Q _ => ∃ (wl : Addr) (ws : List Hf.Wd), vs = [.ref wl] ∧ H wl = some (.lst (Ws ws)) ∧ Hf.Full ws ∧ ws.length < 60 ∧ ∀ (H' : Hp) (c : Addr), Same H H' → CodeAt C H' c ws → Q (.ref c) H'
theorem scCodeOf : FnScope ["words", "word"] ["words"] (defScope sCodeOf) := ⟨rfl, rfl, rfl, by decide +kernel, rfl, by decide +kernel, by decide +kernel⟩
theorem kCodeOf (A : At K mg "code_of" sCodeOf) (B : Bi mg) (D : CdOk P w K mg base C) : Kn P w K mg base CX0 6 "code_of" ["words"] (spCodeOf C) := by
  have sc := scCodeOf
  refine A.kn (fun f fd F => F.ok scCodeOf (fun vs H Q E h => ?_) (fun cdv A outer s H vs Q E hr h => ?_)) (fun _ _ _ _ _ _ us hl => match us, hl with | [_], _ => rfl)
  · obtain ⟨wl, ws, rfl, _⟩ := h
    rfl
  · obtain ⟨wl, ws, rfl, hw, hF, h60, k⟩ := h
    refine ⟨_, (pss_one (ps_ret (pe_cd (E := E0) D hr (pa_cons (pe_lc (own := [("word", 1)]) rfl sc.nd (pi_list (pv 0)) (blkOk_by (own := [("word", 1)]) (N := ["words", "word"]) (sc := defScope sCodeOf) (by decide +kernel)) (fun _ _ _ _ _ => (pg_name (i := 1) sc.nd rfl (Or.inl rfl))) (fun _ _ _ _ _ => pts_nil) (fun _ _ _ _ _ => (pe_callB call_len_str (by rfl) B.len PySem.boot_len (pa_cons (pv 1) pa_nil)))) (pa_cons (pv 0) pa_nil))))), ?_⟩
    refine ⟨_, rfl, wl, rfl, ⟨_, SqL.of hw⟩, fun D hD => ?_⟩
    refine lc_lens (Nat.lt_succ_self 1) (SqL.of hw) (by omega) (fun x hx => by have := hF.short hx; omega) hD fun H1 s1 h1 => ⟨_, rfl, ?_⟩
    exact mk_cd h1 (s1 _ _ hw) hF h60 fun H' c s2 hc => k H' c (s1.trans s2) hc
/-! ### parted_sign: the first of the least counts -/
def MinAt (ns : List Int) (i : Nat) : Prop := ∃ m, ns[i]? = some m ∧ (∀ y ∈ ns, m ≤ y) ∧ ∀ j, j < i → ns[j]? ≠ some m
theorem minAt_one {ns : List Int} {i j : Nat} (a : MinAt ns i) (b : MinAt ns j) : i = j := by
  obtain ⟨m, h1, h2, h3⟩ := a
  obtain ⟨n, g1, g2, g3⟩ := b
  have e : m = n := Int.le_antisymm (h2 _ (List.mem_of_getElem? g1)) (g2 _ (List.mem_of_getElem? h1))
  subst e
  rcases Nat.lt_trichotomy i j with q | q | q
  · exact absurd h1 (g3 _ q)
  · exact q
  · exact absurd g1 (h3 _ q)
theorem first_at {ns : List Int} {m : Int} (h : m ∈ ns) : ∃ i : Nat, ns[i]? = some m ∧ ∀ j, j < i → ns[j]? ≠ some m := by
  induction ns with
  | nil => cases h
  | cons n r ih =>
    by_cases e : n = m
    · exact ⟨0, by rw [e]; rfl, fun j hj => absurd hj (Nat.not_lt_zero j)⟩
    · rcases List.mem_cons.mp h with q | q
      · exact absurd q.symm e
      · obtain ⟨i, h1, h2⟩ := ih q
        refine ⟨i + 1, h1, fun j hj => ?_⟩
        cases j with
        | zero => exact fun z => e (Option.some.inj z)
        | succ j => exact h2 j (by omega)
theorem is_flat (ns : List Int) : (Is ns).all flatV = true := by
  rw [List.all_eq_true]
  intro v hv
  obtain ⟨n, _, rfl⟩ := List.mem_map.mp hv
  rfl
/-- xs.index(m) of ints -/
theorem index_at {K : PySem.W.Frag} {H : Hp} {a : Addr} {ns : List Int} {m : Int} {Q : VK} (hs : SqL K H a (Is ns)) (hm : m ∈ ns) (hle : ∀ y ∈ ns, m ≤ y) (k : ∀ i, MinAt ns i → Q (.int (i : Nat)) H) : rIndex K (.ref a) [.int m] H Q := by
  obtain ⟨i, h1, h2⟩ := first_at hm
  refine ⟨a, Is ns, .int m, i, .int m, rfl, rfl, hs, rfl, is_flat ns, is_get h1, by show (m == m) = true; exact beq_self_eq_true m, fun j z hj hz => ?_, k i ⟨m, h1, hle, h2⟩⟩
  obtain ⟨n, hn, rfl⟩ := is_at hz
  show (n == m) = false
  exact beq_false_of_ne fun e => h2 j hj (by rw [hn, e])
def spPartedSign (K : PySem.W.Frag) : Sp := fun vs H Q _ => ∃ (a : Addr) (ns : List Int), vs = [.ref a] ∧ SqL K H a (Is ns) ∧ 0 < ns.length ∧ ∀ (H' : Hp) (i : Nat), Same H H' → MinAt ns i → Q (.int (i : Nat)) H'
theorem scPartedSign : FnScope ["counts"] ["counts"] (defScope sPartedSign) := ⟨rfl, rfl, rfl, by decide +kernel, rfl, by decide +kernel, by decide +kernel⟩
theorem kPartedSign (A : At K mg "parted_sign" sPartedSign) (B : Bi mg) : Kn P w K mg base CX0 1 "parted_sign" ["counts"] (spPartedSign K) := by
  have sc := scPartedSign
  refine A.kn (fun f fd F => F.ok scPartedSign (fun vs H Q E h => ?_) (fun cdv A outer s H vs Q E hr h => ?_)) (fun _ _ _ _ _ _ us hl => match us, hl with | [_], _ => rfl)
  · obtain ⟨a, ns, rfl, _⟩ := h
    rfl
  · obtain ⟨a, ns, rfl, hs, h0, k⟩ := h
    refine ⟨_, (pss_one (ps_ret (pe_bm PySem.F.plainAttrs_list PySem.F.slot_list_index PySem.F.type_list_index mt_index (pe_callTy call_list_of (by rfl) B.list (by decide +kernel) (pa_cons (pv 0) pa_nil)) (pa_cons (pe_callB (cr_min rfl) (by rfl) B.min (by decide +kernel) (pa_cons (pv 0) pa_nil)) pa_nil)))), ?_⟩
    refine ⟨_, rfl, a, _, rfl, .inl hs, fun l hl => ?_⟩
    have s1 : Same H (upd H l (.lst (Is ns))) := same_upd hl
    refine ⟨.inl ⟨rfl, _, SqL.of upd_same⟩, _, rfl, a, ns, rfl, s1.seq hs, h0, fun m hm hle => ?_⟩
    exact index_at (SqL.of upd_same) hm hle fun i hi => k _ i s1 hi
/-! ### parted_code -/
def spPartedCode (C : Addr) : Sp := fun vs H Q _ => ∃ (c : Addr) (s r : Nat) (ws : List Hf.Wd) (wd : Hf.Wd), vs = [.ref c, .int (s : Nat), .int (r : Nat)] ∧ CodeAt C H c ws ∧ Hf.Full ws ∧ ws.length + 1 < 60 ∧ ws[s]? = some wd ∧ r ≤ ws.length ∧
  ∀ (H' : Hp) (c' : Addr), Same H H' → CodeAt C H' c' (Hf.putW ws s wd r) → Q (.ref c') H'
theorem putW_len (ws : List Hf.Wd) (s : Nat) (wd : Hf.Wd) (r : Nat) : (Hf.putW ws s wd r).length = ws.length + 1 := by
  have := (Hf.ins_perm r (wd ++ [49]) (ws.set s (wd ++ [48]))).length_eq
  rw [List.length_cons, List.length_set] at this
  exact this
theorem ws_set (ws : List Hf.Wd) (s : Nat) (x : Hf.Wd) : (Ws ws).set s (.str (sw x)) = Ws (ws.set s x) := (List.map_set ..).symm
theorem ws_take (ws : List Hf.Wd) (r : Nat) : (Ws ws).take r = Ws (ws.take r) := (List.map_take ..).symm
theorem ws_drop (ws : List Hf.Wd) (r : Nat) : (Ws ws).drop r = Ws (ws.drop r) := (List.map_drop ..).symm
theorem ws_ins (r : Nat) (x : Hf.Wd) (l : List Hf.Wd) : Ws (Hf.ins r x l) = (Ws (l.take r) ++ [V.str (sw x)]) ++ Ws (l.drop r) := by
  simp only [Ws, Hf.ins, List.map_append, List.map_cons, List.map_nil]
theorem ixN_nat {n j : Nat} (h : j < n) : ixN n (j : Int) = some j := by
  unfold ixN
  rw [if_pos (by omega), if_pos (by omega)]
  simp
theorem scPartedCode : FnScope ["code", "sign", "rank", "words", "word"] ["code", "sign", "rank"] (defScope sPartedCode) := ⟨rfl, rfl, rfl, by decide +kernel, rfl, by decide +kernel, by decide +kernel⟩
theorem kPartedCode (A : At K mg "parted_code" sPartedCode) (B : Bi mg) (T : CTxt K mg C) (D : Kn P w K mg base CX0 6 "code_of" ["words"] (spCodeOf C)) : Kn P w K mg base CX0 7 "parted_code" ["code", "sign", "rank"] (spPartedCode C) := by
  have sc := scPartedCode
  refine A.kn (fun f fd F => F.ok scPartedCode (fun vs H Q E h => ?_) (fun cdv A outer s H vs Q E hr h => ?_)) (fun _ _ _ _ _ _ us hl => match us, hl with | [_, _, _], _ => rfl)
  · obtain ⟨c, s, r, ws, wd, rfl, _⟩ := h
    rfl
  · obtain ⟨c, i, r, ws, wd, rfl, hC, hF, h60, hwd, hr', k⟩ := h
    refine ⟨_, (pss_cons (ps_set (i := 3) sc.nd rfl (Or.inl rfl) (pe_callTy call_list_of (by rfl) B.list (by decide +kernel) (pa_cons (pe_fld (pv 0) rfl) pa_nil))) (pss_cons (ps_set (i := 4) sc.nd rfl (Or.inl rfl) (pe_ix ix_list (pv 3) (pv 1) (fun _ _ => rfl))) (pss_cons (ps_asg (pe_op op_add_str (pv 4) pe_str) (pg_sub (pv 3) (pv 1) set_list)) (pss_one (ps_ret (pe_kn D hr pass0 (pa_cons (pe_op op_cat (pe_op op_cat (pe_slice sl_list (pv 3) po_none (po_some (pv 2))) (pe_lst (pa_cons (pe_op op_add_str (pv 4) pe_str) pa_nil))) (pe_slice sl_list (pv 3) (po_some (pv 2)) po_none)) pa_nil))))))), ?_⟩
    obtain ⟨dx, wt, fs, e1, e2, e3, e4⟩ := hC
    have hsh := hF.short (List.mem_of_getElem? hwd)
    have hi := lt_of_get hwd
    refine ⟨_, rfl, c, C, dx, fs, _, rfl, e1, T.cl, T.nW, e2, wt, _, rfl, .inr (SqT.of e4), fun l hl => ?_⟩
    refine ⟨_, rfl, _, rfl, l, _, _, _, rfl, rfl, SqL.of upd_same, atI_nat (ws_get hwd), ?_⟩
    refine ⟨_, rfl, _, _, rfl, rfl, by rw [sw_len]; exact line_of (by show wd.length + 1 ≤ 1000; omega), ?_⟩
    refine ⟨_, rfl, _, rfl, l, _, _, i, rfl, rfl, upd_same, ixN_nat (by rw [ws_len]; exact hi), ?_⟩
    rw [sw0, sw_app, ws_set, upd_upd]
    have s1 : Same H (upd H l (.lst (Ws (ws.set i (wd ++ [48]))))) := same_upd hl
    refine ⟨_, rfl, _, rfl, _, rfl, l, _, rfl, SqL.of upd_same, fun p hp => ?_⟩
    rw [cut_to, ws_take]
    have hll := @upd_same H l (.lst (Ws (ws.set i (wd ++ [48]))))
    generalize upd H l (.lst (Ws (ws.set i (wd ++ [48])))) = H1 at s1 hll hp
    have s2 : Same H (upd H1 p (.lst (Ws ((ws.set i (wd ++ [48])).take r)))) := s1.to hp
    have l2 := ne_of_none hll hp
    refine ⟨_, rfl, _, _, rfl, rfl, by rw [sw_len]; exact line_of (by show wd.length + 1 ≤ 1000; omega), by show 1 ≤ sizeLine; decide, fun q hq => ?_⟩
    rw [sw1, sw_app]
    have s3 := s2.to (o := .lst (Ws [wd ++ [49]])) hq
    have l3 : (upd (upd H1 p (.lst (Ws ((ws.set i (wd ++ [48])).take r)))) q (.lst (Ws [wd ++ [49]]))) l = some (.lst (Ws (ws.set i (wd ++ [48])))) := (same_upd hq) _ _ ((same_upd hp) _ _ hll)
    refine ⟨p, q, _, _, rfl, rfl, (same_upd hq) _ _ upd_same, upd_same, ?_, fun p2 hp2 => ?_⟩
    · rw [ws_len]
      exact line_of (by show ((ws.set i (wd ++ [48])).take r).length + 1 ≤ 1000; rw [List.length_take, List.length_set]; omega)
    have s4 := s3.to (o := .lst (Ws ((ws.set i (wd ++ [48])).take r) ++ Ws [wd ++ [49]])) hp2
    have l4 := (same_upd (o := .lst (Ws ((ws.set i (wd ++ [48])).take r) ++ Ws [wd ++ [49]])) hp2) _ _ l3
    refine ⟨_, rfl, _, rfl, _, rfl, l, _, rfl, SqL.of l4, fun p3 hp3 => ?_⟩
    rw [cut_from, ws_drop]
    refine ⟨p2, p3, _, _, rfl, rfl, (same_upd hp3) _ _ upd_same, upd_same, ?_, fun p4 hp4 => ?_⟩
    · rw [List.length_append, ws_len, ws_len]
      exact line_of (by show ((ws.set i (wd ++ [48])).take r).length + 1 + ((ws.set i (wd ++ [48])).drop r).length ≤ 1000; rw [List.length_take, List.length_drop, List.length_set]; omega)
    refine ⟨p4, Hf.putW ws i wd r, rfl, ?_, hF.put hwd, by rw [putW_len]; exact h60, fun H' c' s5 hc => k H' c' ((((s4.to hp3).to hp4)).trans s5) hc⟩
    rw [upd_same]
    exact congrArg (fun z => some (HO.lst z)) (ws_ins r (wd ++ [49]) (ws.set i (wd ++ [48]))).symm
/-! ### put_sign -/
def spPutSign (R : EA) (C : Addr) : Sp := fun vs H Q E => ∃ (c a : Addr) (v : V) (ws : List Hf.Wd) (ns : List Int), vs = [.ref c, .ref a, v] ∧ CodeAt C H c ws ∧ H a = some (.lst (Is ns)) ∧ Okv H v ∧ Hf.Full ws ∧ ws.length + 1 < 60 ∧ 2 ≤ ns.length ∧ ns.length ≤ 1000 ∧ (∀ x ∈ ns, 0 ≤ x) ∧
  (ns.length ≠ ws.length → Thr E R.os [("many", .int (ns.length : Nat)), ("wanted", .int (ws.length : Nat))] H) ∧
  (ns.length = ws.length → isRank ws.length v = false → Thr E R.br [("rank", v)] H) ∧
  (ns.length = ws.length → ∀ (r s : Nat) (wd : Hf.Wd) (H' : Hp) (c' : Addr), v = .int (r : Nat) → r ≤ ws.length → MinAt ns s → ws[s]? = some wd → Same H H' → CodeAt C H' c' (Hf.putW ws s wd r) → Q (.ref c') H')
theorem Okv.up {H H' : Hp} {v : V} (o : Okv H v) (s : Same H H') : Okv H' v := by
  cases v with
  | ref a =>
    obtain ⟨xs, h⟩ := o
    exact ⟨xs, s _ _ h⟩
  | byt _ => exact o.elim
  | flt _ => exact o.elim
  | ty _ => exact o.elim
  | _ => exact True.intro
theorem isRank_int {n : Nat} {v : V} (h : isRank n v = true) : ∃ r : Nat, v = .int (r : Nat) ∧ r ≤ n := by
  cases v with
  | int i =>
    have := of_decide_eq_true h
    exact ⟨i.toNat, by rw [Int.toNat_of_nonneg this.1], by omega⟩
  | _ => cases h
theorem scPutSign : FnScope ["code", "counts", "rank"] ["code", "counts", "rank"] (defScope sPutSign) := ⟨rfl, rfl, rfl, by decide +kernel, rfl, by decide +kernel, by decide +kernel⟩
theorem kPutSign (A : At K mg "put_sign" sPutSign) (B : Bi mg) (T : CTxt K mg C) (D1 : Kn P w K mg base (L2.CX P w) 5 "check_pair" ["code", "counts"] (spCheckPair K R C)) (D2 : Kn P w K mg base (L2.CX P w) 3 "check_rank" ["code", "rank"] (spCheckRank R C))
    (D3 : Kn P w K mg base (L2.CX P w) 3 "check_signs" ["many"] (spCheckSigns R)) (D4 : Kn P w K mg base CX0 7 "parted_code" ["code", "sign", "rank"] (spPartedCode C)) (D5 : Kn P w K mg base CX0 1 "parted_sign" ["counts"] (spPartedSign K)) :
    Kn P w K mg base (L2.CX P w) 8 "put_sign" ["code", "counts", "rank"] (spPutSign R C) := by
  have sc := scPutSign
  refine A.kn (fun f fd F => F.okX scPutSign (fun vs H Q E h => ?_) (fun cdv A outer s H vs Q E hr h => ?_)) (fun _ _ _ _ _ _ us hl => match us, hl with | [_, _, _], _ => rfl)
  · obtain ⟨c, a, v, ws, ns, rfl, _⟩ := h
    rfl
  · obtain ⟨c, a, v, ws, ns, rfl, hC, hS, ok, hF, h60, h2, h3, h0, k1, k2, k3⟩ := h
    refine ⟨_, (pss_cons (ps_expr (pe_kn (E := E) D1 (hr.mono (by decide)) (passes_call (takes_of rfl rfl rfl rfl) (fun _ _ _ _ h => h)) (pa_cons (pv 0) (pa_cons (pv 1) pa_nil)))) (pss_cons (ps_expr (pe_kn (E := E) D2 (hr.mono (by decide)) (passes_call (takes_of rfl rfl rfl rfl) (fun _ _ _ _ h => h)) (pa_cons (pv 0) (pa_cons (pv 2) pa_nil)))) (pss_cons (ps_expr (pe_kn (E := E) D3 (hr.mono (by decide)) (passes_call (takes_of rfl rfl rfl rfl) (fun _ _ _ _ h => h)) (pa_cons (pe_op op_add (pe_fld (pv 0) rfl) pe_int) pa_nil))) (pss_one (ps_ret (pe_kn (E := E0) D4 hr pass0 (pa_cons (pv 0) (pa_cons (pe_kn (E := E0) D5 (hr.mono (by decide)) pass0 (pa_cons (pv 1) pa_nil)) (pa_cons (pv 2) pa_nil))))))))), ?_⟩
    refine ⟨_, rfl, _, rfl, c, a, ws, ns, rfl, hC, SqL.of hS, h2, h3, h0, fun hl H1 s1 => ?_, k1⟩
    refine ⟨_, rfl, _, rfl, c, v, ws, rfl, hC.up s1, ok.up s1, fun hv => ?_, fun hv => (k2 hl hv).up s1⟩
    obtain ⟨r, rfl, hr'⟩ := isRank_int hv
    obtain ⟨dx, wt, fs, e1, e2, e3, e4⟩ := hC.up s1
    refine ⟨_, rfl, c, C, dx, fs, _, rfl, e1, T.cl, T.nS, e3, _, _, rfl, rfl, _, rfl, fun _ => ?_, fun q => absurd ⟨by omega, by omega⟩ q⟩
    refine ⟨_, rfl, _, rfl, a, ns, rfl, SqL.of (s1 _ _ hS), by omega, fun H2 i s2 hi => ?_⟩
    have hil : i < ws.length := by
      obtain ⟨m, hm, _⟩ := hi
      rw [← hl]
      exact lt_of_get hm
    obtain ⟨wd, hwd⟩ := get_of_lt hil
    exact ⟨_, rfl, c, i, r, ws, wd, rfl, hC.up (s1.trans s2), hF, h60, hwd, hr', fun H' c' s3 hc => k3 hl r i wd H' c' rfl hr' hi hwd ((s1.trans s2).trans s3) hc⟩
end
end Wv
set_option Elab.async false
set_option linter.all false
set_option maxRecDepth 100000
set_option maxHeartbeats 2000000
namespace Wv
open PySem PySem.Spec PyProof.Rows L2 TL
theorem cps_sw (x : Hf.Wd) : (sw x).cps.toList = x := rfl
theorem cutS_init (a : Hf.Wd) (b : Nat) : cutS (sw (a ++ [b])) none (some (-1)) = sw a := by
  have e : HT.sIx (sw (a ++ [b])).length (sw (a ++ [b])).length (some (-1)) = a.length := by
    show (if (-1 : Int) < 0 then ((-1 : Int) + ((sw (a ++ [b])).length : Int)).toNat else min (-1 : Int).toNat (sw (a ++ [b])).length) = _
    rw [if_pos (by decide), sw_len, List.length_append]
    simp only [List.length_cons, List.length_nil]
    omega
  unfold cutS
  rw [HT.sIx_none, e, cps_sw, List.drop_zero, Nat.sub_zero, List.take_left']
  · rfl
  · rfl
theorem cutS_from (x : Hf.Wd) (k : Nat) : cutS (sw x) (some (k : Int)) none = sw (x.drop k) := by
  unfold cutS
  rw [HT.sIx_none, HT.sIx_nat, cps_sw, sw_len]
  refine congrArg (fun z : List Nat => (⟨z.toArray⟩ : Str)) ?_
  by_cases h : k ≤ x.length
  · rw [Nat.min_eq_left h]
    exact List.take_of_length_le (by rw [List.length_drop]; exact Nat.le_refl _)
  · rw [Nat.min_eq_right (by omega), Nat.sub_self, List.take_zero, List.drop_eq_nil_of_le (by omega)]
theorem cutS_to (x : Hf.Wd) (k : Nat) : cutS (sw x) none (some (k : Int)) = sw (x.take k) := by
  unfold cutS
  rw [HT.sIx_none, HT.sIx_nat, cps_sw, sw_len, List.drop_zero, Nat.sub_zero, ← List.take_eq_take_min]
  rfl
theorem snoc_of : ∀ {l : List Nat}, 1 ≤ l.length → ∃ a b, l = a ++ [b]
  | [x], _ => ⟨[], x, rfl⟩
  | x :: y :: r, _ => by
    obtain ⟨a, b, e⟩ := snoc_of (l := y :: r) (Nat.succ_le_succ (Nat.zero_le _))
    exact ⟨x :: a, b, by rw [e]; rfl⟩
/-- '0' if last == '1' else '1' -/
theorem if_flip {σ : L2.St} {H : Hp} {Q : VK} {b : Nat} (h3 : σ[3]? = some (some (.str (sw [b])))) (hb : b = 48 ∨ b = 49) (k : Q (.str (sw [Hf.flip b])) H) : tIf (tTest (tOp rEq (tVar 3) (tC (.str "1")))) (tC (.str "0")) (tC (.str "1")) σ H Q := by
  refine ⟨_, h3, rfl, _, rfl, ?_⟩
  rcases hb with e | e
  · subst e
    rw [show decide (V.str (sw [48]) = V.str "1") = false by decide +kernel]
    refine iteF ?_
    rw [show Hf.flip 48 = 49 from rfl, ← sw1] at k
    exact k
  · subst e
    rw [show decide (V.str (sw [49]) = V.str "1") = true by decide +kernel]
    refine iteT ?_
    rw [show Hf.flip 49 = 48 from rfl, ← sw0] at k
    exact k
theorem erase_snoc {α : Type} {l : List α} {i j : Nat} {x : α} (h : l[j]? = some x) : (l.take (j + 1)).eraseIdx i = if j = i then (l.take j).eraseIdx i else (l.take j).eraseIdx i ++ [x] := by
  have hj := lt_of_get h
  have hl : (l.take j).length = j := by rw [List.length_take]; omega
  rw [take_snoc h]
  by_cases e : j = i
  · rw [if_pos e, List.eraseIdx_append_of_length_le (by omega), hl, e, Nat.sub_self]
    rw [e] at hl
    rw [List.eraseIdx_of_length_le (l := l.take i) (by omega)]
    exact List.append_nil _
  · rw [if_neg e]
    by_cases q : i < j
    · rw [List.eraseIdx_append_of_lt_length (by omega)]
    · rw [List.eraseIdx_of_length_le (by rw [List.length_append, hl]; show j + 1 ≤ i; omega), List.eraseIdx_of_length_le (by omega)]
section
variable {P : Program} {w : World} {K : PySem.W.Frag} {mg : Str → Option Value} {base : Heap} {R : EA} {C : Addr}
def spStrike (R : EA) (C : Addr) : Sp := fun vs H Q E => ∃ (c : Addr) (v : V) (ws : List Hf.Wd), vs = [.ref c, v] ∧ CodeAt C H c ws ∧ Okv H v ∧ Hf.Full ws ∧ ws.length < 60 ∧ (isSgn ws.length v = false → Thr E R.bs [("index", v)] H) ∧
  (isSgn ws.length v = true → ws.length = 2 → Thr E R.tm [("what", .str "signs"), ("many", .int 1), ("most", .int 2000)] H) ∧
  (3 ≤ ws.length → ∀ (i b : Nat) (a : Hf.Wd) (H' : Hp) (c' : Addr), v = .int (i : Nat) → ws[i]? = some (a ++ [b]) → Same H H' → CodeAt C H' c' ((ws.eraseIdx i).map (Hf.mv a b)) → Q (.ref c') H')
theorem isSgn_int {n : Nat} {v : V} (h : isSgn n v = true) : ∃ r : Nat, v = .int (r : Nat) ∧ r < n := by
  cases v with
  | int i =>
    have := of_decide_eq_true h
    exact ⟨i.toNat, by rw [Int.toNat_of_nonneg this.1], by omega⟩
  | _ => cases h
theorem scStrike : FnScope ["code", "sign", "above", "last", "beside", "words", "other", "word"] ["code", "sign"] (defScope sStrikeSign) := ⟨rfl, rfl, rfl, by decide +kernel, rfl, by decide +kernel, by decide +kernel⟩
theorem kStrike (A : At K mg "strike_sign" sStrikeSign) (B : Bi mg) (EE : Errs P K mg R) (T : CTxt K mg C) (D1 : Kn P w K mg base CX0 2 "is_sign_of" ["code", "value"] (spIsSignOf C)) (D3 : Kn P w K mg base (L2.CX P w) 3 "check_signs" ["many"] (spCheckSigns R))
    (D4 : Kn P w K mg base CX0 6 "code_of" ["words"] (spCodeOf C)) : Kn P w K mg base (L2.CX P w) 7 "strike_sign" ["code", "sign"] (spStrike R C) := by
  have sc := scStrike
  obtain ⟨fI, TE⟩ := EE.bs
  refine A.kn (fun f fd F => F.okX scStrike (fun vs H Q E h => ?_) (fun cdv A outer s H vs Q E hr h => ?_)) (fun _ _ _ _ _ _ us hl => match us, hl with | [_, _], _ => rfl)
  · obtain ⟨c, v, ws, rfl, _⟩ := h
    rfl
  · obtain ⟨c, v, ws, rfl, hC, ok, hF, h60, k1, k2, k3⟩ := h
    refine ⟨_, (pss_cons (ps_if (pt_not (pt_val (pe_kn (E := E0) D1 (hr.mono (show 2 ≤ 6 by decide)) pass0 (pa_cons (pv 0) (pa_cons (pv 1) pa_nil))))) (pss_one (ps_rsE rfl TE (PySem.WvE.init_BadSign TE) (by decide) hr (takes_of rfl rfl rfl rfl) (pa_cons (pv 1) pa_nil) (by rfl))) pss_nil) (pss_cons (ps_expr (pe_kn (E := E) D3 (hr.mono (by decide)) (passes_call (takes_of rfl rfl rfl rfl) (fun _ _ _ _ h => h)) (pa_cons (pe_op op_sub (pe_fld (pv 0) rfl) pe_int) pa_nil))) (PSs.nox (pss_cons (ps_par (i := 2) (j := 3) rfl sc.nd rfl rfl (by decide) rfl rfl (pa_cons (pe_slice sl_str (pe_ix ix_tup (pe_fld (pv 0) rfl) (pv 1) (fun _ _ => rfl)) po_none (po_some (pe_un un_neg pe_int))) (pa_cons (pe_ix ix_str (pe_ix ix_tup (pe_fld (pv 0) rfl) (pv 1) (fun _ _ => rfl)) (pe_un un_neg pe_int) (fun _ _ => rfl)) pa_nil)) (by rfl)) (pss_cons (ps_par (i := 4) (j := 5) rfl sc.nd rfl rfl (by decide) rfl rfl (pa_cons (pe_op op_add_str (pv 2) (pe_ifExp (pt_cmpR op_eq (pv 3) pe_str (nomark _)) pe_str pe_str)) (pa_cons (pe_lst pa_nil) pa_nil)) (by rfl)) (pss_cons (ps_for PassesOwn.never rfl (pi_enumT (by rfl) B.enumerate (pa_cons (pe_fld (pv 0) rfl) pa_nil)) (pg_tup rfl (pgs_cons (pg_name (i := 6) sc.nd rfl (Or.inl rfl)) (pgs_cons (pg_name (i := 7) sc.nd rfl (Or.inl rfl)) pgs_nil))) (pss_one (ps_if (pt_cmpR op_ne (pv 6) (pv 1) (nomark _)) (pss_one (ps_expr (pe_bm PySem.F.plainAttrs_list PySem.F.slot_list_append PySem.F.type_list_append mt_append (pv 5) (pa_cons (pe_ifExp (pt_val (pe_m1 PySem.F.slot_str_startswith PySem.F.type_str_startswith mt_startswith (pv 7) (pv 4))) (pe_op op_add_str (pv 2) (pe_slice sl_str (pv 7) (po_some (pe_callB call_len_str (by rfl) B.len PySem.boot_len (pa_cons (pv 4) pa_nil))) po_none)) (pv 7)) pa_nil)))) pss_nil))) (pss_one (ps_ret (pe_kn (E := E0) D4 hr pass0 (pa_cons (pv 5) pa_nil)))))))))), ?_⟩
    refine ⟨_, rfl, _, rfl, c, v, ws, rfl, hC, ok, _, rfl, ?_⟩
    cases hv : isSgn ws.length v with
    | false => exact iteT ⟨_, rfl, rfl, fun d hd => k1 hv d _ (same_upd hd) upd_same⟩
    | true =>
    refine iteF ?_
    obtain ⟨i, rfl, hi⟩ := isSgn_int hv
    obtain ⟨dx, wt, fs, e1, e2, e3, e4⟩ := hC
    have hn2 : 2 ≤ ws.length := hF.choose_spec.2
    refine ⟨_, rfl, c, C, dx, fs, _, rfl, e1, T.cl, T.nS, e3, _, _, rfl, rfl, _, rfl, fun q => ?_, fun q => ?_⟩
    · obtain ⟨wd, hwd⟩ := get_of_lt hi
      have hm := List.mem_of_getElem? hwd
      obtain ⟨a, b, rfl⟩ : ∃ a b, wd = a ++ [b] := by
        exact snoc_of (hF.long hm)
      have hsh := hF.short hm
      have hb := hF.bits hm b (by simp)
      rw [List.length_append] at hsh
      have hab : (sw (a ++ [b])).length ≤ sizeLine := by rw [sw_len]; exact line_of (by rw [List.length_append]; omega)
      refine ⟨_, rfl, c, C, dx, fs, _, rfl, e1, T.cl, T.nW, e2, _, rfl, wt, _, _, _, rfl, rfl, SqT.of e4, atI_nat (ws_get hwd), _, rfl, _, rfl, _, rfl, hab, ?_⟩
      refine ⟨_, rfl, c, C, dx, fs, _, rfl, e1, T.cl, T.nW, e2, _, rfl, wt, _, _, _, rfl, rfl, SqT.of e4, atI_nat (ws_get hwd), _, rfl, _, _, b, rfl, rfl, hab, atI_last a b, _, _, rfl, ?_⟩
      rw [cutS_init]
      refine ⟨_, rfl, if_flip (b := b) rfl hb ?_⟩
      refine ⟨_, _, rfl, rfl, by rw [sw_len, sw_len]; exact line_of (by show a.length + 1 ≤ 1000; simp at hsh; omega), by show 0 ≤ sizeLine; decide, fun l hl => ⟨_, _, rfl, ?_⟩⟩
      rw [sw_app]
      refine ⟨_, rfl, c, C, dx, fs, _, rfl, (same_upd hl) _ _ e1, T.cl, T.nW, e2, wt, _, rfl, SqT.of ((same_upd hl) _ _ e4), ?_⟩
      have s1 : Same H (upd H l (.lst [])) := same_upd hl
      refine for_it (J := IteT K wt) (n := ws.length) (G := fun H' => SqT K H' wt (Ws ws)) (Y := YPair (fun i => some (.int (i : Nat))) (fun i => (Ws ws)[i]?))
        ⟨fun i H' hi q => ⟨_, _, q, List.getElem?_eq_getElem (by rw [ws_len]; exact hi)⟩, fun H' q => ⟨_, q, by rw [ws_len]; exact Nat.le_refl _⟩, fun i H' v H2 _ q ⟨T, x, h1, h2, h3, h4⟩ => ⟨T, _, x, h1, h2, h3, rfl, h4 _ q⟩⟩
        (fun j σ H' => Same H H' ∧ H' l = some (.lst (Ws (((ws.take j).eraseIdx i).map (Hf.mv a b)))) ∧ ∃ u v, σ = [some (.ref c), some (.int (i : Nat)), some (.str (sw a)), some (.str (sw [b])), some (.str (sw (a ++ [Hf.flip b]))), some (.ref l), u, v])
        ⟨s1, by rw [upd_same, List.take_zero]; rfl, _, _, rfl⟩ (fun j σ H' _ h => seqT h.1 (SqT.of e4)) ?_ ?_
      · rintro j x σ H' H'' hj ⟨sm, hL, u, v, rfl⟩ ⟨T', y, z, rfl, hTn, rfl, hy, hz⟩
        cases hy
        obtain ⟨x, hx, rfl⟩ := ws_at hz
        have s2 : Same H (upd H' T' (.tup [.int (j : Nat), .str (sw x)])) := sm.to hTn
        have hL2 : (upd H' T' (.tup [.int (j : Nat), .str (sw x)])) l = _ := (same_upd hTn) _ _ hL
        have hxs := hF.short (List.mem_of_getElem? hx)
        refine ⟨T', _, rfl, SqT.of upd_same, rfl, _, _, rfl, _, _, rfl, rfl, ?_⟩
        refine ⟨_, rfl, _, rfl, rfl, _, rfl, ?_⟩
        by_cases hji : j = i
        · rw [show (!decide (V.int (j : Nat) = V.int (i : Nat))) = false by rw [decide_eq_true (by rw [hji])]; rfl]
          refine iteF ⟨s2, ?_, _, _, rfl⟩
          rw [erase_snoc hx, if_pos hji]
          exact hL2
        · rw [show (!decide (V.int (j : Nat) = V.int (i : Nat))) = true by rw [decide_eq_false (fun q => by injection q with q; omega)]; rfl]
          refine iteT ⟨_, rfl, .inl ⟨rfl, _, SqL.of hL2⟩, ?_⟩
          refine ⟨_, rfl, ⟨_, rfl⟩, _, rfl, _, _, rfl, rfl, _, rfl, ?_⟩
          rw [sw_starts]
          have hle : (((ws.take j).eraseIdx i).map (Hf.mv a b)).length < sizeLine := by
            rw [List.length_map]
            refine small1000 (Nat.le_trans (List.length_eraseIdx_le _ _) ?_)
            rw [List.length_take]
            omega
          have fin : ∀ y : Hf.Wd, y = Hf.mv a b x → Same H (upd (upd H' T' (.tup [.int (j : Nat), .str (sw x)])) l (.lst (Ws (((ws.take j).eraseIdx i).map (Hf.mv a b)) ++ [.str (sw y)]))) ∧
              (upd (upd H' T' (.tup [.int (j : Nat), .str (sw x)])) l (.lst (Ws (((ws.take j).eraseIdx i).map (Hf.mv a b)) ++ [.str (sw y)]))) l = some (.lst (Ws (((ws.take (j + 1)).eraseIdx i).map (Hf.mv a b)))) := fun y hy => by
            refine ⟨s2.set hl, ?_⟩
            rw [upd_same, erase_snoc hx, if_neg hji, hy, List.map_append]
            refine congrArg (fun z => some (HO.lst z)) ?_
            simp [Ws]
          cases hp : (a ++ [Hf.flip b]).isPrefixOf x with
          | true =>
            refine iteT ⟨_, rfl, _, rfl, _, rfl, _, rfl, by rw [sw_len]; exact line_of (by rw [List.length_append]; simp at hsh ⊢; omega), _, rfl, _, rfl, by rw [sw_len]; exact line_of (by omega), ?_⟩
            rw [sw_len, cutS_from]
            refine ⟨_, _, rfl, rfl, by rw [sw_len, sw_len]; exact line_of (by rw [List.length_drop]; simp at hsh; omega), ?_⟩
            rw [sw_app]
            have f1 := fin (a ++ x.drop (a ++ [Hf.flip b]).length) (by unfold Hf.mv; rw [if_pos hp, List.length_append]; rfl)
            exact ⟨_, _, _, rfl, rfl, hL2, by rw [ws_len]; exact hle, f1.1, f1.2, _, _, rfl⟩
          | false =>
            have f1 := fin x (by unfold Hf.mv; rw [hp]; rfl)
            exact iteF ⟨_, rfl, _, _, _, rfl, rfl, hL2, by rw [ws_len]; exact hle, f1.1, f1.2, _, _, rfl⟩
      · rintro σ H1 ⟨sm, hL, u, v, rfl⟩
        rw [List.take_length] at hL
        refine ⟨_, rfl, l, _, rfl, hL, (hF.strike (Hf.perm_erase hwd) (by omega)).1, by rw [List.length_map, List.length_eraseIdx]; split <;> omega, fun H' c' s3 hc => k3 (by omega) i b a H' c' rfl hwd (sm.trans s3) hc⟩
    · have e : (ws.length : Int) - 1 = 1 := by omega
      have := k2 hv (by omega)
      rw [e]
      exact this
end
end Wv
set_option Elab.async false
set_option linter.all false
set_option maxRecDepth 100000
set_option maxHeartbeats 2000000
namespace Wv
open PySem PySem.Spec PyProof.Rows L2 TL
/-! ### the pen -/
def penK (ca : Addr) (N L : Int) : List (Key × V) := [(.inr "cells", .ref ca), (.inr "next", .int N), (.inr "left", .int L)]
/-- a pen at p that may be drawn from k times more -/
def Pen (p ca : Addr) (k : Nat) (H : Hp) : Prop := ∃ (N : Nat) (L : Int) (cs : List Int), H p = some (.dK (penK ca N L)) ∧ H ca = some (.lst (Is cs)) ∧ N + k ≤ 1000000 ∧ cs.length ≤ 63
theorem Pen.mono {p ca : Addr} {j k : Nat} {H : Hp} (h : Pen p ca k H) (q : j ≤ k) : Pen p ca j H := by
  obtain ⟨N, L, cs, h1, h2, h3, h4⟩ := h
  exact ⟨N, L, cs, h1, h2, by omega, h4⟩
theorem Pen.up {p ca : Addr} {k : Nat} {H H' : Hp} (h : Pen p ca k H) (s : Same H H') : Pen p ca k H' := by
  obtain ⟨N, L, cs, h1, h2, h3, h4⟩ := h
  exact ⟨N, L, cs, s _ _ h1, s _ _ h2, h3, h4⟩
theorem Pen.ne {p ca b : Addr} {k : Nat} {H : Hp} (h : Pen p ca k H) {xs : List V} (e : H b = some (.lst xs)) : b ≠ p := fun z => by
  obtain ⟨N, L, cs, h1, _⟩ := h
  rw [z, h1] at e
  cases e
theorem Pen.at {p ca : Addr} {k : Nat} {H : Hp} (h : Pen p ca k H) : ∃ o, H p = some o := by
  obtain ⟨N, L, cs, h1, _⟩ := h
  exact ⟨_, h1⟩
theorem Pen.ca {p ca : Addr} {k : Nat} {H : Hp} (h : Pen p ca k H) : ∃ o, H ca = some o := by
  obtain ⟨N, L, cs, h1, h2, _⟩ := h
  exact ⟨_, h2⟩
theorem Pen.nof {p ca b : Addr} {k : Nat} {H : Hp} (h : Pen p ca k H) (e : H b = none) : b ≠ p ∧ b ≠ ca := by
  obtain ⟨N, L, cs, h1, h2, _⟩ := h
  exact ⟨fun z => (by rw [z, h1] at e; cases e), fun z => (by rw [z, h2] at e; cases e)⟩
theorem Pen.upd {p ca b : Addr} {k : Nat} {H : Hp} {o : HO} (h : Pen p ca k H) (n : b ≠ p ∧ b ≠ ca) : Pen p ca k (upd H b o) := by
  obtain ⟨N, L, cs, h1, h2, h3, h4⟩ := h
  exact ⟨N, L, cs, by rw [upd_ne n.1.symm]; exact h1, by rw [upd_ne n.2.symm]; exact h2, h3, h4⟩
theorem ks1 : ¬ (("cells" : Str) = "next") := by decide +kernel
theorem ks2 : ¬ (("cells" : Str) = "left") := by decide +kernel
theorem ks3 : ¬ (("next" : Str) = "left") := by decide +kernel
theorem ks4 : ¬ (("left" : Str) = "next") := by decide +kernel
theorem ks5 : ¬ (("left" : Str) = "cells") := by decide +kernel
theorem ks6 : ¬ (("next" : Str) = "cells") := by decide +kernel
theorem kn1 : ¬ ((.inr "cells" : Key) = .inr "next") := by decide +kernel
theorem kn2 : ¬ ((.inr "cells" : Key) = .inr "left") := by decide +kernel
theorem kn3 : ¬ ((.inr "next" : Key) = .inr "left") := by decide +kernel
theorem get_cells {H : Hp} {p ca : Addr} {N L : Int} (h : H p = some (.dK (penK ca N L))) : DGet H p (.str "cells") (some (.ref ca)) := by
  have e : valV (penK ca N L) (.inr "cells") = some (.ref ca) := valV_pos rfl
  rw [← e]
  exact DGet.k (k := .inr "cells") h
theorem get_next {H : Hp} {p ca : Addr} {N L : Int} (h : H p = some (.dK (penK ca N L))) : DGet H p (.str "next") (some (.int N)) := by
  have e : valV (penK ca N L) (.inr "next") = some (.int N) := by
    unfold penK
    rw [valV_neg kn1, valV_pos rfl]
  rw [← e]
  exact DGet.k (k := .inr "next") h
theorem get_left {H : Hp} {p ca : Addr} {N L : Int} (h : H p = some (.dK (penK ca N L))) : DGet H p (.str "left") (some (.int L)) := by
  have e : valV (penK ca N L) (.inr "left") = some (.int L) := by
    unfold penK
    rw [valV_neg kn2, valV_neg kn3, valV_pos rfl]
  rw [← e]
  exact DGet.k (k := .inr "left") h
theorem put_left {H : Hp} {p ca : Addr} {N L M : Int} (h : H p = some (.dK (penK ca N L))) : DPut H p (.str "left") (.int M) (upd H p (.dK (penK ca N M))) := by
  have e : putK (penK ca N L) (.inr "left") (.int M) = penK ca N M := by
    simp [putK, penK, ks2, ks3]
  rw [← e]
  exact DPut.k (k := .inr "left") h (by show 3 < sizeLine; decide)
theorem put_next {H : Hp} {p ca : Addr} {N L M : Int} (h : H p = some (.dK (penK ca N L))) : DPut H p (.str "next") (.int M) (upd H p (.dK (penK ca M L))) := by
  have e : putK (penK ca N L) (.inr "next") (.int M) = penK ca M L := by
    simp [putK, penK, ks1, ks4]
  rw [← e]
  exact DPut.k (k := .inr "next") h (by show 3 < sizeLine; decide)
section
variable {P : Program} {w : World} {K : PySem.W.Frag} {mg : Str → Option Value} {base : Heap} {R : EA} {C : Addr}
def spPenOf (K : PySem.W.Frag) : Sp := fun vs H Q _ => ∃ (a : Addr) (ns : List Int), vs = [.ref a] ∧ SqL K H a (Is ns) ∧ ns.length ≤ 63 ∧ ∀ H' p ca, Same H H' → H p = none → H ca = none → Pen p ca 1000000 H' → Q (.ref p) H'
theorem scPenOf : FnScope ["_law_script"] ["_law_script"] (defScope sLPenOf) := ⟨rfl, rfl, rfl, by decide +kernel, rfl, by decide +kernel, by decide +kernel⟩
theorem kPenOf (A : At K mg "_law_pen_of" sLPenOf) (B : Bi mg) : Kn P w K mg base CX0 1 "_law_pen_of" ["_law_script"] (spPenOf K) := by
  have sc := scPenOf
  refine A.kn (fun f fd F => F.ok scPenOf (fun vs H Q E h => ?_) (fun cdv A outer s H vs Q E hr h => ?_)) (fun _ _ _ _ _ _ us hl => match us, hl with | [_], _ => rfl)
  · obtain ⟨a, ns, rfl, _⟩ := h
    rfl
  · obtain ⟨a, ns, rfl, hs, h63, k⟩ := h
    refine ⟨_, (pss_one (ps_ret (pe_disp (pps_cons pe_str (pe_callTy call_list_of (by rfl) B.list (by decide +kernel) (pa_cons (pe_slice sl_list (pv 0) po_none (po_some pe_int)) pa_nil)) (pps_cons pe_str pe_int (pps_cons pe_str pe_int pps_nil))) rfl rfl (by decide) (by decide)))), ?_⟩
    intro p hp
    have s1 : Same H (upd H p (.dK [])) := same_upd hp
    refine ⟨_, rfl, _, rfl, a, _, rfl, s1.seq hs, fun q hq => ?_⟩
    have s2 := s1.to (o := .lst (cutV (Is ns) none (some 63))) hq
    have p2 : (upd (upd H p (.dK [])) q (.lst (cutV (Is ns) none (some 63)))) p = some (.dK []) := (same_upd hq) _ _ upd_same
    refine ⟨q, _, rfl, .inl (SqL.of upd_same), fun l hl => ⟨(same_upd hl) _ _ p2, [(.inr "cells", .ref l), (.inr "next", .int 0), (.inr "left", .int 0)], rfl, by show 3 ≤ 15; decide, ?_⟩⟩
    have npl : l ≠ p := fun z => by rw [z, p2] at hl; cases hl
    have e : mergeK [] [((.inr "cells" : Key), V.ref l), (.inr "next", .int 0), (.inr "left", .int 0)] = penK l 0 0 := by
      simp [mergeK, putK, penK, ks1, ks2, ks3, ks4, ks5, ks6]
    rw [e]
    refine k _ p l ((s2.to hl).set hp) hp (s2.free hl) ⟨0, 0, ns.take 63, upd_same, ?_, by omega, by rw [List.length_take]; omega⟩
    rw [upd_ne npl, upd_same, show (63 : Int) = ((63 : Nat) : Int) from rfl, cut_to]
    exact congrArg (fun z => some (HO.lst z)) (List.map_take ..).symm
/-! ### draw -/
def spDraw : Sp := fun vs H Q _ => ∃ (p ca : Addr) (m k : Nat), vs = [.ref p, .int (m : Nat)] ∧ 0 < m ∧ m < 1000000 ∧ Pen p ca (k + 1) H ∧ ∀ H' (r : Nat), But p H H' → Pen p ca k H' → r < m → Q (.int (r : Nat)) H'
theorem scDraw : FnScope ["_law_pen", "_law_many", "_law_digit", "_law_index", "_law_size", "_law_cell", "_law_mixed"] ["_law_pen", "_law_many"] (defScope sLDraw) := ⟨rfl, rfl, rfl, by decide +kernel, rfl, by decide +kernel, by decide +kernel⟩
theorem mod_nat {x : Int} {m : Nat} (h : 0 < m) : ∃ r : Nat, r < m ∧ x % (m : Int) = (r : Int) := by
  have h1 := Int.emod_nonneg x (b := (m : Int)) (by omega)
  have h2 := Int.emod_lt_of_pos x (b := (m : Int)) (by omega)
  exact ⟨(x % (m : Int)).toNat, by omega, by omega⟩
theorem kDraw (A : At K mg "_law_draw" sLDraw) (B : Bi mg) : Kn P w K mg base CX0 1 "_law_draw" ["_law_pen", "_law_many"] spDraw := by
  have sc := scDraw
  refine A.kn (fun f fd F => F.ok scDraw (fun vs H Q E h => ?_) (fun cdv A outer s H vs Q E hr h => ?_)) (fun _ _ _ _ _ _ us hl => match us, hl with | [_, _], _ => rfl)
  · obtain ⟨p, ca, m, k, rfl, _⟩ := h
    rfl
  · obtain ⟨p, ca, m, kk, rfl, hm, hm2, hP, k⟩ := h
    have hu : (cxOf CX0 P w K mg base ["_law_pen", "_law_many", "_law_digit", "_law_index", "_law_size", "_law_cell", "_law_mixed"] "_law_draw" (defScope sLDraw) f cdv A outer s H E).nox.A.units + 1 < cLine := by
      have := hr.units
      exact Nat.lt_of_le_of_lt (Nat.add_le_add_left (by decide) _) this
    refine ⟨_, (pss_cons (ps_if (pt_cmpR op_gt (pe_dget hu (pv 0) pe_str (fun _ _ => rfl)) pe_int (nomark _)) (pss_cons (ps_set (i := 2) sc.nd rfl (Or.inl rfl) (pe_op op_mod (pe_callTy call_int1 (by rfl) B.int (by decide +kernel) (pa_cons (pe_dget hu (pv 0) pe_str (fun _ _ => rfl)) pa_nil)) (pv 1))) (pss_cons (ps_dput hu (pv 0) pe_str (pe_op op_fdiv (pe_dget hu (pv 0) pe_str (fun _ _ => rfl)) (pv 1)) rfl) (pss_one (ps_ret (pv 2))))) pss_nil) (pss_cons (ps_par (i := 3) (j := 4) rfl sc.nd rfl rfl (by decide) rfl rfl (pa_cons (pe_dget hu (pv 0) pe_str (fun _ _ => rfl)) (pa_cons (pe_callB call_len_seq (by rfl) B.len PySem.boot_len (pa_cons (pe_dget hu (pv 0) pe_str (fun _ _ => rfl)) pa_nil)) pa_nil)) (by rfl)) (pss_cons (ps_dput hu (pv 0) pe_str (pe_op op_add (pv 3) pe_int) rfl) (pss_cons (ps_if (pt_cmpR op_eq (pv 4) pe_int (nomark _)) (pss_one (ps_ret (pe_op op_mod (pe_callTy call_int1 (by rfl) B.int (by decide +kernel) (pa_cons (pe_op op_add (pe_op op_mul pe_int (pv 3)) pe_int) pa_nil)) (pv 1)))) pss_nil) (pss_cons (ps_set (i := 5) sc.nd rfl (Or.inl rfl) (pe_ix ix_list (pe_dget hu (pv 0) pe_str (fun _ _ => rfl)) (pe_op op_mod (pe_callTy call_int1 (by rfl) B.int (by decide +kernel) (pa_cons (pv 3) pa_nil)) (pv 4)) (fun _ _ => rfl))) (pss_cons (ps_if (PW.pt (pw_and (pt_cmpR op_lt (pv 3) (pv 4) (nomark _)) (pw_and1 (pt_cmpR op_ge (pe_callB call_abs (by rfl) B.abs (by decide +kernel) (pa_cons (pv 5) pa_nil)) (pe_op op_pow pe_int pe_int) (nomark _))))) (pss_cons (ps_dput hu (pv 0) pe_str (pe_op op_fdiv (pe_op op_sub (pe_callB call_abs (by rfl) B.abs (by decide +kernel) (pa_cons (pv 5) pa_nil)) (pe_op op_pow pe_int pe_int)) (pv 1)) rfl) (pss_one (ps_ret (pe_op op_mod (pe_callTy call_int1 (by rfl) B.int (by decide +kernel) (pa_cons (pe_op op_sub (pe_callB call_abs (by rfl) B.abs (by decide +kernel) (pa_cons (pv 5) pa_nil)) (pe_op op_pow pe_int pe_int)) pa_nil)) (pv 1))))) pss_nil) (pss_cons (ps_set (i := 6) sc.nd rfl (Or.inl rfl) (pe_op op_add (pe_op op_mul (pe_op op_mod (pe_callTy call_int1 (by rfl) B.int (by decide +kernel) (pa_cons (pv 5) pa_nil)) pe_int) pe_int) (pe_op op_mul (pe_op op_mul pe_int (pv 3)) (pv 3)))) (pss_cons (ps_set (i := 6) sc.nd rfl (Or.inl rfl) (pe_op op_mod (pe_callTy call_int1 (by rfl) B.int (by decide +kernel) (pa_cons (pe_op op_add (pe_op op_add (pv 6) (pe_op op_mul pe_int (pv 3))) pe_int) pa_nil)) pe_int)) (pss_cons (ps_set (i := 6) sc.nd rfl (Or.inl rfl) (pe_op op_mod (pe_callTy call_int1 (by rfl) B.int (by decide +kernel) (pa_cons (pe_op op_add (pe_op op_add (pe_op op_add (pe_op op_mul (pv 6) (pv 6)) (pe_op op_mul pe_int (pv 6))) (pe_op op_mul pe_int (pv 3))) pe_int) pa_nil)) pe_int)) (pss_one (ps_ret (pe_op op_mod (pe_callTy call_int1 (by rfl) B.int (by decide +kernel) (pa_cons (pe_op op_fdiv (pe_op op_mod (pe_callTy call_int1 (by rfl) B.int (by decide +kernel) (pa_cons (pe_op op_mul (pv 6) (pe_op op_add (pv 6) pe_int)) pa_nil)) pe_int) pe_int) pa_nil)) (pv 1))))))))))))), ?_⟩
    obtain ⟨N, L, cs, h1, h2, h3, h4⟩ := hP
    have ne : ca ≠ p := fun z => by rw [z, h1] at h2; cases h2
    have hm' : (0 : Int) < (m : Int) := by omega
    have fin : ∀ (N' : Nat) (L' : Int), N' + kk ≤ 1000000 → ∀ r : Nat, r < m → Q (.int (r : Nat)) (upd H p (.dK (penK ca N' L'))) := fun N' L' hN r hr => k _ r But.upd ⟨N', L', cs, upd_same, by rw [upd_ne ne]; exact h2, hN, h4⟩ hr
    have fin2 : ∀ (N' : Nat) (L0 L' : Int), N' + kk ≤ 1000000 → ∀ r : Nat, r < m → Q (.int (r : Nat)) (upd (upd H p (.dK (penK ca N' L0))) p (.dK (penK ca N' L'))) := fun N' L0 L' hN r hr => by
      rw [upd_upd]
      exact fin N' L' hN r hr
    refine ⟨_, rfl, p, _, rfl, get_left h1, _, _, rfl, rfl, _, rfl, ?_⟩
    by_cases hL : 0 < L
    · rw [decide_eq_true hL]
      refine iteT ⟨_, rfl, p, _, rfl, get_left h1, .inl ⟨_, rfl, _, rfl, _, _, rfl, rfl, hm', ?_⟩⟩
      refine ⟨_, rfl, p, _, rfl, get_left h1, _, rfl, _, _, rfl, rfl, ⟨hm', by omega⟩, _, rfl, p, _, rfl, put_left h1, _, rfl, ?_⟩
      obtain ⟨r, hr1, e⟩ := mod_nat (x := L) hm
      show Q (.int (L % (m : Int))) _
      rw [e]
      exact fin N _ (by omega) r hr1
    · rw [decide_eq_false hL]
      refine iteF ?_
      have hcl : ∀ M : Int, (upd H p (.dK (penK ca M L))) ca = some (.lst (Is cs)) := fun M => by rw [upd_ne ne]; exact h2
      refine ⟨_, rfl, p, _, rfl, get_next h1, _, rfl, p, _, rfl, get_cells h1, ca, _, rfl, .inl (SqL.of h2), _, _, rfl, ?_⟩
      rw [is_len]
      refine ⟨_, rfl, _, _, rfl, rfl, _, rfl, p, _, rfl, put_next h1, ?_⟩
      have e1 : (N : Int) + 1 = ((N + 1 : Nat) : Int) := by omega
      dsimp only
      rw [e1]
      refine ⟨_, rfl, rfl, _, rfl, ?_⟩
      by_cases hc : cs.length = 0
      · rw [decide_eq_true (show V.int (cs.length : Nat) = V.int 0 by rw [hc]; rfl)]
        refine iteT ⟨_, rfl, _, _, rfl, rfl, .inl ⟨by decide, by decide⟩, _, _, rfl, rfl, .inl ⟨_, rfl, _, rfl, _, _, rfl, rfl, hm', ?_⟩⟩
        obtain ⟨r, hr1, e⟩ := mod_nat (x := 7 * (N : Int) + 3) hm
        show Q (.int ((7 * (N : Int) + 3) % (m : Int))) _
        rw [e]
        exact fin (N + 1) L (by omega) r hr1
      · rw [decide_eq_false (show ¬ V.int (cs.length : Nat) = V.int 0 by intro z; injection z with z; omega)]
        refine iteF ?_
        obtain ⟨j, hj1, ej⟩ := mod_nat (x := (N : Int)) (m := cs.length) (by omega)
        obtain ⟨z, hz⟩ := get_of_lt hj1
        refine ⟨_, rfl, p, _, rfl, get_cells upd_same, _, rfl, .inl ⟨_, rfl, _, rfl, _, _, rfl, rfl, by omega, ca, _, _, .int z, rfl, rfl, SqL.of (hcl _), by rw [ej]; exact atI_nat (is_get hz), ?_⟩⟩
        refine ⟨_, rfl, _, rfl, _, _, rfl, rfl, _, rfl, ?_⟩
        by_cases q1 : N < cs.length
        rotate_left
        rw [decide_eq_false (show ¬ (N : Int) < (cs.length : Nat) by omega)]
        refine iteF (iteF ?_)
        rotate_left
        rw [decide_eq_true (show (N : Int) < (cs.length : Nat) by omega)]
        refine iteT ⟨_, rfl, _, rfl, _, _, rfl, rfl, ⟨by decide, by decide, by decide⟩, _, _, rfl, rfl, _, rfl, ?_⟩
        by_cases q2 : (10 : Int) ^ (18 : Int).toNat ≤ (if z < 0 then -z else z)
        · rw [decide_eq_true q2]
          refine iteT ⟨_, rfl, _, rfl, _, _, rfl, rfl, ⟨by decide, by decide, by decide⟩, _, _, rfl, rfl, _, rfl, _, _, rfl, rfl, ⟨hm', by omega⟩, _, rfl, p, _, rfl, put_left upd_same, ?_⟩
          refine ⟨_, rfl, _, rfl, _, _, rfl, rfl, ⟨by decide, by decide, by decide⟩, _, _, rfl, rfl, .inl ⟨_, rfl, _, rfl, _, _, rfl, rfl, hm', ?_⟩⟩
          obtain ⟨r, hr1, e⟩ := mod_nat (x := (if z < 0 then -z else z) - (10 : Int) ^ (18 : Int).toNat) hm
          show Q (.int (((if z < 0 then -z else z) - (10 : Int) ^ (18 : Int).toNat) % (m : Int))) _
          rw [e]
          exact fin2 (N + 1) L _ (by omega) r hr1
        rw [decide_eq_false q2]
        refine iteF ?_
        all_goals
          refine ⟨_, rfl, .inl ⟨_, rfl, _, _, rfl, rfl, (show (0 : Int) < 4294967197 by decide), _, _, rfl, rfl, .inr ⟨by decide, by decide⟩, _, rfl, _, _, rfl, rfl, .inl ⟨by decide, by decide⟩, _, rfl, _, _, rfl, rfl, .inr ⟨by omega, by omega⟩, _, _, rfl, rfl, ?_⟩⟩
          dsimp only
          generalize z % 4294967197 * 52711 + 20353 * (N : Int) * (N : Int) = x0
          refine ⟨_, rfl, _, rfl, _, _, rfl, rfl, .inl ⟨by decide, by decide⟩, _, _, rfl, rfl, _, _, rfl, rfl, .inl ⟨_, rfl, _, _, rfl, rfl, (show (0 : Int) < 4294967189 by decide), ?_⟩⟩
          dsimp only
          have b1 := Int.emod_nonneg (x0 + 1531 * (N : Int) + 11) (b := 4294967189) (by decide)
          have b2 := Int.emod_lt_of_pos (x0 + 1531 * (N : Int) + 11) (b := 4294967189) (by decide)
          generalize (x0 + 1531 * (N : Int) + 11) % 4294967189 = x1 at b1 b2
          refine ⟨_, rfl, _, rfl, _, _, rfl, rfl, .inl ⟨by omega, by omega⟩, _, rfl, _, _, rfl, rfl, .inl ⟨by decide, by decide⟩, _, _, rfl, rfl, _, rfl, _, _, rfl, rfl, .inl ⟨by decide, by decide⟩, _, _, rfl, rfl, _, _, rfl, rfl, .inl ⟨_, rfl, _, _, rfl, rfl, (show (0 : Int) < 4294967161 by decide), ?_⟩⟩
          dsimp only
          have c1 := Int.emod_nonneg (x1 * x1 + 68903 * x1 + 23 * (N : Int) + 7) (b := 4294967161) (by decide)
          have c2 := Int.emod_lt_of_pos (x1 * x1 + 68903 * x1 + 23 * (N : Int) + 7) (b := 4294967161) (by decide)
          generalize (x1 * x1 + 68903 * x1 + 23 * (N : Int) + 7) % 4294967161 = x2 at c1 c2
          refine ⟨_, rfl, _, rfl, _, _, rfl, rfl, _, _, rfl, rfl, .inl ⟨by omega, by omega⟩, .inl ⟨_, rfl, _, _, rfl, rfl, (show (0 : Int) < 4294967143 by decide), _, _, rfl, rfl, ⟨(show (0 : Int) < 64 by decide), (show (64 : Int) < 1073741824 by decide)⟩, .inl ⟨_, rfl, _, rfl, _, _, rfl, rfl, hm', ?_⟩⟩⟩
          obtain ⟨r, hr1, e⟩ := mod_nat (x := x2 * (x2 + 57037) % 4294967143 / 64) hm
          show Q (.int (x2 * (x2 + 57037) % 4294967143 / 64 % (m : Int))) _
          rw [e]
          exact fin (N + 1) L (by omega) r hr1
end
end Wv
set_option Elab.async false
set_option linter.all false
set_option maxRecDepth 100000
set_option maxHeartbeats 2000000
namespace Wv
open PySem PySem.Spec PyProof.Rows L2 TL
/-! ### words as data -/
def Bits (ws : List Hf.Wd) : Prop := ∀ x ∈ ws, ∀ c ∈ x, c = 48 ∨ c = 49
def dW (ws : List Hf.Wd) : List PyData := ws.map fun x => PyData.str (sw x)
theorem dW_all {K : PySem.W.Frag} {H : Hp} : ∀ ws : List Hf.Wd, DpAll K H (Ws ws) (dW ws)
  | [] => .nil
  | x :: r => .cons (.str _) (dW_all r)
theorem ok_bits {x : Hf.Wd} (h : ∀ c ∈ x, c = 48 ∨ c = 49) : PyData.strOk (sw x) = true := by
  unfold PyData.strOk
  show x.toArray.all (fun c => decide (c < 0x110000)) = true
  rw [List.all_toArray, List.all_eq_true]
  intro c hc
  exact decide_eq_true (by rcases h c hc with e | e <;> omega)
theorem dW_can : ∀ {ws : List Hf.Wd}, Bits ws → PyData.canLayAll0 (dW ws) = true
  | [], _ => by simp [dW, PyData.canLayAll0]
  | x :: r, h => by
    have q := dW_can (ws := r) fun y hy => h y (List.mem_cons_of_mem _ hy)
    have q2 := ok_bits (h x List.mem_cons_self)
    show (PyData.canLay0 (.str (sw x)) && PyData.canLayAll0 (dW r)) = true
    rw [q, Bool.and_true]
    simpa [PyData.canLay0] using q2
theorem dW_depth : ∀ ws : List Hf.Wd, PyData.depthAll (dW ws) ≤ 1
  | [] => by simp [dW, PyData.depthAll]
  | x :: r => by
    have := dW_depth r
    show max (PyData.depth (.str (sw x))) (PyData.depthAll (dW r)) ≤ 1
    simp only [PyData.depth]
    omega
theorem dW_lst {ws : List Hf.Wd} (h : Bits ws) : SeqAt.shaped (.list (dW ws)) = true := by
  have h1 := dW_depth ws
  have h2 : PyData.depth (.list (dW ws)) ≤ 64 := by simp only [PyData.depth]; omega
  show (PyData.canLay0 (.list (dW ws)) && decide (PyData.depth (.list (dW ws)) ≤ 64)) = true
  rw [Bool.and_eq_true]
  exact ⟨by simp only [PyData.canLay0]; exact dW_can h, decide_eq_true h2⟩
theorem dW_tup {ws : List Hf.Wd} (h : Bits ws) : SeqAt.shaped (.tuple (dW ws)) = true := by
  have h1 := dW_depth ws
  have h2 : PyData.depth (.tuple (dW ws)) ≤ 64 := by simp only [PyData.depth]; omega
  show (PyData.canLay0 (.tuple (dW ws)) && decide (PyData.depth (.tuple (dW ws)) ≤ 64)) = true
  rw [Bool.and_eq_true]
  exact ⟨by simp only [PyData.canLay0]; exact dW_can h, decide_eq_true h2⟩
theorem dW_same : ∀ ws : List Hf.Wd, PyData.eqvAll (dW ws) (dW ws) = true
  | [] => by simp [dW, PyData.eqvAll]
  | x :: r => by
    show (PyData.eqv (.str (sw x)) (.str (sw x)) && PyData.eqvAll (dW r) (dW r)) = true
    rw [dW_same r, Bool.and_true]
    simp [PyData.eqv]
/-- a list of words == []: -/
theorem dW_nil (ws : List Hf.Wd) : PyData.eqv (.list (dW ws)) (.list []) = decide (ws = []) := by
  cases ws with
  | nil => simp [dW, PyData.eqv, PyData.eqvAll]
  | cons x r => simp [dW, PyData.eqv, PyData.eqvAll]
theorem ws_erase : ∀ (ws : List Hf.Wd) (j : Nat), (Ws ws).eraseIdx j = Ws (ws.eraseIdx j)
  | [], _ => rfl
  | _ :: _, 0 => rfl
  | x :: r, j + 1 => congrArg (V.str (sw x) :: ·) (ws_erase r j)
theorem ws_snoc (ws : List Hf.Wd) (x : Hf.Wd) : Ws ws ++ [V.str (sw x)] = Ws (ws ++ [x]) := by simp [Ws]
theorem seqIx {n j : Nat} (h : j < n) : seqIndex? (j : Int) n = some j := by
  rw [seqIndex_of (by omega) (by omega)]
  simp
section
variable {P : Program} {w : World} {K : PySem.W.Frag} {mg : Str → Option Value} {base : Heap} {R : EA} {C : Addr}
/-! ### pick -/
def spPick : Sp := fun vs H Q _ => ∃ (p ca a : Addr) (k : Nat) (xs : List V), vs = [.ref p, .ref a] ∧ H a = some (.lst xs) ∧ 0 < xs.length ∧ xs.length < 1000 ∧ Pen p ca (k + 1) H ∧ ∀ H' v, But p H H' → Pen p ca k H' → v ∈ xs → Q v H'
theorem scPick : FnScope ["_law_pen", "_law_items"] ["_law_pen", "_law_items"] (defScope sLPick) := ⟨rfl, rfl, rfl, by decide +kernel, rfl, by decide +kernel, by decide +kernel⟩
theorem kPick (A : At K mg "_law_pick" sLPick) (B : Bi mg) (D : Kn P w K mg base CX0 1 "_law_draw" ["_law_pen", "_law_many"] spDraw) : Kn P w K mg base CX0 2 "_law_pick" ["_law_pen", "_law_items"] spPick := by
  have sc := scPick
  refine A.kn (fun f fd F => F.ok scPick (fun vs H Q E h => ?_) (fun cdv A outer s H vs Q E hr h => ?_)) (fun _ _ _ _ _ _ us hl => match us, hl with | [_, _], _ => rfl)
  · obtain ⟨p, ca, a, k, xs, rfl, _⟩ := h
    rfl
  · obtain ⟨p, ca, a, kk, xs, rfl, ha, h0, h1, hP, k⟩ := h
    refine ⟨_, (pss_one (ps_ret (pe_ix ix_list (pv 1) (pe_kn D hr pass0 (pa_cons (pv 0) (pa_cons (pe_callB call_len_seq (by rfl) B.len PySem.boot_len (pa_cons (pv 1) pa_nil)) pa_nil))) (fun _ _ => rfl)))), ?_⟩
    refine ⟨_, rfl, _, rfl, _, rfl, a, _, rfl, .inl (SqL.of ha), p, ca, xs.length, kk, rfl, h0, by omega, hP, fun H' r b hp hr1 => ?_⟩
    obtain ⟨v, hv⟩ := get_of_lt hr1
    exact ⟨a, _, _, _, rfl, rfl, SqL.of (b _ _ (hP.ne ha) ha), atI_nat hv, k H' v b hp (List.mem_of_getElem? hv)⟩
/-! ### shuffled -/
def spShuffled : Sp := fun vs H Q _ => ∃ (p ca a : Addr) (k : Nat) (ws : List Hf.Wd), vs = [.ref p, .ref a] ∧ H a = some (.lst (Ws ws)) ∧ Bits ws ∧ ws.length < 1000 ∧ Pen p ca (k + ws.length) H ∧
  ∀ (H' : Hp) (l : Addr) (ys : List Hf.Wd), But p H H' → Pen p ca k H' → ys.Perm ws → H l = none → H' l = some (.lst (Ws ys)) → Q (.ref l) H'
theorem scShuffled : FnScope ["_law_pen", "_law_items", "_law_rest", "_law_found"] ["_law_pen", "_law_items"] (defScope sLShuffled) := ⟨rfl, rfl, rfl, by decide +kernel, rfl, by decide +kernel, by decide +kernel⟩
theorem kShuffled (A : At K mg "_law_shuffled" sLShuffled) (B : Bi mg) (D : Kn P w K mg base CX0 1 "_law_draw" ["_law_pen", "_law_many"] spDraw) : Kn P w K mg base CX0 2 "_law_shuffled" ["_law_pen", "_law_items"] spShuffled := by
  have sc := scShuffled
  refine A.kn (fun f fd F => F.ok scShuffled (fun vs H Q E h => ?_) (fun cdv A outer s H vs Q E hr h => ?_)) (fun _ _ _ _ _ _ us hl => match us, hl with | [_, _], _ => rfl)
  · obtain ⟨p, ca, a, k, ws, rfl, _⟩ := h
    rfl
  · obtain ⟨p, ca, a, kk, ws, rfl, ha, hb, h1, hP, k⟩ := h
    have hu : (cxOf CX0 P w K mg base ["_law_pen", "_law_items", "_law_rest", "_law_found"] "_law_shuffled" (defScope sLShuffled) f cdv A outer s H E).nox.A.units + 64 < cLine := hr.units
    refine ⟨_, (pss_cons (ps_par (i := 2) (j := 3) rfl sc.nd rfl rfl (by decide) rfl rfl (pa_cons (pe_callTy call_list_of (by rfl) B.list (by decide +kernel) (pa_cons (pv 1) pa_nil)) (pa_cons (pe_lst pa_nil) pa_nil)) (by rfl)) (pss_cons (ps_while PassesOwn.never (pt_cmpR (op_neD hu) (pv 2) (pe_lst pa_nil) (nomark _)) (pss_one (ps_expr (pe_bm PySem.F.plainAttrs_list PySem.F.slot_list_append PySem.F.type_list_append mt_append (pv 3) (pa_cons (pe_bm PySem.F.plainAttrs_list PySem.F.slot_list_pop PySem.F.type_list_pop mt_popAt (pv 2) (pa_cons (pe_kn D hr pass0 (pa_cons (pv 0) (pa_cons (pe_callB call_len_seq (by rfl) B.len PySem.boot_len (pa_cons (pv 2) pa_nil)) pa_nil))) pa_nil)) pa_nil))))) (pss_one (ps_ret (pv 3))))), ?_⟩
    refine ⟨_, rfl, a, _, rfl, .inl (SqL.of ha), fun r hr0 => ⟨by show 0 ≤ sizeLine; decide, fun q hq => ⟨_, _, rfl, ?_⟩⟩⟩
    have nrq : r ≠ q := fun z => by rw [← z, upd_same] at hq; cases hq
    have hq0 : H q = none := (same_upd hr0).free hq
    refine while_by (fun σ H' => ∃ rs fs : List Hf.Wd, σ = [some (.ref p), some (.ref a), some (.ref r), some (.ref q)] ∧ But p H H' ∧ H' r = some (.lst (Ws rs)) ∧ H' q = some (.lst (Ws fs)) ∧ (fs ++ rs).Perm ws ∧ Pen p ca (kk + rs.length) H')
      (fun σ H' => match H' r with | some (.lst xs) => xs.length | _ => 0)
      ⟨ws, [], rfl, ((But.of (same_upd hr0)).trans (But.of (same_upd hq))), (same_upd hq) _ _ upd_same, upd_same, .refl _, (hP.up (same_upd hr0)).up (same_upd hq)⟩ ?_ ?_
    · rintro σ H' ⟨rs, fs, rfl, b, hR, hF, pm, hP'⟩
      refine ⟨_, rfl, by show 0 ≤ sizeLine; decide, fun t ht => ?_⟩
      have st := same_upd (o := .lst []) ht
      have bt := b.trans (But.of st)
      have hR2 := st _ _ hR
      have hF2 := st _ _ hF
      have hP2 := hP'.up st
      generalize hH2 : upd H' t (.lst []) = H2 at st bt hR2 hF2 hP2
      have ht2 : H2 t = some (.lst []) := by rw [← hH2, upd_same]
      refine ⟨.list (dW rs), .list [], .lst (SqL.of hR2) (dW_all rs), .lst (SqL.of ht2) .nil, dW_lst (fun x hx => hb x (pm.subset (List.mem_append_right _ hx))), by decide +kernel, _, rfl, ?_⟩
      rw [dW_nil]
      cases rs with
      | nil => exact iteF ⟨_, rfl, k H2 q fs bt hP2 (by simpa using pm) hq0 hF2⟩
      | cons x0 r0 =>
        refine iteT ⟨_, rfl, .inl ⟨rfl, _, SqL.of hF2⟩, ?_⟩
        refine ⟨_, rfl, .inl ⟨rfl, _, SqL.of hR2⟩, _, rfl, _, rfl, r, _, rfl, .inl (SqL.of hR2), ?_⟩
        generalize hrs : x0 :: r0 = rs at *
        have hlen : rs.length = r0.length + 1 := by rw [← hrs]; rfl
        have hrl : rs.length ≤ ws.length := by
          have := pm.length_eq
          rw [List.length_append] at this
          omega
        have hfl : fs.length ≤ ws.length := by
          have := pm.length_eq
          rw [List.length_append] at this
          omega
        refine ⟨p, ca, rs.length, kk + r0.length, by rw [ws_len]; rfl, by omega, by omega, by rw [hlen] at hP2; exact hP2, fun H3 j b3 hP3 hj => ?_⟩
        have hR3 := b3 _ _ (hP2.ne hR2) hR2
        have hF3 := b3 _ _ (hP2.ne hF2) hF2
        obtain ⟨x, hx⟩ := get_of_lt hj
        refine ⟨r, _, _, j, _, rfl, rfl, hR3, by omega, by omega, by rw [ws_len]; exact seqIx hj, ws_get hx, ?_⟩
        have el : (rs.eraseIdx j).length = r0.length := by
          have := (Hf.perm_erase hx).length_eq
          rw [List.length_cons] at this
          omega
        refine ⟨q, _, _, rfl, rfl, (upd_ne (Ne.symm nrq)).trans hF3, by rw [ws_len]; exact small1000 (by omega), ?_⟩
        rw [ws_erase, ws_snoc]
        refine ⟨⟨rs.eraseIdx j, fs ++ [x], rfl, ((bt.trans b3).set hr0).set hq0, (upd_ne nrq).trans upd_same, upd_same, ?_, ?_⟩, ?_⟩
        · rw [List.append_assoc]
          exact ((Hf.perm_erase hx).symm.append_left fs).trans pm
        · rw [el]
          exact (hP3.upd (hP.nof hr0)).upd (hP.nof hq0)
        · show (match (upd (upd H3 r (.lst (Ws (rs.eraseIdx j)))) q (.lst (Ws (fs ++ [x])))) r with | some (.lst xs) => xs.length | _ => 0) < (match H' r with | some (.lst xs) => xs.length | _ => 0)
          rw [(upd_ne nrq).trans upd_same, hR]
          show (Ws (rs.eraseIdx j)).length < (Ws rs).length
          rw [ws_len, ws_len]
          omega
    · rintro σ H' Q1 Q2 hq ⟨v, e1, g1, g2⟩
      refine ⟨v, e1, g1, fun t ht => ?_⟩
      obtain ⟨d, e, a1, a2, a3, a4, kk, a5, q⟩ := g2 t ht
      exact ⟨d, e, a1, a2, a3, a4, kk, a5, hq _ _ q⟩
end
end Wv
set_option Elab.async false
set_option linter.all false
set_option maxRecDepth 100000
set_option maxHeartbeats 2000000
namespace Wv
open PySem PySem.Spec PyProof.Rows L2 TL
theorem zip_snoc {ls ns : List Int} {j : Nat} {x y : Int} (h1 : ls[j]? = some x) (h2 : ns[j]? = some y) : (ls.zip ns).take (j + 1) = (ls.zip ns).take j ++ [(x, y)] := by
  refine take_snoc ?_
  rw [List.getElem?_zip_eq_some]
  exact ⟨h1, h2⟩
section
variable {P : Program} {w : World} {K : PySem.W.Frag} {mg : Str → Option Value} {base : Heap} {R : EA} {C : Addr}
/-! ### cost -/
def spCost (K : PySem.W.Frag) : Sp := fun vs H Q _ => ∃ (a b : Addr) (ls ns : List Int), vs = [.ref a, .ref b] ∧ SqL K H a (Is ls) ∧ SqL K H b (Is ns) ∧ ls.length ≤ 1000 ∧ (∀ x ∈ ls, 0 ≤ x ∧ x ≤ 1000) ∧ ∀ H', Same H H' → Q (.int (Hf.cost ls ns)) H'
theorem scCost : FnScope ["_law_lengths", "_law_counts", "_law_length", "_law_count"] ["_law_lengths", "_law_counts"] (defScope sLCost) := ⟨rfl, rfl, rfl, by decide +kernel, rfl, by decide +kernel, by decide +kernel⟩
theorem kCost (A : At K mg "_law_cost" sLCost) (B : Bi mg) : Kn P w K mg base CX0 1 "_law_cost" ["_law_lengths", "_law_counts"] (spCost K) := by
  have sc := scCost
  refine A.kn (fun f fd F => F.ok scCost (fun vs H Q E h => ?_) (fun cdv A outer s H vs Q E hr h => ?_)) (fun _ _ _ _ _ _ us hl => match us, hl with | [_, _], _ => rfl)
  · obtain ⟨a, b, ls, ns, rfl, _⟩ := h
    rfl
  · obtain ⟨a, b, ls, ns, rfl, hA, hB, hl, hx, k⟩ := h
    refine ⟨_, (pss_one (ps_ret (pe_callB (cr_sum rfl) (by rfl) B.sum (by decide +kernel) (pa_cons (pe_lc (own := [("_law_length", 2), ("_law_count", 3)]) rfl sc.nd (pi_zip (by rfl) B.zip (pa_cons (pv 0) (pa_cons (pv 1) pa_nil))) (blkOk_by (own := [("_law_length", 2), ("_law_count", 3)]) (N := ["_law_lengths", "_law_counts", "_law_length", "_law_count"]) (sc := defScope sLCost) (by decide +kernel)) (fun _ _ _ _ _ => (pg_tupK (n := 2) K rfl rfl (pgs_cons (pg_name (i := 2) sc.nd rfl (Or.inl rfl)) (pgs_cons (pg_name (i := 3) sc.nd rfl (Or.inl rfl)) pgs_nil)))) (fun _ _ _ _ _ => pts_nil) (fun _ _ _ _ _ => (pe_op op_mul (pv 2) (pv 3)))) pa_nil)))), ?_⟩
    refine ⟨_, rfl, _, rfl, a, b, _, _, rfl, hA, hB, fun D hD => ?_⟩
    refine lc_it (walk_zip (K := K) (a := a) (b := b) (xs := Is ls) (ys := Is ns) rfl) (fun i H' => Same H H' ∧ H' D = some (.lst (Is (((ls.zip ns).take i).map fun p => p.1 * p.2)))) ⟨same_upd hD, upd_same⟩ (fun i H' _ h => ⟨h.1.seq hA, h.1.seq hB⟩) ?_ ?_
    · rintro i x H' H'' hi ⟨sm, hL⟩ ⟨T, y, z, rfl, hT, rfl, hy, hz⟩
      obtain ⟨l, hl1, rfl⟩ := is_at hy
      obtain ⟨n, hn1, rfl⟩ := is_at hz
      have hb := hx l (List.mem_of_getElem? hl1)
      refine ⟨T, _, rfl, SqT.of upd_same, rfl, _, _, rfl, _, _, rfl, rfl, rfl, iteT (B := True) ?_⟩
      refine ⟨_, rfl, _, rfl, _, _, rfl, rfl, .inl ⟨by omega, by omega⟩, ?_⟩
      refine ⟨_, (same_upd hT) _ _ hL, ?_, (sm.to hT).set hD, ?_⟩
      · rw [is_len, List.length_map, List.length_take]
        have := lt_of_get hl1
        exact small1000 (by omega)
      · rw [upd_same, zip_snoc hl1 hn1]
        simp [Is]
    · rintro H' ⟨sm, hL⟩
      refine ⟨D, _, rfl, SqL.of hL, ?_⟩
      have e : (ls.zip ns).take (min (Is ls).length (Is ns).length) = ls.zip ns := by
        rw [is_len, is_len]
        exact List.take_of_length_le (by rw [List.length_zip]; exact Nat.le_refl _)
      rw [e]
      exact k H' sm
/-! ### least -/
def spLeast (K : PySem.W.Frag) : Sp := fun vs H Q _ => ∃ (a : Addr) (ns : List Int), vs = [.ref a] ∧ SqL K H a (Is ns) ∧ 0 < ns.length ∧ ns.length < 60 ∧ ∀ H' c, Same H H' → Hf.Huf ns c → Q (.int c) H'
theorem scLeast : FnScope ["_law_counts", "_law_left", "_law_total", "_law_weight"] ["_law_counts"] (defScope sLLeast) := ⟨rfl, rfl, rfl, by decide +kernel, rfl, by decide +kernel, by decide +kernel⟩
theorem huf_tail {ns l : List Int} {x y t : Int} {r : List Int} (hl : l = x :: y :: r) (so : l.Pairwise (· ≤ ·)) (h : ∀ c, Hf.Huf l c → Hf.Huf ns (t + c)) : ∀ c, Hf.Huf (r ++ [x + y]) c → Hf.Huf ns ((t + (x + y)) + c) := by
  intro c hc
  subst hl
  have p1 := List.pairwise_cons.mp so
  have p2 := List.pairwise_cons.mp p1.2
  have := h (x + y + c) (.step x y r c (.refl _) (p1.1 y (List.mem_cons_self ..)) p2.1 (hc.perm (List.perm_append_comm (l₁ := r) (l₂ := [x + y]))))
  have e : t + (x + y) + c = t + (x + y + c) := by omega
  rw [e]
  exact this
theorem kLeast (A : At K mg "_law_least" sLLeast) (B : Bi mg) : Kn P w K mg base CX0 1 "_law_least" ["_law_counts"] (spLeast K) := by
  have sc := scLeast
  refine A.kn (fun f fd F => F.ok scLeast (fun vs H Q E h => ?_) (fun cdv A outer s H vs Q E hr h => ?_)) (fun _ _ _ _ _ _ us hl => match us, hl with | [_], _ => rfl)
  · obtain ⟨a, ns, rfl, _⟩ := h
    rfl
  · obtain ⟨a, ns, rfl, hS, h0, h60, k⟩ := h
    refine ⟨_, (pss_cons (ps_par (i := 1) (j := 2) rfl sc.nd rfl rfl (by decide) rfl rfl (pa_cons (pe_callB cr_sorted (by rfl) B.sorted (by decide +kernel) (pa_cons (pv 0) pa_nil)) (pa_cons pe_int pa_nil)) (by rfl)) (pss_cons (ps_while PassesOwn.never (pt_cmpR op_gt (pe_callB call_len_seq (by rfl) B.len PySem.boot_len (pa_cons (pv 1) pa_nil)) pe_int (nomark _)) (pss_cons (ps_set (i := 3) sc.nd rfl (Or.inl rfl) (pe_op op_add (pe_ix ix_list (pv 1) pe_int (fun _ _ => rfl)) (pe_ix ix_list (pv 1) pe_int (fun _ _ => rfl)))) (pss_cons (ps_set (i := 1) sc.nd rfl (Or.inl rfl) (pe_callB cr_sorted (by rfl) B.sorted (by decide +kernel) (pa_cons (pe_op op_cat (pe_slice sl_list (pv 1) (po_some pe_int) po_none) (pe_lst (pa_cons (pv 3) pa_nil))) pa_nil))) (pss_one (ps_set (i := 2) sc.nd rfl (Or.inl rfl) (pe_op op_add (pv 2) (pv 3))))))) (pss_one (ps_ret (pv 2))))), ?_⟩
    refine ⟨_, rfl, a, ns, rfl, hS, by omega, fun ns' l pm so hl => ⟨_, _, rfl, ?_⟩⟩
    refine while_by (fun σ H' => ∃ (l : Addr) (xs : List Int) (t : Int) (u : Option V), σ = [some (.ref a), some (.ref l), some (.int t), u] ∧ Same H H' ∧ H' l = some (.lst (Is xs)) ∧ xs.Pairwise (· ≤ ·) ∧ 0 < xs.length ∧ xs.length < 60 ∧ ∀ c, Hf.Huf xs c → Hf.Huf ns (t + c))
      (fun σ H' => match σ with | _ :: some (.ref l) :: _ => (match H' l with | some (.lst xs) => xs.length | _ => 0) | _ => 0)
      ⟨l, ns', 0, none, rfl, same_upd hl, upd_same, so, by rw [pm.length_eq]; exact h0, by rw [pm.length_eq]; exact h60, fun c hc => by rw [Int.zero_add]; exact hc.perm pm⟩ ?_ ?_
    · rintro σ H' ⟨l, xs, t, u, rfl, sm, hL, so, g0, g60, hh⟩
      refine ⟨_, rfl, l, _, rfl, .inl (SqL.of hL), _, _, rfl, rfl, _, rfl, ?_⟩
      rw [is_len]
      match xs, so, g0, g60, hh, hL with
      | [x], so, g0, g60, hh, hL =>
        rw [decide_eq_false (by simp)]
        refine iteF ⟨_, rfl, ?_⟩
        have := k H' (t + 0) sm (hh 0 (.one x))
        rw [Int.add_zero] at this
        exact this
      | x :: y :: r, so, g0, g60, hh, hL =>
        rw [decide_eq_true (by simp; omega)]
        refine iteT ?_
        refine ⟨_, rfl, l, _, 0, .int x, rfl, rfl, SqL.of hL, atI_nat (j := 0) rfl, _, rfl, l, _, 1, .int y, rfl, rfl, SqL.of hL, atI_nat (j := 1) rfl, _, _, rfl, rfl, ?_⟩
        refine ⟨_, rfl, _, rfl, l, _, rfl, SqL.of hL, fun p hp => ?_⟩
        rw [show (2 : Int) = ((2 : Nat) : Int) from rfl, cut_from]
        refine ⟨_, rfl, by show 1 ≤ sizeLine; decide, fun q hq => ?_⟩
        have s2 := (sm.to (o := .lst ((Is (x :: y :: r)).drop 2)) hp).to (o := .lst [.int (x + y)]) hq
        refine ⟨p, q, Is r, _, rfl, rfl, (same_upd hq) _ _ upd_same, upd_same, ?_, fun z hz => ?_⟩
        · rw [is_len]
          exact line_of (by show r.length + 1 ≤ 1000; simp at g60; omega)
        have ez : Is r ++ [.int (x + y)] = Is (r ++ [x + y]) := by simp [Is]
        dsimp only
        rw [ez]
        refine ⟨z, r ++ [x + y], rfl, SqL.of upd_same, by simp at g60 ⊢; omega, fun ns2 l2 pm2 so2 hl2 => ?_⟩
        have s4 := (s2.to hz).to (o := .lst (Is ns2)) hl2
        refine ⟨_, rfl, _, rfl, _, _, rfl, rfl, ?_⟩
        refine ⟨⟨l2, ns2, t + (x + y), _, rfl, s4, upd_same, so2, by rw [pm2.length_eq]; simp, by rw [pm2.length_eq]; simp at g60 ⊢; omega, fun c hc => huf_tail rfl so hh c (hc.perm pm2)⟩, ?_⟩
        show (match (upd _ l2 (.lst (Is ns2))) l2 with | some (.lst xs) => xs.length | _ => 0) < (match H' l with | some (.lst xs) => xs.length | _ => 0)
        rw [upd_same, hL]
        show (Is ns2).length < (Is (x :: y :: r)).length
        rw [is_len, is_len, pm2.length_eq]
        simp
    · rintro σ H' Q1 Q2 hq ⟨v, e1, p, ys, e2, e3, i, j, e4, e5, kk, e6, q⟩
      exact ⟨v, e1, p, ys, e2, e3, i, j, e4, e5, kk, e6, hq _ _ q⟩
end
end Wv
set_option Elab.async false
set_option linter.all false
set_option maxRecDepth 100000
set_option maxHeartbeats 2000000
namespace Wv
open PySem PySem.Spec PyProof.Rows L2 TL
theorem lens_le {ws : List Hf.Wd} (h : ∀ x ∈ ws, x.length ≤ 1000) : ∀ x ∈ Hf.lens ws, 0 ≤ x ∧ x ≤ 1000 := fun x hx => by
  obtain ⟨y, hy, rfl⟩ := List.mem_map.mp hx
  have := h y hy
  omega
theorem lens_len (ws : List Hf.Wd) : (Hf.lens ws).length = ws.length := List.length_map _
theorem cutW (ws : List Hf.Wd) (r : Nat) : (Ws ws).take r = Ws (ws.take r) := (List.map_take ..).symm
section
variable {P : Program} {w : World} {K : PySem.W.Frag} {mg : Str → Option Value} {base : Heap} {R : EA} {C : Addr}
/-! ### is_least -/
def spIsLeast (K : PySem.W.Frag) : Sp := fun vs H Q _ => ∃ (a b : Addr) (ws : List Hf.Wd) (ns : List Int), vs = [.ref a, .ref b] ∧ H a = some (.lst (Ws ws)) ∧ H b = some (.lst (Is ns)) ∧ ws.length ≤ 1000 ∧ (∀ x ∈ ws, x.length ≤ 1000) ∧ 0 < ns.length ∧ ns.length < 60 ∧
  ∀ H' c, Same H H' → Hf.Huf ns c → Q (.bl (decide (Hf.cost (Hf.lens ws) ns = c))) H'
theorem scIsLeast : FnScope ["_law_words_here", "_law_counts", "_law_word"] ["_law_words_here", "_law_counts"] (defScope sLIsLeast) := ⟨rfl, rfl, rfl, by decide +kernel, rfl, by decide +kernel, by decide +kernel⟩
theorem kIsLeast (A : At K mg "_law_is_least" sLIsLeast) (B : Bi mg) (D1 : Kn P w K mg base CX0 1 "_law_cost" ["_law_lengths", "_law_counts"] (spCost K)) (D2 : Kn P w K mg base CX0 1 "_law_least" ["_law_counts"] (spLeast K)) : Kn P w K mg base CX0 2 "_law_is_least" ["_law_words_here", "_law_counts"] (spIsLeast K) := by
  have sc := scIsLeast
  refine A.kn (fun f fd F => F.ok scIsLeast (fun vs H Q E h => ?_) (fun cdv A outer s H vs Q E hr h => ?_)) (fun _ _ _ _ _ _ us hl => match us, hl with | [_, _], _ => rfl)
  · obtain ⟨a, b, ws, ns, rfl, _⟩ := h
    rfl
  · obtain ⟨a, b, ws, ns, rfl, hA, hB, hl, hx, h0, h60, k⟩ := h
    refine ⟨_, (pss_one (ps_ret (pe_cmpR op_eq (pe_kn D1 hr pass0 (pa_cons (pe_lc (own := [("_law_word", 2)]) rfl sc.nd (pi_list (pv 0)) (blkOk_by (own := [("_law_word", 2)]) (N := ["_law_words_here", "_law_counts", "_law_word"]) (sc := defScope sLIsLeast) (by decide +kernel)) (fun _ _ _ _ _ => (pg_name (i := 2) sc.nd rfl (Or.inl rfl))) (fun _ _ _ _ _ => pts_nil) (fun _ _ _ _ _ => (pe_callB call_len_str (by rfl) B.len PySem.boot_len (pa_cons (pv 2) pa_nil)))) (pa_cons (pv 1) pa_nil))) (pe_kn D2 hr pass0 (pa_cons (pv 1) pa_nil)) (nomark _)))), ?_⟩
    refine ⟨_, rfl, a, rfl, ⟨_, SqL.of hA⟩, fun D hD => ?_⟩
    refine lc_lens (Nat.lt_succ_self 2) (SqL.of hA) hl hx hD fun H1 s1 h1 => ?_
    refine ⟨_, rfl, D, b, Hf.lens ws, ns, rfl, SqL.of h1, SqL.of (s1 _ _ hB), by rw [lens_len]; exact hl, lens_le hx, fun H2 s2 => ?_⟩
    refine ⟨_, rfl, b, ns, rfl, SqL.of (s2 _ _ (s1 _ _ hB)), h0, h60, fun H3 c s3 hc => ⟨rfl, ?_⟩⟩
    have e : decide (V.int (Hf.cost (Hf.lens ws) ns) = V.int c) = decide (Hf.cost (Hf.lens ws) ns = c) := by
      by_cases q : Hf.cost (Hf.lens ws) ns = c
      · rw [decide_eq_true q, decide_eq_true (by rw [q])]
      · rw [decide_eq_false q, decide_eq_false (fun z => q (by injection z))]
    rw [e]
    exact k H3 c ((s1.trans s2).trans s3) hc
/-! ### put -/
def spPut : Sp := fun vs H Q _ => ∃ (a b : Addr) (r : Nat) (ws : List Hf.Wd) (ns : List Int), vs = [.ref a, .ref b, .int (r : Nat)] ∧ H a = some (.lst (Ws ws)) ∧ H b = some (.lst (Is ns)) ∧ ws.length = ns.length ∧ 0 < ns.length ∧ ws.length ≤ 100 ∧ (∀ x ∈ ws, x.length ≤ 100) ∧ r ≤ ws.length ∧
  ∀ H' l s wd, Same H H' → MinAt ns s → ws[s]? = some wd → H l = none → H' l = some (.lst (Ws (Hf.putW ws s wd r))) → Q (.ref l) H'
theorem scPut : FnScope ["_law_words_here", "_law_counts", "_law_rank", "_law_sign", "_law_found"] ["_law_words_here", "_law_counts", "_law_rank"] (defScope sLPut) := ⟨rfl, rfl, rfl, by decide +kernel, rfl, by decide +kernel, by decide +kernel⟩
theorem kPut (A : At K mg "_law_put" sLPut) (B : Bi mg) : Kn P w K mg base CX0 1 "_law_put" ["_law_words_here", "_law_counts", "_law_rank"] spPut := by
  have sc := scPut
  refine A.kn (fun f fd F => F.ok scPut (fun vs H Q E h => ?_) (fun cdv A outer s H vs Q E hr h => ?_)) (fun _ _ _ _ _ _ us hl => match us, hl with | [_, _, _], _ => rfl)
  · obtain ⟨a, b, r, ws, ns, rfl, _⟩ := h
    rfl
  · obtain ⟨a, b, r, ws, ns, rfl, hA, hB, hl, h0, h100, hx, hr1, k⟩ := h
    refine ⟨_, (pss_cons (ps_par (i := 3) (j := 4) rfl sc.nd rfl rfl (by decide) rfl rfl (pa_cons (pe_bm PySem.F.plainAttrs_list PySem.F.slot_list_index PySem.F.type_list_index mt_index (pv 1) (pa_cons (pe_callB (cr_min rfl) (by rfl) B.min (by decide +kernel) (pa_cons (pv 1) pa_nil)) pa_nil)) (pa_cons (pe_callTy call_list_of (by rfl) B.list (by decide +kernel) (pa_cons (pv 0) pa_nil)) pa_nil)) (by rfl)) (pss_cons (ps_asg (pe_op op_add_str (pe_ix ix_list (pv 0) (pv 3) (fun _ _ => rfl)) pe_str) (pg_sub (pv 4) (pv 3) set_list)) (pss_one (ps_ret (pe_op op_cat (pe_op op_cat (pe_slice sl_list (pv 4) po_none (po_some (pv 2))) (pe_lst (pa_cons (pe_op op_add_str (pe_ix ix_list (pv 0) (pv 3) (fun _ _ => rfl)) pe_str) pa_nil))) (pe_slice sl_list (pv 4) (po_some (pv 2)) po_none)))))), ?_⟩
    refine ⟨_, rfl, .inl ⟨rfl, _, SqL.of hB⟩, _, rfl, b, ns, rfl, SqL.of hB, h0, fun m hm hle => ?_⟩
    obtain ⟨i, hi1, hi2⟩ := first_at hm
    have hi : MinAt ns i := ⟨m, hi1, hle, hi2⟩
    refine ⟨b, Is ns, .int m, i, .int m, rfl, rfl, SqL.of hB, rfl, is_flat ns, is_get hi1, by show (m == m) = true; exact beq_self_eq_true m, fun j z hj hz => ?_, ?_⟩
    · obtain ⟨n, hn, rfl⟩ := is_at hz
      show (n == m) = false
      exact beq_false_of_ne fun e => hi2 j hj (by rw [hn, e])
    have hil : i < ws.length := by
      obtain ⟨m, hm, _⟩ := hi
      rw [hl]
      exact lt_of_get hm
    obtain ⟨wd, hwd⟩ := get_of_lt hil
    have hsh := hx wd (List.mem_of_getElem? hwd)
    refine ⟨_, rfl, a, _, rfl, .inl (SqL.of hA), fun l hl0 => ⟨_, _, rfl, ?_⟩⟩
    have nal : a ≠ l := ne_of_none hA hl0
    refine ⟨_, rfl, _, rfl, a, _, _, _, rfl, rfl, SqL.of ((same_upd hl0) _ _ hA), atI_nat (ws_get hwd), _, _, rfl, rfl, by rw [sw_len]; exact line_of (by show wd.length + 1 ≤ 1000; omega), ?_⟩
    refine ⟨_, rfl, _, rfl, l, _, _, i, rfl, rfl, upd_same, ixN_nat (by rw [ws_len]; exact hil), ?_⟩
    rw [sw0, sw_app, ws_set, upd_upd]
    have s1 : Same H (upd H l (.lst (Ws (ws.set i (wd ++ [48]))))) := same_upd hl0
    refine ⟨_, rfl, _, rfl, _, rfl, l, _, rfl, SqL.of upd_same, fun p hp => ?_⟩
    rw [cut_to, ws_take]
    have hll := @upd_same H l (.lst (Ws (ws.set i (wd ++ [48]))))
    generalize upd H l (.lst (Ws (ws.set i (wd ++ [48])))) = H1 at s1 hll hp
    have s2 : Same H (upd H1 p (.lst (Ws ((ws.set i (wd ++ [48])).take r)))) := s1.to hp
    refine ⟨_, rfl, _, rfl, a, _, _, _, rfl, rfl, SqL.of (s2 _ _ hA), atI_nat (ws_get hwd), _, _, rfl, rfl, by rw [sw_len]; exact line_of (by show wd.length + 1 ≤ 1000; omega), by show 1 ≤ sizeLine; decide, fun q hq => ?_⟩
    rw [sw1, sw_app]
    have s3 := s2.to (o := .lst (Ws [wd ++ [49]])) hq
    have l3 : (upd (upd H1 p (.lst (Ws ((ws.set i (wd ++ [48])).take r)))) q (.lst (Ws [wd ++ [49]]))) l = some (.lst (Ws (ws.set i (wd ++ [48])))) := (same_upd hq) _ _ ((same_upd hp) _ _ hll)
    refine ⟨p, q, _, _, rfl, rfl, (same_upd hq) _ _ upd_same, upd_same, ?_, fun p2 hp2 => ?_⟩
    · rw [ws_len]
      exact line_of (by show ((ws.set i (wd ++ [48])).take r).length + 1 ≤ 1000; rw [List.length_take, List.length_set]; omega)
    have s4 := s3.to (o := .lst (Ws ((ws.set i (wd ++ [48])).take r) ++ Ws [wd ++ [49]])) hp2
    have l4 := (same_upd (o := .lst (Ws ((ws.set i (wd ++ [48])).take r) ++ Ws [wd ++ [49]])) hp2) _ _ l3
    refine ⟨_, rfl, _, rfl, _, rfl, l, _, rfl, SqL.of l4, fun p3 hp3 => ?_⟩
    rw [cut_from, ws_drop]
    refine ⟨p2, p3, _, _, rfl, rfl, (same_upd hp3) _ _ upd_same, upd_same, ?_, fun p4 hp4 => ?_⟩
    · rw [List.length_append, ws_len, ws_len]
      exact line_of (by show ((ws.set i (wd ++ [48])).take r).length + 1 + ((ws.set i (wd ++ [48])).drop r).length ≤ 1000; rw [List.length_take, List.length_drop, List.length_set]; omega)
    refine k _ p4 i wd ((s4.to hp3).to hp4) hi hwd ((s4.to hp3).free hp4) ?_
    rw [upd_same]
    exact congrArg (fun z => some (HO.lst z)) (ws_ins r (wd ++ [49]) (ws.set i (wd ++ [48]))).symm
/-! ### changed -/
def spChanged (K : PySem.W.Frag) : Sp := fun vs H Q _ => ∃ (a b c : Addr) (ws us : List Hf.Wd) (ns : List Int), vs = [.ref a, .ref b, .ref c] ∧ SqL K H a (Ws ws) ∧ SqL K H b (Ws us) ∧ SqL K H c (Is ns) ∧ ws.length = ns.length ∧ us.length = ns.length ∧ ns.length ≤ 1000 ∧ ∀ H', Same H H' → Q (.int (Hf.chg ws us ns)) H'
theorem scChanged : FnScope ["_law_words_here", "_law_others", "_law_counts", "_law_one", "_law_two", "_law_count"] ["_law_words_here", "_law_others", "_law_counts"] (defScope sLChanged) := ⟨rfl, rfl, rfl, by decide +kernel, rfl, by decide +kernel, by decide +kernel⟩
theorem chl_len : ∀ (ws us : List Hf.Wd) (ns : List Int), (Hf.chl ws us ns).length ≤ ns.length
  | [], _, _ => Nat.zero_le _
  | _ :: _, [], _ => Nat.zero_le _
  | _ :: _, _ :: _, [] => Nat.le_refl _
  | w :: ws, v :: us, n :: ns => by
    have := chl_len ws us ns
    simp only [Hf.chl]
    split
    · simp only [List.length_cons]; omega
    · simp only [List.length_cons]; omega
theorem kChanged (A : At K mg "_law_changed" sLChanged) (B : Bi mg) : Kn P w K mg base CX0 1 "_law_changed" ["_law_words_here", "_law_others", "_law_counts"] (spChanged K) := by
  have sc := scChanged
  refine A.kn (fun f fd F => F.ok scChanged (fun vs H Q E h => ?_) (fun cdv A outer s H vs Q E hr h => ?_)) (fun _ _ _ _ _ _ us hl => match us, hl with | [_, _, _], _ => rfl)
  · obtain ⟨a, b, c, ws, us, ns, rfl, _⟩ := h
    rfl
  · obtain ⟨a, b, c, ws, us, ns, rfl, hA, hB, hC, l1, l2, l3, k⟩ := h
    refine ⟨_, (pss_one (ps_ret (pe_callB (cr_sum rfl) (by rfl) B.sum (by decide +kernel) (pa_cons (pe_lc (own := [("_law_one", 3), ("_law_two", 4), ("_law_count", 5)]) rfl sc.nd (pi_zip3 (by rfl) B.zip (pa_cons (pv 0) (pa_cons (pv 1) (pa_cons (pv 2) pa_nil)))) (blkOk_by (own := [("_law_one", 3), ("_law_two", 4), ("_law_count", 5)]) (N := ["_law_words_here", "_law_others", "_law_counts", "_law_one", "_law_two", "_law_count"]) (sc := defScope sLChanged) (by decide +kernel)) (fun _ _ _ _ _ => (pg_tupK (n := 3) K rfl rfl (pgs_cons (pg_name (i := 3) sc.nd rfl (Or.inl rfl)) (pgs_cons (pg_name (i := 4) sc.nd rfl (Or.inl rfl)) (pgs_cons (pg_name (i := 5) sc.nd rfl (Or.inl rfl)) pgs_nil))))) (fun _ _ _ _ _ => (pts_one (pt_cmpR op_ne (pv 3) (pv 4) (nomark _)))) (fun _ _ _ _ _ => (pv 5))) pa_nil)))), ?_⟩
    refine ⟨_, rfl, _, rfl, _, rfl, a, b, c, _, _, _, rfl, hA, hB, hC, fun D hD => ?_⟩
    refine lc_it (J := Itz3 K a b c) (n := ws.length) (G := fun H' => SqL K H' a (Ws ws) ∧ SqL K H' b (Ws us) ∧ SqL K H' c (Is ns)) (Y := fun i H u H' => ∃ T x y v, u = .ref T ∧ H T = none ∧ H' = upd H T (.tup [.str (sw x), .str (sw y), .int v]) ∧ ws[i]? = some x ∧ us[i]? = some y ∧ ns[i]? = some v) ?_
      (fun i H' => Same H H' ∧ H' D = some (.lst (Is (Hf.chl (ws.take i) (us.take i) (ns.take i))))) ⟨same_upd hD, by rw [upd_same]; rfl⟩ (fun i H' _ h => ⟨h.1.seq hA, h.1.seq hB, h.1.seq hC⟩) ?_ ?_
    · refine ⟨fun i H hi q => ?_, fun H q => ⟨_, q.1, by rw [ws_len]; exact Nat.le_refl _⟩, fun i H u H' hi q y => ?_⟩
      · obtain ⟨x, hx⟩ := get_of_lt hi
        obtain ⟨y, hy⟩ := get_of_lt (show i < us.length by omega)
        obtain ⟨v, hv⟩ := get_of_lt (show i < ns.length by omega)
        exact ⟨_, _, _, _, _, _, q.1, q.2.1, q.2.2, ws_get hx, ws_get hy, is_get hv⟩
      · obtain ⟨T, x, y, v, rfl, hT, rfl, f1, f2, f3⟩ := y
        obtain ⟨x', hx, rfl⟩ := ws_at (f1 _ q.1)
        obtain ⟨y', hy, rfl⟩ := ws_at (f2 _ q.2.1)
        obtain ⟨v', hv, rfl⟩ := is_at (f3 _ q.2.2)
        exact ⟨T, x', y', v', rfl, hT, rfl, hx, hy, hv⟩
    · rintro i x H' H'' hi ⟨sm, hL⟩ ⟨T, x, y, v, rfl, hT, rfl, hx, hy, hv⟩
      refine ⟨T, _, rfl, SqT.of upd_same, rfl, _, _, rfl, _, _, rfl, _, _, rfl, rfl, rfl, ?_⟩
      have hs : Hf.chl (ws.take (i + 1)) (us.take (i + 1)) (ns.take (i + 1)) = if x ≠ y then Hf.chl (ws.take i) (us.take i) (ns.take i) ++ [v] else Hf.chl (ws.take i) (us.take i) (ns.take i) := by
        rw [take_snoc hx, take_snoc hy, take_snoc hv]
        exact Hf.chl_snoc (by rw [List.length_take, List.length_take, l1]) (by rw [List.length_take, List.length_take, l2])
      refine ⟨_, rfl, _, rfl, rfl, _, rfl, ?_⟩
      by_cases e : x = y
      · rw [if_neg (fun z => z e)] at hs
        rw [show (!decide (V.str (sw x) = V.str (sw y))) = false by rw [decide_eq_true (by rw [e])]; rfl]
        exact iteF (A := True) ⟨sm.to hT, by rw [hs]; exact (same_upd hT) _ _ hL⟩
      · rw [if_pos e] at hs
        rw [show (!decide (V.str (sw x) = V.str (sw y))) = true by rw [decide_eq_false (fun z => e (sw_inj (by injection z)))]; rfl]
        refine iteT (B := True) ⟨_, rfl, _, (same_upd hT) _ _ hL, ?_, (sm.to hT).set hD, ?_⟩
        · rw [is_len]
          have := chl_len (ws.take i) (us.take i) (ns.take i)
          rw [List.length_take] at this
          exact small1000 (by omega)
        · rw [upd_same, hs]
          simp [Is]
    · rintro H' ⟨sm, hL⟩
      refine ⟨D, _, rfl, SqL.of hL, ?_⟩
      rw [List.take_length, l1, ← l2, List.take_length, l2, List.take_length]
      exact k H' sm
/-! ### struck -/
def spStruck : Sp := fun vs H Q _ => ∃ (a0 : Addr) (i b : Nat) (ws : List Hf.Wd) (a : Hf.Wd), vs = [.ref a0, .int (i : Nat)] ∧ H a0 = some (.lst (Ws ws)) ∧ ws[i]? = some (a ++ [b]) ∧ Bits ws ∧ ws.length ≤ 100 ∧ (∀ x ∈ ws, x.length ≤ 100) ∧
  ∀ H' l, Same H H' → H l = none → H' l = some (.lst (Ws ((ws.eraseIdx i).map (Hf.mv a b)))) → Q (.ref l) H'
theorem bro_val {σ : L2.St} {H : Hp} {Q : VK} {a x : Hf.Wd} {b : Nat} (h5 : σ[5]? = some (some (.str (sw x)))) (h2 : σ[2]? = some (some (.str (sw a)))) (h3 : σ[3]? = some (some (.str (sw [b])))) (hb : b = 48 ∨ b = 49) (hx : ∀ c ∈ x, c = 48 ∨ c = 49) (hsa : (sw a).length ≤ sizeLine) (hxs : (sw x).length ≤ sizeLine)
    (k : Q (.bl ((a ++ [Hf.flip b]).isPrefixOf x)) H) : tAndV (tOp (rI0 fun i j => V.bl (decide (j < i))) (tCB rLenT (tCons (tVar 5) tNil)) (tCB rLenT (tCons (tVar 2) tNil))) (tAndV (tOp rEq (tSl rSlS (tVar 5) tNoPart (tPart (tCB rLenT (tCons (tVar 2) tNil)))) (tVar 2)) (tOp rNe (tOp rIxS (tVar 5) (tCB rLenT (tCons (tVar 2) tNil))) (tVar 3))) σ H Q := by
  have bi := Hf.brother_iff (a := a) (x := x) hb hx
  refine ⟨_, h5, _, rfl, hxs, _, h2, _, rfl, hsa, _, _, rfl, rfl, _, rfl, ?_⟩
  rw [sw_len, sw_len]
  by_cases q1 : a.length < x.length
  · rw [decide_eq_true (show ((a.length : Nat) : Int) < ((x.length : Nat) : Int) by omega)]
    refine iteT ⟨_, h5, _, h2, _, rfl, hsa, _, rfl, _, rfl, hxs, _, h2, rfl, _, rfl, ?_⟩
    rw [sw_len, cutS_to]
    by_cases q2 : x.take a.length = a
    · rw [decide_eq_true (show V.str (sw (x.take a.length)) = V.str (sw a) by rw [q2])]
      obtain ⟨c, hc⟩ := get_of_lt q1
      refine iteT ⟨_, h5, _, h2, _, rfl, hsa, _, _, c, rfl, rfl, hxs, by rw [sw_len]; exact atI_nat hc, _, h3, rfl, ?_⟩
      have e : (!decide (V.str ⟨#[c]⟩ = V.str (sw [b]))) = (a ++ [Hf.flip b]).isPrefixOf x := by
        by_cases q3 : c = b
        · rw [decide_eq_true (by rw [q3]; rfl)]
          cases hp : (a ++ [Hf.flip b]).isPrefixOf x with
          | false => rfl
          | true =>
            obtain ⟨_, _, c', hc', ne⟩ := bi.mp hp
            rw [hc] at hc'
            exact absurd ((Option.some.inj hc').symm.trans q3) ne
        · rw [decide_eq_false (fun z => q3 (by rw [sw_one] at z; have := sw_inj (V.str.inj z); simpa using this)), bi.mpr ⟨q1, q2, c, hc, q3⟩]
          rfl
      rw [e]
      exact k
    · rw [decide_eq_false (show ¬ V.str (sw (x.take a.length)) = V.str (sw a) from fun z => q2 (sw_inj (V.str.inj z)))]
      have e : (a ++ [Hf.flip b]).isPrefixOf x = false := by
        cases hp : (a ++ [Hf.flip b]).isPrefixOf x with
        | false => rfl
        | true => exact absurd (bi.mp hp).2.1 q2
      rw [e] at k
      exact iteF k
  · rw [decide_eq_false (show ¬ ((a.length : Nat) : Int) < ((x.length : Nat) : Int) by omega)]
    have e : (a ++ [Hf.flip b]).isPrefixOf x = false := by
      cases hp : (a ++ [Hf.flip b]).isPrefixOf x with
      | false => rfl
      | true => exact absurd (bi.mp hp).1 q1
    rw [e] at k
    exact iteF k
theorem scStruck : FnScope ["_law_words_here", "_law_sign", "_law_above", "_law_last", "_law_found", "_law_word", "_law_is_brother"] ["_law_words_here", "_law_sign"] (defScope sLStruck) := ⟨rfl, rfl, rfl, by decide +kernel, rfl, by decide +kernel, by decide +kernel⟩
theorem kStruck (A : At K mg "_law_struck" sLStruck) (B : Bi mg) : Kn P w K mg base CX0 1 "_law_struck" ["_law_words_here", "_law_sign"] spStruck := by
  have sc := scStruck
  refine A.kn (fun f fd F => F.ok scStruck (fun vs H Q E h => ?_) (fun cdv A outer s H vs Q E hr h => ?_)) (fun _ _ _ _ _ _ us hl => match us, hl with | [_, _], _ => rfl)
  · obtain ⟨a0, i, b, ws, a, rfl, _⟩ := h
    rfl
  · obtain ⟨a0, i, b, ws, a, rfl, hA, hwd, hb, hl, hx, k⟩ := h
    refine ⟨_, (pss_cons (ps_par (i := 2) (j := 3) rfl sc.nd rfl rfl (by decide) rfl rfl (pa_cons (pe_slice sl_str (pe_ix ix_list (pv 0) (pv 1) (fun _ _ => rfl)) po_none (po_some (pe_un un_neg pe_int))) (pa_cons (pe_ix ix_str (pe_ix ix_list (pv 0) (pv 1) (fun _ _ => rfl)) (pe_un un_neg pe_int) (fun _ _ => rfl)) pa_nil)) (by rfl)) (pss_cons (ps_set (i := 4) sc.nd rfl (Or.inl rfl) (pe_lst pa_nil)) (pss_cons (ps_for PassesOwn.never rfl (pi_list (pe_op op_cat (pe_slice sl_list (pv 0) po_none (po_some (pv 1))) (pe_slice sl_list (pv 0) (po_some (pe_op op_add (pv 1) pe_int)) po_none))) (pg_name (i := 5) sc.nd rfl (Or.inl rfl))
        (pss_cons (ps_set (i := 6) sc.nd rfl (Or.inl rfl) (pe_and (pe_cmpR op_gt (pe_callB call_len_str (by rfl) B.len PySem.boot_len (pa_cons (pv 5) pa_nil)) (pe_callB call_len_str (by rfl) B.len PySem.boot_len (pa_cons (pv 2) pa_nil)) (nomark _)) (pe_and (pe_cmpR op_eq (pe_slice sl_str (pv 5) po_none (po_some (pe_callB call_len_str (by rfl) B.len PySem.boot_len (pa_cons (pv 2) pa_nil)))) (pv 2) (nomark _)) (pe_one (pe_cmpR op_ne (pe_ix ix_str (pv 5) (pe_callB call_len_str (by rfl) B.len PySem.boot_len (pa_cons (pv 2) pa_nil)) (fun _ _ => rfl)) (pv 3) (nomark _)))))) (pss_one (ps_expr (pe_bm PySem.F.plainAttrs_list PySem.F.slot_list_append PySem.F.type_list_append mt_append (pv 4) (pa_cons (pe_ifExp (pt_val (pv 6)) (pe_op op_add_str (pv 2) (pe_slice sl_str (pv 5) (po_some (pe_op op_add (pe_callB call_len_str (by rfl) B.len PySem.boot_len (pa_cons (pv 2) pa_nil)) pe_int)) po_none)) (pv 5)) pa_nil)))))) (pss_one (ps_ret (pv 4)))))), ?_⟩
    have hm := List.mem_of_getElem? hwd
    have hab := hx _ hm
    rw [List.length_append] at hab
    have hbb := hb _ hm b (by simp)
    have hal : (sw (a ++ [b])).length ≤ sizeLine := by rw [sw_len]; exact line_of (by rw [List.length_append]; omega)
    have hsa : (sw a).length ≤ sizeLine := by rw [sw_len]; exact line_of (by omega)
    refine ⟨_, rfl, _, rfl, a0, _, _, _, rfl, rfl, SqL.of hA, atI_nat (ws_get hwd), _, rfl, _, rfl, _, rfl, hal, ?_⟩
    refine ⟨_, rfl, _, rfl, a0, _, _, _, rfl, rfl, SqL.of hA, atI_nat (ws_get hwd), _, rfl, _, _, b, rfl, rfl, hal, atI_last a b, _, _, rfl, ?_⟩
    rw [cutS_init]
    refine ⟨by show 0 ≤ sizeLine; decide, fun l hl0 => ?_⟩
    have s1 : Same H (upd H l (.lst [])) := same_upd hl0
    refine ⟨_, rfl, _, rfl, _, rfl, a0, _, rfl, SqL.of (s1 _ _ hA), fun p hp => ?_⟩
    rw [cut_to, ws_take]
    have s2 := s1.to (o := .lst (Ws (ws.take i))) hp
    refine ⟨_, rfl, _, rfl, _, _, rfl, rfl, ((i + 1 : Nat) : Int), (show V.int ((i : Int) + 1) = V.int ((i + 1 : Nat) : Int) by congr 1), a0, _, rfl, SqL.of (s2 _ _ hA), fun q hq => ?_⟩
    rw [cut_from, ws_drop]
    have s3 := s2.to (o := .lst (Ws (ws.drop (i + 1)))) hq
    have er : Ws (ws.take i) ++ Ws (ws.drop (i + 1)) = Ws (ws.eraseIdx i) := by rw [List.eraseIdx_eq_take_drop_succ]; simp [Ws]
    have hel : (ws.eraseIdx i).length ≤ ws.length := List.length_eraseIdx_le _ _
    refine ⟨p, q, _, _, rfl, rfl, (same_upd hq) _ _ upd_same, upd_same, ?_, fun z hz => ?_⟩
    · rw [← List.length_append, er, ws_len]
      exact line_of (by omega)
    rw [er]
    have s4 := s3.to (o := .lst (Ws (ws.eraseIdx i))) hz
    have hll : (upd (upd (upd (upd H l (.lst [])) p (.lst (Ws (ws.take i)))) q (.lst (Ws (ws.drop (i + 1))))) z (.lst (Ws (ws.eraseIdx i)))) l = some (.lst []) := (same_upd hz) _ _ ((same_upd hq) _ _ ((same_upd hp) _ _ upd_same))
    have nzl : l ≠ z := ne_of_none ((same_upd hq) _ _ ((same_upd hp) _ _ upd_same)) hz
    have hzz := @upd_same (upd (upd (upd H l (.lst [])) p (.lst (Ws (ws.take i)))) q (.lst (Ws (ws.drop (i + 1))))) z (.lst (Ws (ws.eraseIdx i)))
    generalize upd (upd (upd (upd H l (.lst [])) p (.lst (Ws (ws.take i)))) q (.lst (Ws (ws.drop (i + 1))))) z (.lst (Ws (ws.eraseIdx i))) = H1 at s4 hll hzz
    refine ⟨z, rfl, ⟨_, SqL.of hzz⟩, ?_⟩
    refine for_it (J := Itl K z) (n := (Ws (ws.eraseIdx i)).length) (G := fun H' => SqL K H' z (Ws (ws.eraseIdx i))) (Y := YAt (Ws (ws.eraseIdx i))) walk_list (fun j σ H' => Same H H' ∧ H' z = some (.lst (Ws (ws.eraseIdx i))) ∧ H' l = some (.lst (Ws (((ws.eraseIdx i).take j).map (Hf.mv a b)))) ∧ ∃ u v, σ = [some (.ref a0), some (.int (i : Nat)), some (.str (sw a)), some (.str (sw [b])), some (.ref l), u, v])
      ⟨s4, hzz, hll, _, _, rfl⟩ (fun j σ H' _ h => SqL.of h.2.1) ?_ ?_
    · rintro j x σ H' H'' hj ⟨sm, hZ, hL, u, v, rfl⟩ ⟨rfl, hxj⟩
      obtain ⟨x, hxx, rfl⟩ := ws_at hxj
      have hxm := List.mem_of_mem_eraseIdx (List.mem_of_getElem? hxx)
      have hx100 := hx x hxm
      have hxs : (sw x).length ≤ sizeLine := by rw [sw_len]; exact line_of (by omega)
      refine bro_val (a := a) (x := x) (b := b) rfl rfl rfl hbb (hb x hxm) hsa hxs ?_
      refine ⟨_, rfl, .inl ⟨rfl, _, SqL.of hL⟩, _, rfl, _, rfl, ?_⟩
      have fin : ∀ y : Hf.Wd, y = Hf.mv a b x → (Ws (((ws.eraseIdx i).take j).map (Hf.mv a b)) ++ [.str (sw y)]) = Ws (((ws.eraseIdx i).take (j + 1)).map (Hf.mv a b)) := fun y hy => by
        rw [ws_snoc, take_snoc hxx, List.map_append, hy]
        rfl
      have hle : (Ws (((ws.eraseIdx i).take j).map (Hf.mv a b))).length < sizeLine := by
        rw [ws_len, List.length_map]
        exact small1000 (Nat.le_trans (by rw [List.length_take]; exact Nat.min_le_right _ _) (by omega))
      have nlz : z ≠ l := nzl.symm
      cases hp : (a ++ [Hf.flip b]).isPrefixOf x with
      | true =>
        refine iteT ⟨_, rfl, _, rfl, _, rfl, _, rfl, hsa, _, _, rfl, rfl, ((a.length + 1 : Nat) : Int), ?_, _, rfl, hxs, ?_⟩
        · show V.int (((sw a).length : Nat) + 1) = _
          rw [sw_len]
          congr 1
        rw [cutS_from]
        refine ⟨_, _, rfl, rfl, by rw [sw_len, sw_len]; exact line_of (by rw [List.length_drop]; omega), ?_⟩
        rw [sw_app]
        refine ⟨_, _, _, rfl, rfl, hL, hle, sm.set hl0, by rw [upd_ne nlz]; exact hZ, ?_, _, _, rfl⟩
        rw [upd_same, fin (a ++ x.drop (a.length + 1)) (by unfold Hf.mv; rw [if_pos hp])]
      | false =>
        refine iteF ⟨_, rfl, _, _, _, rfl, rfl, hL, hle, sm.set hl0, by rw [upd_ne nlz]; exact hZ, ?_, _, _, rfl⟩
        rw [upd_same, fin x (by unfold Hf.mv; rw [hp]; rfl)]
    · rintro σ H2 ⟨sm, hZ, hL, u, v, rfl⟩
      rw [ws_len, List.take_length] at hL
      exact ⟨_, rfl, k H2 l sm hl0 hL⟩
end
end Wv
set_option Elab.async false
set_option linter.all false
set_option maxRecDepth 100000
set_option maxHeartbeats 2000000
namespace Wv
open PySem PySem.Spec PyProof.Rows L2 TL
section
variable {P : Program} {w : World} {K : PySem.W.Frag} {mg : Str → Option Value} {base : Heap} {R : EA} {C : Addr}
/-! ### some_counts -/
/-- a comprehension of n draws -/
theorem lc_cnt {te : TE} {p ca D : Addr} {n c k : Nat} {H : Hp} {σ : L2.St} {s : Nat} {Qd : Hp → Prop} (hn : n ≤ 100) (hP : Pen p ca (k + c * n) H) (hD : H D = none)
    (he : ∀ (x : V) (j : Nat) (H1 : Hp) (Q : VK), Pen p ca (j + c) H1 → (∀ (H2 : Hp) (m : Int), But p H1 H2 → Pen p ca j H2 → 0 ≤ m → Q (.int m) H2) → te ((wipe σ [s]).set s (some x)) H1 Q)
    (hd : ∀ (H' : Hp) (ns : List Int), But p H H' → Pen p ca k H' → H' D = some (.lst (Is ns)) → ns.length = n → (∀ x ∈ ns, 0 ≤ x) → Qd H') :
    ∃ W : Nat → Nat → Hp → Prop, (∃ m, W 0 m (upd H D (.lst []))) ∧ ∀ j m H, W j m H →
      ((Itr 0 n).stop j H ∧ Qd H) ∨ ((Itr 0 n).go j H ∧ ∃ Nx : Hp → Prop, (∀ H', Nx H' → ∃ m', m' < m ∧ W (j + 1) m' H') ∧ ∀ x H', (Itr 0 n).yld j H x H' → gName s x (wipe σ [s]) H' fun σ2 H2 => wipe σ2 [s] = wipe σ [s] ∧ tYes σ2 H2 fun b H3 =>
        if b = true then te σ2 H3 fun y H4 => ∃ acc, H4 D = some (.lst acc) ∧ acc.length < sizeLine ∧ Nx (upd H4 D (.lst (acc ++ [y]))) else Nx H3) := by
  refine lc_it (walk_range (lo := 0) (n := n)) (fun i H' => i ≤ n ∧ But p H H' ∧ Pen p ca (k + c * (n - i)) H' ∧ ∃ ns : List Int, H' D = some (.lst (Is ns)) ∧ ns.length = i ∧ ∀ x ∈ ns, 0 ≤ x)
    ⟨Nat.zero_le _, But.of (same_upd hD), hP.upd (hP.nof hD), [], upd_same, rfl, fun x hx => by cases hx⟩ (fun _ _ _ _ => True.intro) ?_ ?_
  · rintro i x H' H'' hi ⟨_, b, hP', ns, hL, hl, h0⟩ ⟨rfl, rfl⟩
    refine ⟨by rw [wipe1, wipe1, List.set_set, List.set_set], iteT (B := True) ?_⟩
    have e : k + c * (n - i) = (k + c * (n - (i + 1))) + c := by
      have : n - i = (n - (i + 1)) + 1 := by omega
      rw [this, Nat.mul_add]
      omega
    rw [e] at hP'
    refine he _ _ _ _ hP' fun H2 m b2 hP2 hm => ?_
    have nD := (hP.nof hD)
    refine ⟨_, b2 _ _ nD.1 hL, by rw [is_len]; exact small1000 (by omega), hi, (b.trans b2).set hD, hP2.upd nD, ns ++ [m], ?_, by rw [List.length_append]; show ns.length + 1 = i + 1; omega, fun x hx => ?_⟩
    · rw [upd_same]
      simp [Is]
    · rcases List.mem_append.mp hx with q | q
      · exact h0 x q
      · rw [List.mem_singleton.mp q]
        exact hm
  · rintro H' ⟨_, b, hP', ns, hL, hl, h0⟩
    rw [Nat.sub_self, Nat.mul_zero, Nat.add_zero] at hP'
    exact hd H' ns b hP' hL hl h0
def spSomeCounts : Sp := fun vs H Q _ => ∃ (p ca : Addr) (k n : Nat), vs = [.ref p, .int (n : Nat)] ∧ n ≤ 100 ∧ Pen p ca (k + 2 * n + 1) H ∧
  ∀ H' l (ns : List Int), But p H H' → Pen p ca k H' → H l = none → H' l = some (.lst (Is ns)) → ns.length = n → (∀ x ∈ ns, 0 ≤ x) → Q (.ref l) H'
theorem scSomeCounts : FnScope ["_law_pen", "_law_many", "_law_kind", "_law_sign"] ["_law_pen", "_law_many"] (defScope sLSomeCounts) := ⟨rfl, rfl, rfl, by decide +kernel, rfl, by decide +kernel, by decide +kernel⟩
theorem kSomeCounts (A : At K mg "_law_some_counts" sLSomeCounts) (B : Bi mg) (D : Kn P w K mg base CX0 1 "_law_draw" ["_law_pen", "_law_many"] spDraw) (D2 : Kn P w K mg base CX0 2 "_law_pick" ["_law_pen", "_law_items"] spPick) : Kn P w K mg base CX0 3 "_law_some_counts" ["_law_pen", "_law_many"] spSomeCounts := by
  have sc := scSomeCounts
  refine A.kn (fun f fd F => F.ok scSomeCounts (fun vs H Q E h => ?_) (fun cdv A outer s H vs Q E hr h => ?_)) (fun _ _ _ _ _ _ us hl => match us, hl with | [_, _], _ => rfl)
  · obtain ⟨p, ca, k, n, rfl, _⟩ := h
    rfl
  · obtain ⟨p, ca, kk, n, rfl, hn, hP, k⟩ := h
    refine ⟨_, (pss_cons (ps_set (i := 2) sc.nd rfl (Or.inl rfl) (pe_kn D (hr.mono (by decide)) pass0 (pa_cons (pv 0) (pa_cons pe_int pa_nil)))) (pss_cons (ps_if (pt_cmpR op_eq (pv 2) pe_int (nomark _)) (pss_one (ps_ret (pe_lc (own := [("_law_sign", 3)]) rfl sc.nd (pi_range1 (by rfl) B.range (pa_cons (pv 1) pa_nil)) (blkOk_by (own := [("_law_sign", 3)]) (N := ["_law_pen", "_law_many", "_law_kind", "_law_sign"]) (sc := defScope sLSomeCounts) (by decide +kernel)) (fun _ _ _ _ _ => (pg_name (i := 3) sc.nd rfl (Or.inl rfl))) (fun _ _ _ _ _ => pts_nil) (fun _ _ _ _ _ => (pe_kn D (hr.mono (by decide)) pass0 (pa_cons (pv 0) (pa_cons pe_int pa_nil))))))) pss_nil) (pss_cons (ps_if (pt_cmpR op_eq (pv 2) pe_int (nomark _)) (pss_one (ps_ret (pe_lc (own := [("_law_sign", 3)]) rfl sc.nd (pi_range1 (by rfl) B.range (pa_cons (pv 1) pa_nil)) (blkOk_by (own := [("_law_sign", 3)]) (N := ["_law_pen", "_law_many", "_law_kind", "_law_sign"]) (sc := defScope sLSomeCounts) (by decide +kernel)) (fun _ _ _ _ _ => (pg_name (i := 3) sc.nd rfl (Or.inl rfl))) (fun _ _ _ _ _ => pts_nil) (fun _ _ _ _ _ => (pe_kn D (hr.mono (by decide)) pass0 (pa_cons (pv 0) (pa_cons pe_int pa_nil))))))) pss_nil) (pss_cons (ps_if (pt_cmpR op_eq (pv 2) pe_int (nomark _)) (pss_one (ps_ret (pe_lc (own := [("_law_sign", 3)]) rfl sc.nd (pi_range1 (by rfl) B.range (pa_cons (pv 1) pa_nil)) (blkOk_by (own := [("_law_sign", 3)]) (N := ["_law_pen", "_law_many", "_law_kind", "_law_sign"]) (sc := defScope sLSomeCounts) (by decide +kernel)) (fun _ _ _ _ _ => (pg_name (i := 3) sc.nd rfl (Or.inl rfl))) (fun _ _ _ _ _ => pts_nil) (fun _ _ _ _ _ => (pe_kn D2 (hr.mono (by decide)) pass0 (pa_cons (pv 0) (pa_cons (pe_lst (pa_cons pe_int (pa_cons pe_int (pa_cons pe_int (pa_cons pe_int (pa_cons pe_int (pa_cons pe_int pa_nil))))))) pa_nil))))))) pss_nil) (pss_one (ps_ret (pe_lc (own := [("_law_sign", 3)]) rfl sc.nd (pi_range1 (by rfl) B.range (pa_cons (pv 1) pa_nil)) (blkOk_by (own := [("_law_sign", 3)]) (N := ["_law_pen", "_law_many", "_law_kind", "_law_sign"]) (sc := defScope sLSomeCounts) (by decide +kernel)) (fun _ _ _ _ _ => (pg_name (i := 3) sc.nd rfl (Or.inl rfl))) (fun _ _ _ _ _ => pts_nil) (fun _ _ _ _ _ => (pe_op op_add (pe_op op_mul (pe_kn D (hr.mono (by decide)) pass0 (pa_cons (pv 0) (pa_cons pe_int pa_nil))) (pe_op op_pow pe_int pe_int)) (pe_kn D (hr.mono (by decide)) pass0 (pa_cons (pv 0) (pa_cons pe_int pa_nil)))))))))))), ?_⟩
    refine ⟨_, rfl, p, ca, 4, kk + 2 * n, rfl, by decide, by decide, hP, fun H1 r b1 hP1 hr4 => ?_⟩
    refine ⟨_, rfl, rfl, _, rfl, ?_⟩
    have fin : ∀ (D' : Addr), H1 D' = none → ∀ (H' : Hp) (ns : List Int), But p H1 H' → Pen p ca kk H' → H' D' = some (.lst (Is ns)) → ns.length = n → (∀ x ∈ ns, 0 ≤ x) → Q (.ref D') H' := fun D' hD H' ns b hp h1 h2 h3 => k H' D' ns (b1.trans b) hp (b1.free hP1.at hD) h1 h2 h3
    by_cases r0 : r = 0
    · rw [decide_eq_true (show V.int (r : Nat) = V.int 0 by rw [r0]; rfl)]
      refine iteT ⟨_, rfl, (n : Nat), rfl, by omega, by omega, fun D' hD => ?_⟩
      refine lc_cnt (n := n) (c := 1) (k := kk) (p := p) (ca := ca) hn (hP1.mono (by omega)) hD (fun x j H2 Q' hp q => ?_) (fin D' hD)
      exact ⟨_, rfl, p, ca, 3, j, rfl, by decide, by decide, hp, fun H3 r b hp3 _ => q H3 (r : Nat) b hp3 (by omega)⟩
    rw [decide_eq_false (show ¬ V.int (r : Nat) = V.int 0 by intro z; injection z with z; omega)]
    refine iteF ⟨_, rfl, rfl, _, rfl, ?_⟩
    by_cases r1 : r = 1
    · rw [decide_eq_true (show V.int (r : Nat) = V.int 1 by rw [r1]; rfl)]
      refine iteT ⟨_, rfl, (n : Nat), rfl, by omega, by omega, fun D' hD => ?_⟩
      refine lc_cnt (n := n) (c := 1) (k := kk) (p := p) (ca := ca) hn (hP1.mono (by omega)) hD (fun x j H2 Q' hp q => ?_) (fin D' hD)
      exact ⟨_, rfl, p, ca, 12, j, rfl, by decide, by decide, hp, fun H3 r b hp3 _ => q H3 (r : Nat) b hp3 (by omega)⟩
    rw [decide_eq_false (show ¬ V.int (r : Nat) = V.int 1 by intro z; injection z with z; omega)]
    refine iteF ⟨_, rfl, rfl, _, rfl, ?_⟩
    by_cases r2 : r = 2
    · rw [decide_eq_true (show V.int (r : Nat) = V.int 2 by rw [r2]; rfl)]
      refine iteT ⟨_, rfl, (n : Nat), rfl, by omega, by omega, fun D' hD => ?_⟩
      refine lc_cnt (n := n) (c := 1) (k := kk) (p := p) (ca := ca) hn (hP1.mono (by omega)) hD (fun x j H2 Q' hp q => ?_) (fin D' hD)
      refine ⟨_, rfl, by show 6 ≤ sizeLine; decide, fun z hz => ⟨p, ca, z, j, _, rfl, upd_same, by show 0 < 6; decide, by show 6 < 1000; decide, hp.upd (hp.nof hz), fun H3 v b hp3 hv => ?_⟩⟩
      have b2 : But p H2 H3 := (But.of (same_upd hz)).trans b
      simp only [List.mem_cons, List.not_mem_nil, or_false] at hv
      rcases hv with rfl | rfl | rfl | rfl | rfl | rfl
      all_goals exact q H3 _ b2 hp3 (by decide)
    rw [decide_eq_false (show ¬ V.int (r : Nat) = V.int 2 by intro z; injection z with z; omega)]
    refine iteF ⟨_, rfl, (n : Nat), rfl, by omega, by omega, fun D' hD => ?_⟩
    refine lc_cnt (n := n) (c := 2) (k := kk) (p := p) (ca := ca) hn (hP1.mono (by omega)) hD (fun x j H2 Q' hp q => ?_) (fin D' hD)
    refine ⟨_, rfl, p, ca, 4, j + 1, rfl, by decide, by decide, hp, fun H3 r b hp3 _ => ?_⟩
    refine ⟨_, _, rfl, rfl, ⟨by decide, by decide, by decide⟩, _, _, rfl, rfl, .inl ⟨by omega, by omega⟩, ?_⟩
    refine ⟨_, rfl, p, ca, 5, j, rfl, by decide, by decide, hp3, fun H4 r' b' hp4 _ => ?_⟩
    exact ⟨_, _, rfl, rfl, q H4 _ (b.trans b') hp4 (Int.add_nonneg (Int.mul_nonneg (by omega) (Int.pow_nonneg (by decide))) (by omega))⟩
/-! ### words -/
theorem full_len {ws : List Hf.Wd} (h : Hf.Full ws) : 2 ≤ ws.length := h.choose_spec.2
theorem full_bits {ws : List Hf.Wd} (h : Hf.Full ws) : Bits ws := fun _ hx => h.bits hx
def spWords : Sp := fun vs H Q _ => ∃ (p ca : Addr) (k n : Nat), vs = [.ref p, .int (n : Nat)] ∧ 2 ≤ n ∧ n ≤ 50 ∧ Pen p ca (k + 2 * n) H ∧
  ∀ H' l (ws : List Hf.Wd), But p H H' → Pen p ca k H' → H l = none → H' l = some (.lst (Ws ws)) → Hf.Full ws → ws.length = n → Q (.ref l) H'
theorem scWords : FnScope ["_law_pen", "_law_many", "_law_found", "_law_word"] ["_law_pen", "_law_many"] (defScope sLWords) := ⟨rfl, rfl, rfl, by decide +kernel, rfl, by decide +kernel, by decide +kernel⟩
theorem kWords (A : At K mg "_law_words" sLWords) (B : Bi mg) (D : Kn P w K mg base CX0 1 "_law_draw" ["_law_pen", "_law_many"] spDraw) (D2 : Kn P w K mg base CX0 2 "_law_shuffled" ["_law_pen", "_law_items"] spShuffled) : Kn P w K mg base CX0 3 "_law_words" ["_law_pen", "_law_many"] spWords := by
  have sc := scWords
  refine A.kn (fun f fd F => F.ok scWords (fun vs H Q E h => ?_) (fun cdv A outer s H vs Q E hr h => ?_)) (fun _ _ _ _ _ _ us hl => match us, hl with | [_, _], _ => rfl)
  · obtain ⟨p, ca, k, n, rfl, _⟩ := h
    rfl
  · obtain ⟨p, ca, kk, n, rfl, hn2, hn, hP, k⟩ := h
    refine ⟨_, (pss_cons (ps_set (i := 2) sc.nd rfl (Or.inl rfl) (pe_lst (pa_cons pe_str (pa_cons pe_str pa_nil)))) (pss_cons (ps_while PassesOwn.never (pt_cmpR op_lt (pe_callB call_len_seq (by rfl) B.len PySem.boot_len (pa_cons (pv 2) pa_nil)) (pv 1) (nomark _)) (pss_cons (ps_set (i := 3) sc.nd rfl (Or.inl rfl) (pe_bm PySem.F.plainAttrs_list PySem.F.slot_list_pop PySem.F.type_list_pop mt_popAt (pv 2) (pa_cons (pe_kn D (hr.mono (by decide)) pass0 (pa_cons (pv 0) (pa_cons (pe_callB call_len_seq (by rfl) B.len PySem.boot_len (pa_cons (pv 2) pa_nil)) pa_nil))) pa_nil))) (pss_one (ps_set (i := 2) sc.nd rfl (Or.inl rfl) (pe_op op_cat (pv 2) (pe_lst (pa_cons (pe_op op_add_str (pv 3) pe_str) (pa_cons (pe_op op_add_str (pv 3) pe_str) pa_nil)))))))) (pss_one (ps_ret (pe_kn D2 hr pass0 (pa_cons (pv 0) (pa_cons (pv 2) pa_nil))))))), ?_⟩
    refine ⟨by show 2 ≤ sizeLine; decide, fun l0 hl0 => ?_⟩
    have e0 : [V.str "0", V.str "1"] = Ws [[48], [49]] := by rw [sw0, sw1]; rfl
    rw [e0]
    refine while_by (fun σ H' => ∃ (l : Addr) (us : List Hf.Wd) (u : Option V), σ = [some (.ref p), some (.int (n : Nat)), some (.ref l), u] ∧ But p H H' ∧ H l = none ∧ H' l = some (.lst (Ws us)) ∧ Hf.Full us ∧ us.length ≤ n ∧ Pen p ca (kk + n + (n - us.length)) H')
      (fun σ H' => match σ with | _ :: _ :: some (.ref l) :: _ => (match H' l with | some (.lst xs) => n - xs.length | _ => 0) | _ => 0)
      ⟨l0, [[48], [49]], none, rfl, But.of (same_upd hl0), hl0, upd_same, Hf.full_two, hn2, (hP.mono (by show kk + n + (n - 2) ≤ _; omega)).upd (hP.nof hl0)⟩ ?_ ?_
    · rintro σ H1 ⟨l, us, u, rfl, b, hl0', hL, hF, hle, hP1⟩
      refine ⟨_, rfl, l, _, rfl, .inl (SqL.of hL), _, rfl, _, _, rfl, rfl, _, rfl, ?_⟩
      rw [ws_len]
      by_cases q : us.length < n
      · rw [decide_eq_true (show ((us.length : Nat) : Int) < (n : Nat) by omega)]
        have f2 := full_len hF
        refine iteT ⟨_, rfl, .inl ⟨rfl, _, SqL.of hL⟩, _, rfl, _, rfl, l, _, rfl, .inl (SqL.of hL), p, ca, us.length, kk + n + (n - (us.length + 1)), by rw [ws_len]; rfl, by omega, by omega, hP1.mono (by omega), fun H2 j b2 hP2 hj => ?_⟩
        have hL2 := b2 _ _ (hP.nof hl0').1 hL
        obtain ⟨x, hx⟩ := get_of_lt hj
        have hxs := hF.short (List.mem_of_getElem? hx)
        refine ⟨l, _, _, j, _, rfl, rfl, hL2, by omega, by omega, by rw [ws_len]; exact seqIx hj, ws_get hx, ?_⟩
        rw [ws_erase]
        refine ⟨_, rfl, _, rfl, _, _, rfl, rfl, by rw [sw_len]; exact line_of (by show x.length + 1 ≤ 1000; omega), _, rfl, _, _, rfl, rfl, by rw [sw_len]; exact line_of (by show x.length + 1 ≤ 1000; omega), by show 2 ≤ sizeLine; decide, fun z hz => ?_⟩
        rw [sw0, sw1, sw_app, sw_app]
        have el : (us.eraseIdx j).length + 1 = us.length := by
          have := (Hf.perm_erase hx).length_eq
          rw [List.length_cons] at this
          omega
        refine ⟨l, z, _, _, rfl, rfl, (same_upd hz) _ _ upd_same, upd_same, by rw [ws_len]; exact line_of (by show (us.eraseIdx j).length + 2 ≤ 1000; omega), fun l2 hl2 => ?_⟩
        have e2 : Ws (us.eraseIdx j) ++ [V.str (sw (x ++ [48])), V.str (sw (x ++ [49]))] = Ws (us.eraseIdx j ++ [x ++ [48], x ++ [49]]) := by simp [Ws]
        rw [e2]
        have bb : But p H (upd (upd (upd H2 l (.lst (Ws (us.eraseIdx j)))) z (.lst [.str (sw (x ++ [48])), .str (sw (x ++ [49]))])) l2 (.lst (Ws (us.eraseIdx j ++ [x ++ [48], x ++ [49]])))) :=
          (((b.trans b2).set hl0').trans (But.of (same_upd hz))).trans (But.of (same_upd hl2))
        have pp := (((hP2.upd (hP.nof hl0')).up (same_upd (o := .lst [.str (sw (x ++ [48])), .str (sw (x ++ [49]))]) hz)).up (same_upd (o := .lst (Ws (us.eraseIdx j ++ [x ++ [48], x ++ [49]]))) hl2))
        have bz := ((b.trans b2).set (o := .lst (Ws (us.eraseIdx j))) hl0').trans (But.of (same_upd (o := .lst [.str (sw (x ++ [48])), .str (sw (x ++ [49]))]) hz))
        have hl20 : H l2 = none := bz.free ((hP2.upd (hP.nof hl0')).up (same_upd (o := .lst [.str (sw (x ++ [48])), .str (sw (x ++ [49]))]) hz)).at hl2
        refine ⟨⟨l2, us.eraseIdx j ++ [x ++ [48], x ++ [49]], _, rfl, bb, hl20, upd_same, (hF.split (Hf.perm_erase hx)).perm ?_, by simp; omega, pp.mono (by simp; omega)⟩, ?_⟩
        · exact (List.perm_append_comm (l₁ := us.eraseIdx j) (l₂ := [x ++ [48], x ++ [49]])).symm
        · show (match (upd _ l2 (.lst (Ws (us.eraseIdx j ++ [x ++ [48], x ++ [49]])))) l2 with | some (.lst xs) => n - xs.length | _ => 0) < (match H1 l with | some (.lst xs) => n - xs.length | _ => 0)
          rw [upd_same, hL]
          show n - (Ws (us.eraseIdx j ++ [x ++ [48], x ++ [49]])).length < n - (Ws us).length
          rw [ws_len, ws_len]
          simp
          omega
      · rw [decide_eq_false (show ¬ ((us.length : Nat) : Int) < (n : Nat) by omega)]
        have en : us.length = n := by omega
        refine iteF ⟨_, rfl, _, rfl, p, ca, l, kk, us, rfl, hL, full_bits hF, by omega, hP1.mono (by omega), fun H2 l2 ys b2 hP2 pm hl2 hL2 => ?_⟩
        exact k H2 l2 ys (b.trans b2) hP2 (b.free hP1.at hl2) hL2 (hF.perm pm.symm) (by rw [pm.length_eq]; exact en)
    · rintro σ H' Q1 Q2 hq ⟨v, e1, p, ys, e2, e3, v2, e4, i, j, e5, e6, kk, e7, q⟩
      exact ⟨v, e1, p, ys, e2, e3, v2, e4, i, j, e5, e6, kk, e7, hq _ _ q⟩
/-! ### code -/
theorem scLCode : FnScope ["_law_words_here", "_law_word"] ["_law_words_here"] (defScope sLCode) := ⟨rfl, rfl, rfl, by decide +kernel, rfl, by decide +kernel, by decide +kernel⟩
theorem kLCode (A : At K mg "_law_code" sLCode) (B : Bi mg) (D : CdOk P w K mg base C) : Kn P w K mg base CX0 6 "_law_code" ["_law_words_here"] (spCodeOf C) := by
  have sc := scLCode
  refine A.kn (fun f fd F => F.ok scLCode (fun vs H Q E h => ?_) (fun cdv A outer s H vs Q E hr h => ?_)) (fun _ _ _ _ _ _ us hl => match us, hl with | [_], _ => rfl)
  · obtain ⟨wl, ws, rfl, _⟩ := h
    rfl
  · obtain ⟨wl, ws, rfl, hw, hF, h60, k⟩ := h
    refine ⟨_, (pss_one (ps_ret (pe_cd (E := E0) D hr (pa_cons (pe_lc (own := [("_law_word", 1)]) rfl sc.nd (pi_list (pv 0)) (blkOk_by (own := [("_law_word", 1)]) (N := ["_law_words_here", "_law_word"]) (sc := defScope sLCode) (by decide +kernel)) (fun _ _ _ _ _ => (pg_name (i := 1) sc.nd rfl (Or.inl rfl))) (fun _ _ _ _ _ => pts_nil) (fun _ _ _ _ _ => (pe_callB call_len_str (by rfl) B.len PySem.boot_len (pa_cons (pv 1) pa_nil)))) (pa_cons (pv 0) pa_nil))))), ?_⟩
    refine ⟨_, rfl, wl, rfl, ⟨_, SqL.of hw⟩, fun D hD => ?_⟩
    refine lc_lens (Nat.lt_succ_self 1) (SqL.of hw) (by omega) (fun x hx => by have := hF.short hx; omega) hD fun H1 s1 h1 => ⟨_, rfl, ?_⟩
    exact mk_cd h1 (s1 _ _ hw) hF h60 fun H' c s2 hc => k H' c (s1.trans s2) hc
end
end Wv
set_option Elab.async false
set_option linter.all false
set_option maxRecDepth 100000
set_option maxHeartbeats 2000000
namespace Wv
open PySem PySem.Spec PyProof.Rows L2 TL
section
variable {P : Program} {w : World} {K : PySem.W.Frag} {mg : Str → Option Value} {base : Heap} {R : EA} {C : Addr}
/-! ### near_counts -/
def spNear : Sp := fun vs H Q _ => ∃ (p ca a : Addr) (k : Nat) (ls : List Int), vs = [.ref p, .ref a] ∧ H a = some (.lst (Is ls)) ∧ 0 < ls.length ∧ ls.length ≤ 60 ∧ (∀ x ∈ ls, 0 ≤ x ∧ x ≤ 1000) ∧ Pen p ca (k + 2 * ls.length + 20) H ∧
  ∀ H' l (ns : List Int), But p H H' → Pen p ca k H' → H l = none → H' l = some (.lst (Is ns)) → ns.length = ls.length → (∀ x ∈ ns, 0 ≤ x) → Q (.ref l) H'
theorem scNear : FnScope ["_law_pen", "_law_lengths", "_law_way", "_law_found", "_law_length", "_law_count", "_law_turn", "_law_at"] ["_law_pen", "_law_lengths"] (defScope sLNearCounts) := ⟨rfl, rfl, rfl, by decide +kernel, rfl, by decide +kernel, by decide +kernel⟩
theorem kNear (A : At K mg "_law_near_counts" sLNearCounts) (B : Bi mg) (D : Kn P w K mg base CX0 1 "_law_draw" ["_law_pen", "_law_many"] spDraw) (D2 : Kn P w K mg base CX0 2 "_law_pick" ["_law_pen", "_law_items"] spPick)
    (D3 : Kn P w K mg base CX0 3 "_law_some_counts" ["_law_pen", "_law_many"] spSomeCounts) : Kn P w K mg base CX0 4 "_law_near_counts" ["_law_pen", "_law_lengths"] spNear := by
  have sc := scNear
  refine A.kn (fun f fd F => F.ok scNear (fun vs H Q E h => ?_) (fun cdv A outer s H vs Q E hr h => ?_)) (fun _ _ _ _ _ _ us hl => match us, hl with | [_, _], _ => rfl)
  · obtain ⟨p, ca, a, k, ls, rfl, _⟩ := h
    rfl
  · obtain ⟨p, ca, a, kk, ls, rfl, hA, h0, h60, hx, hP, k⟩ := h
    refine ⟨_, (pss_cons (ps_par (i := 2) (j := 3) rfl sc.nd rfl rfl (by decide) rfl rfl (pa_cons (pe_kn D (hr.mono (by decide)) pass0 (pa_cons (pv 0) (pa_cons pe_int pa_nil))) (pa_cons (pe_lst pa_nil) pa_nil)) (by rfl)) (pss_cons (ps_if (pt_cmpR op_eq (pv 2) pe_int (nomark _)) (pss_one (ps_ret (pe_kn D3 hr pass0 (pa_cons (pv 0) (pa_cons (pe_callB call_len_seq (by rfl) B.len PySem.boot_len (pa_cons (pv 1) pa_nil)) pa_nil))))) pss_nil) (pss_cons (ps_for PassesOwn.never rfl (pi_list (pv 1)) (pg_name (i := 4) sc.nd rfl (Or.inl rfl)) (pss_cons (ps_set (i := 5) sc.nd rfl (Or.inl rfl) pe_int) (pss_cons (ps_for PassesOwn.never rfl (pi_range1 (by rfl) B.range (pa_cons (pe_op op_sub (pe_callB (cr_max rfl) (by rfl) B.max (by decide +kernel) (pa_cons (pv 1) pa_nil)) (pv 4)) pa_nil)) (pg_name (i := 6) sc.nd rfl (Or.inl rfl)) (pss_one (ps_set (i := 5) sc.nd rfl (Or.inl rfl) (pe_op op_mul (pv 5) pe_int)))) (pss_one (ps_expr (pe_bm PySem.F.plainAttrs_list PySem.F.slot_list_append PySem.F.type_list_append mt_append (pv 3) (pa_cons (pv 5) pa_nil))))))) (pss_cons (ps_for PassesOwn.never rfl (pi_range1 (by rfl) B.range (pa_cons (pe_kn D (hr.mono (by decide)) pass0 (pa_cons (pv 0) (pa_cons pe_int pa_nil))) pa_nil)) (pg_name (i := 6) sc.nd rfl (Or.inl rfl)) (pss_cons (ps_set (i := 7) sc.nd rfl (Or.inl rfl) (pe_kn D (hr.mono (by decide)) pass0 (pa_cons (pv 0) (pa_cons (pe_callB call_len_seq (by rfl) B.len PySem.boot_len (pa_cons (pv 3) pa_nil)) pa_nil)))) (pss_one (ps_asg (pe_callB (call_max2 rfl) (by rfl) B.max (by decide +kernel) (pa_cons pe_int (pa_cons (pe_op op_add (pe_ix ix_list (pv 3) (pv 7) (fun _ _ => rfl)) (pe_kn D2 (hr.mono (by decide)) pass0 (pa_cons (pv 0) (pa_cons (pe_lst (pa_cons (pe_un un_neg pe_int) (pa_cons pe_int (pa_cons pe_int (pa_cons pe_int pa_nil))))) pa_nil)))) pa_nil))) (pg_sub (pv 3) (pv 7) set_list))))) (pss_one (ps_ret (pv 3))))))), ?_⟩
    refine ⟨_, rfl, p, ca, 4, kk + 2 * ls.length + 19, rfl, by decide, by decide, hP, fun H1 r b1 hP1 hr4 => ⟨by show 0 ≤ sizeLine; decide, fun l hl => ⟨_, _, rfl, ?_⟩⟩⟩
    have bl : But p H (upd H1 l (.lst [])) := b1.trans (But.of (same_upd hl))
    have hl0 : H l = none := b1.free hP1.at hl
    have hP2 := hP1.up (same_upd (o := .lst []) hl)
    have hll := @upd_same H1 l (.lst [])
    generalize upd H1 l (.lst []) = H2 at bl hP2 hll
    have hA2 := bl _ _ (hP.ne hA) hA
    refine ⟨_, rfl, rfl, _, rfl, ?_⟩
    by_cases r0 : r = 0
    · rw [decide_eq_true (show V.int (r : Nat) = V.int 0 by rw [r0]; rfl)]
      refine iteT ⟨_, rfl, _, rfl, a, _, rfl, .inl (SqL.of hA2), p, ca, kk, ls.length, by rw [is_len]; rfl, by omega, hP2.mono (by omega), fun H' l' ns b hp h1 h2 h3 h4 => ?_⟩
      exact k H' l' ns (bl.trans b) hp (bl.free hP2.at h1) h2 h3 h4
    rw [decide_eq_false (show ¬ V.int (r : Nat) = V.int 0 by intro z; injection z with z; omega)]
    refine iteF ⟨_, rfl, a, rfl, ⟨_, SqL.of hA2⟩, ?_⟩
    refine for_it (J := Itl K a) (n := (Is ls).length) (G := fun H' => SqL K H' a (Is ls)) (Y := YAt (Is ls)) walk_list (fun i σ H' => But p H H' ∧ Pen p ca (kk + 19) H' ∧ H' a = some (.lst (Is ls)) ∧ ∃ (ns : List Int) (u4 u5 u6 : Option V), H' l = some (.lst (Is ns)) ∧ ns.length = i ∧ (∀ x ∈ ns, 0 ≤ x) ∧ σ = [some (.ref p), some (.ref a), some (.int (r : Nat)), some (.ref l), u4, u5, u6, none])
      ⟨bl, hP2.mono (by omega), hA2, [], _, _, _, hll, rfl, fun x hx => by (cases hx), rfl⟩ (fun i σ H' _ h => SqL.of h.2.2.1) ?_ ?_
    · rintro i x σ H' H'' hi ⟨b, hp, hA', ns, u4, u5, u6, hL, hn, hz, rfl⟩ ⟨rfl, hxi⟩
      obtain ⟨n, hni, rfl⟩ := is_at hxi
      have nal : a ≠ l := ne_of_none hA hl0
      refine ⟨_, rfl, a, ls, rfl, SqL.of hA', h0, fun m hm hmax => ⟨_, rfl, _, _, rfl, rfl, _, rfl, ?_, ?_, ?_⟩⟩
      · have := hx m hm
        have := hx n (List.mem_of_getElem? hni)
        omega
      · have := hx m hm
        have := hx n (List.mem_of_getElem? hni)
        omega
      · refine for_it (J := Itr 0 (m - n).toNat) (n := (m - n).toNat) (G := fun _ => True) (Y := YFn fun i => .int (0 + i)) walk_range (fun j σ H3 => H3 = H'' ∧ ∃ (c : Int) (u : Option V), 0 ≤ c ∧ σ = [some (.ref p), some (.ref a), some (.int (r : Nat)), some (.ref l), some (.int n), some (.int c), u, none])
          ⟨rfl, 1, _, by decide, rfl⟩ (fun _ _ _ _ _ => True.intro) ?_ ?_
        · rintro j y σ H3 H4 hj ⟨rfl, c, u, hc, rfl⟩ ⟨rfl, rfl⟩
          exact ⟨_, rfl, _, _, rfl, rfl, .inr ⟨by decide, by decide⟩, rfl, c * 2, _, by omega, rfl⟩
        · rintro σ H3 ⟨rfl, c, u, hc, rfl⟩
          refine ⟨_, rfl, .inl ⟨rfl, _, SqL.of hL⟩, _, rfl, _, _, _, rfl, rfl, hL, by rw [is_len]; exact small1000 (by rw [is_len] at hi; omega), b.set hl0, hp.upd (hP.nof hl0), by rw [upd_ne nal]; exact hA', ns ++ [c], _, _, _, ?_, by simp [hn], fun x hx => ?_, rfl⟩
          · rw [upd_same]
            simp [Is]
          · rcases List.mem_append.mp hx with q | q
            · exact hz x q
            · rw [List.mem_singleton.mp q]
              exact hc
    · rintro σ H3 ⟨b, hp, hA', ns, u4, u5, u6, hL, hn, hz, rfl⟩
      rw [is_len] at hn
      refine ⟨_, rfl, p, ca, 4, kk + 18, rfl, by decide, by decide, hp, fun H4 t b4 hp4 ht => ⟨(t : Nat), rfl, by omega, by omega, ?_⟩⟩
      have hL4 := b4 _ _ (hP.nof hl0).1 hL
      refine for_it (J := Itr 0 t) (n := t) (G := fun _ => True) (Y := YFn fun i => .int (0 + i)) walk_range (fun j σ H5 => But p H H5 ∧ Pen p ca (kk + (18 - 2 * j)) H5 ∧ ∃ (ns : List Int) (u4 u5 u6 u7 : Option V), H5 l = some (.lst (Is ns)) ∧ ns.length = ls.length ∧ (∀ x ∈ ns, 0 ≤ x) ∧ σ = [some (.ref p), some (.ref a), some (.int (r : Nat)), some (.ref l), u4, u5, u6, u7])
        ⟨b.trans b4, hp4, ns, _, _, _, _, hL4, hn, hz, rfl⟩ (fun _ _ _ _ _ => True.intro) ?_ ?_
      · rintro j y σ H5 H6 hj ⟨b, hp, ns, u4, u5, u6, u7, hL, hn, hz, rfl⟩ ⟨rfl, rfl⟩
        refine ⟨_, rfl, _, rfl, l, _, rfl, .inl (SqL.of hL), p, ca, ns.length, kk + (18 - 2 * j) - 1, by rw [is_len]; rfl, by omega, by omega, hp.mono (by omega), fun H7 q b7 hp7 hq => ?_⟩
        have hL7 := b7 _ _ (hP.nof hl0).1 hL
        obtain ⟨v, hv⟩ := get_of_lt hq
        refine ⟨_, rfl, _, rfl, l, _, _, _, rfl, rfl, SqL.of hL7, atI_nat (is_get hv), _, rfl, _, rfl, by show 4 ≤ sizeLine; decide, fun z hz0 => ⟨p, ca, z, kk + (18 - 2 * j) - 2, _, rfl, upd_same, by show 0 < 4; decide, by show 4 < 1000; decide, (hp7.up (same_upd hz0)).mono (by omega), fun H8 pv b8 hp8 hpv => ?_⟩⟩
        have bb := ((b.trans b7).trans (But.of (same_upd hz0))).trans b8
        have hL8 := b8 _ _ (hP.nof hl0).1 ((same_upd hz0) _ _ hL7)
        obtain ⟨d, rfl⟩ : ∃ d : Int, pv = .int d := by
          simp only [List.mem_cons, List.not_mem_nil, or_false] at hpv
          rcases hpv with rfl | rfl | rfl | rfl <;> exact ⟨_, rfl⟩
        refine ⟨_, _, rfl, rfl, _, _, rfl, _, rfl, _, rfl, l, _, _, q, rfl, rfl, hL8, ixN_nat (by rw [is_len]; exact hq), bb.set hl0, (hp8.upd (hP.nof hl0)).mono (by omega), ns.set q (if v + d > 0 then v + d else 0), _, _, _, _, ?_, by rw [List.length_set]; exact hn, fun x hx => ?_, rfl⟩
        · rw [upd_same]
          exact congrArg (fun z => some (HO.lst z)) (List.map_set ..).symm
        · rcases List.mem_or_eq_of_mem_set hx with q1 | q1
          · exact hz x q1
          · rw [q1]
            split <;> omega
      · rintro σ H5 ⟨b, hp, ns, u4, u5, u6, u7, hL, hn, hz, rfl⟩
        exact ⟨_, rfl, k H5 l ns b (hp.mono (by omega)) hl0 hL hn hz⟩
end
end Wv
set_option Elab.async false
set_option linter.all false
set_option maxRecDepth 100000
set_option maxHeartbeats 2000000
namespace Wv
open PySem PySem.Spec PyProof.Rows L2 TL LamX
/-! ### met: the law's reader of errors -/
structure MetK (K : PySem.W.Frag) (mg : Str → Option Value) (R : EA) (bt : Addr) : Prop where
  gbr : mg "BadRank" = some (.ref R.br)
  gbs : mg "BadSign" = some (.ref R.bs)
  gtm : mg "TooMany" = some (.ref R.tm)
  gbt : mg "BadTally" = some (.ref bt)
  gos : mg "OtherSize" = some (.ref R.os)
  e11 : PySem.W.exmOne K (.ref R.br) (.ref R.br) = some true
  e21 : PySem.W.exmOne K (.ref R.bs) (.ref R.br) = some false
  e22 : PySem.W.exmOne K (.ref R.bs) (.ref R.bs) = some true
  e31 : PySem.W.exmOne K (.ref R.tm) (.ref R.br) = some false
  e32 : PySem.W.exmOne K (.ref R.tm) (.ref R.bs) = some false
  e33 : PySem.W.exmOne K (.ref R.tm) (.ref R.tm) = some true
  e51 : PySem.W.exmOne K (.ref R.os) (.ref R.br) = some false
  e52 : PySem.W.exmOne K (.ref R.os) (.ref R.bs) = some false
  e53 : PySem.W.exmOne K (.ref R.os) (.ref R.tm) = some false
  e54 : PySem.W.exmOne K (.ref R.os) (.ref bt) = some false
  e55 : PySem.W.exmOne K (.ref R.os) (.ref R.os) = some true
  xbr : XfC K R.br
  xbs : XfC K R.bs
  xtm : XfC K R.tm
  xbt : XfC K bt
  xos : XfC K R.os
  f1 : PySem.W.findIn K (.ref R.br) "rank" = some none
  f2 : PySem.W.findIn K (.ref R.bs) "index" = some none
  f3 : PySem.W.findIn K (.ref R.tm) "what" = some none
  f4 : PySem.W.findIn K (.ref R.tm) "many" = some none
  f5 : PySem.W.findIn K (.ref R.tm) "most" = some none
  f6 : PySem.W.findIn K (.ref R.os) "many" = some none
  f7 : PySem.W.findIn K (.ref R.os) "wanted" = some none
  f8 : PySem.W.findIn K (.ref bt) "index" = some none
/-- what comes of the errors -/
def MW (R : EA) (Q : VK) : XK := fun cls d H' =>
  (cls = .ref R.br ∧ ∃ dd v, d = some dd ∧ H' dd = some (.xd [("rank", v)]) ∧ ∀ t, H' t = none → Q (.ref t) (upd H' t (.tup [.str "rank", v]))) ∨
  (cls = .ref R.bs ∧ ∃ dd v, d = some dd ∧ H' dd = some (.xd [("index", v)]) ∧ ∀ t, H' t = none → Q (.ref t) (upd H' t (.tup [.str "sign", v]))) ∨
  (cls = .ref R.tm ∧ ∃ dd u v z, d = some dd ∧ H' dd = some (.xd [("what", u), ("many", v), ("most", z)]) ∧ ∀ t, H' t = none → Q (.ref t) (upd H' t (.tup [u, v, z]))) ∨
  (cls = .ref R.os ∧ ∃ dd u v, d = some dd ∧ H' dd = some (.xd [("many", u), ("wanted", v)]) ∧ ∀ t, H' t = none → Q (.ref t) (upd H' t (.tup [.str "size", u, v])))
def TTmet (R : EA) : (XK → Hp → VK → Prop) → Hp → VK → Prop := fun tl H Q => tl (MW R Q) H fun _ _ => False
theorem scMet : FnScope ["_law_call", "e"] ["_law_call"] (defScope sLMet) := ⟨rfl, rfl, rfl, by decide +kernel, rfl, by decide +kernel, by decide +kernel⟩
theorem takes_len {X : Cx} {W : WX} (tk : Takes X W) : Takes X (fun cls d σ H => σ.length = X.N.length → W cls d σ H) := fun u s' ⟨a, B, sI, pins, σ, H, cls, d, e, J, nb, up, sky, na, os, ag, w⟩ => tk u s' ⟨a, B, sI, pins, σ, H, cls, d, e, J, nb, up, sky, na, os, ag, w J.len⟩
theorem met_gives {X : Cx} {R : EA} {bt g : Addr} {cdg : Value} {q : Str} (M : MetK X.K X.mg R bt) : GivesTo X ["_law_call", "e"] "_law_met" (defScope sLMet) g cdg (defBody sLMet) "_law_call" q (TTmet R) := by
  intro f c' s H Q tl act hc h
  have gl : ∀ {x : Str}, (defScope sLMet).names.lookup x = some .globalImplicit → Gl (cxOf C8.CX0 X.prog X.w X.K X.mg X.base ["_law_call", "e"] "_law_met" (defScope sLMet) g cdg X.A X.stack s H C8.E0).nox x := fun e => e
  refine ⟨_, pss_cons (ps_try_all (X := (cxOf C8.CX0 X.prog X.w X.K X.mg X.base ["_law_call", "e"] "_law_met" (defScope sLMet) g cdg X.A X.stack s H C8.E0).nox) (i := 1) (n := "e")
      (tb := fun W D σ H => ∃ Ech : XK, (∀ (cls : Value) (d : Option Addr) (σ' : L2.St) (H' : Hp), Ech cls d H' → σ'.length = 2 → W cls d σ' H') ∧ σ[0]? = some (some (.ref f)) ∧ H c' = some (CodeO c' q) ∧ tl Ech H fun _ H' => D.nx σ H')
      rfl rfl scMet.nd rfl rfl L2.takes0 (fun W pn xe tk _ => ?_)
      (.cons ⟨gl rfl, by decide, .inl M.gbr⟩ (fun a oe cls d pn hz hf => pss_one (ps_ret (pe_tup (pa_cons pe_str (pa_cons (pe_xf M.xbr M.f1 hz hf (pv 1)) pa_nil)))))
        (.cons ⟨gl rfl, by decide, .inl M.gbs⟩ (fun a oe cls d pn hz hf => pss_one (ps_ret (pe_tup (pa_cons pe_str (pa_cons (pe_xf M.xbs M.f2 hz hf (pv 1)) pa_nil)))))
          (.cons ⟨gl rfl, by decide, .inl M.gtm⟩ (fun a oe cls d pn hz hf => pss_one (ps_ret (pe_tup (pa_cons (pe_xf M.xtm M.f3 hz hf (pv 1)) (pa_cons (pe_xf M.xtm M.f4 hz hf (pv 1)) (pa_cons (pe_xf M.xtm M.f5 hz hf (pv 1)) pa_nil))))))
            (.cons ⟨gl rfl, by decide, .inl M.gbt⟩ (fun a oe cls d pn hz hf => pss_one (ps_ret (pe_tup (pa_cons pe_str (pa_cons (pe_xf M.xbt M.f8 hz hf (pv 1)) pa_nil)))))
              (.cons ⟨gl rfl, by decide, .inl M.gos⟩ (fun a oe cls d pn hz hf => pss_one (ps_ret (pe_tup (pa_cons pe_str (pa_cons (pe_xf M.xos M.f6 hz hf (pv 1)) (pa_cons (pe_xf M.xos M.f7 hz hf (pv 1)) pa_nil)))))) .nil)))))) (pss_one (ps_ret pe_no)), ?_⟩
  · refine ⟨fun pins s' σ H' D I h' => ?_⟩
    obtain ⟨Ech, hW, h1, h2, h3⟩ := h'
    exact (pss_one (ps_expr (act _ pn xe Ech _ _ (takes_len tk) (fun cls d σ' H' he hl => hW cls d σ' H' he hl)))).run pins s' σ H' D I ⟨h1, h2, h3⟩
  · refine ⟨MW R Q, fun cls d σ' H' hM hl => ?_, rfl, hc, h⟩
    have g1 : ∀ a : Addr, (σ'.set 1 (some (.ref a)))[1]? = some (some (.ref a)) := fun a => List.getElem?_set_self (by rw [hl]; decide)
    rcases hM with ⟨rfl, dd, v, rfl, hd, k⟩ | ⟨rfl, dd, v, rfl, hd, k⟩ | ⟨rfl, dd, u, v, z, rfl, hd, k⟩ | ⟨rfl, dd, u, v, rfl, hd, k⟩
    · refine ⟨true, M.e11, fun _ a ha => ?_, fun z => by cases z⟩
      exact ⟨_, g1 a, rfl, rfl, dd, _, v, rfl, hd, rfl, by show 2 ≤ sizeLine; decide, fun t ht => k t ht⟩
    · refine ⟨false, M.e21, (fun z => by cases z), fun _ => ⟨true, M.e22, fun _ a ha => ?_, fun z => by cases z⟩⟩
      exact ⟨_, g1 a, rfl, rfl, dd, _, v, rfl, hd, rfl, by show 2 ≤ sizeLine; decide, fun t ht => k t ht⟩
    · refine ⟨false, M.e31, (fun z => by cases z), fun _ => ⟨false, M.e32, (fun z => by cases z), fun _ => ⟨true, M.e33, fun _ a ha => ?_, fun z => by cases z⟩⟩⟩
      exact ⟨_, g1 a, rfl, rfl, dd, _, u, rfl, hd, rfl, _, g1 a, rfl, rfl, dd, _, v, rfl, hd, rfl, _, g1 a, rfl, rfl, dd, _, z, rfl, hd, rfl, by show 3 ≤ sizeLine; decide, fun t ht => k t ht⟩
    · refine ⟨false, M.e51, (fun z => by cases z), fun _ => ⟨false, M.e52, (fun z => by cases z), fun _ => ⟨false, M.e53, (fun z => by cases z), fun _ => ⟨false, M.e54, (fun z => by cases z), fun _ => ⟨true, M.e55, fun _ a ha => ?_, fun z => by cases z⟩⟩⟩⟩⟩
      exact ⟨_, g1 a, rfl, rfl, dd, _, u, rfl, hd, rfl, _, g1 a, rfl, rfl, dd, _, v, rfl, hd, rfl, by show 3 ≤ sizeLine; decide, fun t ht => k t ht⟩
end Wv
set_option Elab.async false
set_option linter.all false
set_option maxRecDepth 100000
set_option maxHeartbeats 2000000
namespace Wv
open PySem PySem.Spec PyProof.Rows L2 TL LamX
/-! ### heaps with tables -/
theorem tabs_but {T : List (Addr × Str)} {p : Addr} {H H' : Hp} {kvs : List (Key × V)} (t : Tabs T H) (b : But p H H') (hp : H p = some (.dK kvs)) : Tabs T H' := fun q hq => by
  obtain ⟨ps, h1, h2, h3⟩ := t q hq
  refine ⟨ps, b _ _ (fun z => by rw [z, hp] at h1; cases h1) h1, h2, fun pos cv hc => ?_⟩
  obtain ⟨c, e1, e2⟩ := h3 pos cv hc
  exact ⟨c, e1, b _ _ (fun z => by rw [z, hp] at e2; unfold CodeO at e2; cases e2) e2⟩
theorem tabs_pen {T : List (Addr × Str)} {p ca : Addr} {k : Nat} {H H' : Hp} (t : Tabs T H) (b : But p H H') (hp : Pen p ca k H) : Tabs T H' := by
  obtain ⟨N, L, cs, h1, _⟩ := hp
  exact tabs_but t b h1
/-- all but the pen and the tables stay -/
def ButT (p : Addr) (H H' : Hp) : Prop := ∀ b o, b ≠ p → (∀ ps, o ≠ .tbl ps) → H b = some o → H' b = some o
theorem ButT.of {p : Addr} {H H' : Hp} (b : But p H H') : ButT p H H' := fun a o n _ h => b a o n h
theorem ButT.ext {p : Addr} {H H' : Hp} (b : ExtN H H') : ButT p H H' := fun a o _ n h => b a o h n
theorem ButT.trans {p : Addr} {H H1 H2 : Hp} (a : ButT p H H1) (b : ButT p H1 H2) : ButT p H H2 := fun c o n m h => b c o n m (a c o n m h)
theorem ButT.lst {p a : Addr} {H H' : Hp} {xs : List V} (b : ButT p H H') (n : a ≠ p) (h : H a = some (.lst xs)) : H' a = some (.lst xs) := b _ _ n (fun ps z => by cases z) h
theorem CodeAt.ne {C : Addr} {H : Hp} {p ca c : Addr} {k : Nat} {ws : List Hf.Wd} (x : CodeAt C H c ws) (hp : Pen p ca k H) : c ≠ p := fun z => by
  obtain ⟨dx, wt, fs, h1, _⟩ := x
  obtain ⟨N, L, cs, g1, _⟩ := hp
  rw [z, g1] at h1
  cases h1
theorem CodeAt.butT {C : Addr} {H H' : Hp} {p ca c : Addr} {k : Nat} {ws : List Hf.Wd} (x : CodeAt C H c ws) (hp : Pen p ca k H) (b : ButT p H H') : CodeAt C H' c ws := by
  have n := x.ne hp
  obtain ⟨dx, wt, fs, h1, h2, h3, h4⟩ := x
  obtain ⟨N, L, cs, g1, _⟩ := hp
  exact ⟨dx, wt, fs, b _ _ n (fun ps z => by cases z) h1, h2, h3, b _ _ (fun z => by rw [z, g1] at h4; cases h4) (fun ps z => by cases z) h4⟩
theorem Pen.ext {p ca : Addr} {k : Nat} {H H' : Hp} (h : Pen p ca k H) (e : ExtN H H') : Pen p ca k H' := by
  obtain ⟨N, L, cs, h1, h2, h3, h4⟩ := h
  exact ⟨N, L, cs, e _ _ h1 (fun ps z => by cases z), e _ _ h2 (fun ps z => by cases z), h3, h4⟩
theorem CodeAt.ext {C : Addr} {H H' : Hp} {c : Addr} {ws : List Hf.Wd} (x : CodeAt C H c ws) (e : ExtN H H') : CodeAt C H' c ws := by
  obtain ⟨dx, wt, fs, h1, h2, h3, h4⟩ := x
  exact ⟨dx, wt, fs, e _ _ h1 (fun ps z => by cases z), h2, h3, e _ _ h4 (fun ps z => by cases z)⟩
/-! ### the odd values -/
def Odd (H : Hp) (v : V) : Prop := (∃ i, v = .int i) ∨ v = .non ∨ (∃ b, v = .bl b) ∨ v = .str "0" ∨ ∃ z, v = .ref z ∧ H z = some (.lst [.int 0])
theorem Odd.okv {H : Hp} {v : V} (o : Odd H v) : Okv H v := by
  rcases o with ⟨i, rfl⟩ | rfl | ⟨b, rfl⟩ | rfl | ⟨z, rfl, h⟩
  · exact True.intro
  · exact True.intro
  · exact True.intro
  · exact True.intro
  · exact ⟨_, h⟩
theorem Odd.up {H H' : Hp} {v : V} (o : Odd H v) (s : Same H H') : Odd H' v := by
  rcases o with h | h | h | h | ⟨z, rfl, h⟩
  · exact .inl h
  · exact .inr (.inl h)
  · exact .inr (.inr (.inl h))
  · exact .inr (.inr (.inr (.inl h)))
  · exact .inr (.inr (.inr (.inr ⟨z, rfl, s _ _ h⟩)))
theorem Odd.ext {H H' : Hp} {v : V} (o : Odd H v) (s : ExtN H H') : Odd H' v := by
  rcases o with h | h | h | h | ⟨z, rfl, h⟩
  · exact .inl h
  · exact .inr (.inl h)
  · exact .inr (.inr (.inl h))
  · exact .inr (.inr (.inr (.inl h)))
  · exact .inr (.inr (.inr (.inr ⟨z, rfl, s _ _ h (fun ps z => by cases z)⟩)))
/-- two pairs (tag, v) are equal -/
theorem odd_dp {K : PySem.W.Frag} {H : Hp} {v : V} (o : Odd H v) : ∃ d, Dp K H v d ∧ PyData.canLay0 d = true ∧ PyData.depth d ≤ 1 ∧ PyData.eqv d d = true := by
  rcases o with ⟨i, rfl⟩ | rfl | ⟨b, rfl⟩ | rfl | ⟨z, rfl, h⟩
  · exact ⟨_, .int i, by simp [PyData.canLay0], by simp [PyData.depth], by simp [PyData.eqv]⟩
  · exact ⟨_, .non, by simp [PyData.canLay0], by simp [PyData.depth], by simp [PyData.eqv]⟩
  · exact ⟨_, .bl b, by simp [PyData.canLay0], by simp [PyData.depth], by simp [PyData.eqv]⟩
  · exact ⟨_, .str _, by decide +kernel, by simp [PyData.depth], by simp [PyData.eqv]⟩
  · exact ⟨_, .lst (SqL.of h) (.cons (.int 0) .nil), by simp [PyData.canLay0, PyData.canLayAll0], by simp [PyData.depth, PyData.depthAll], by simp [PyData.eqv, PyData.eqvAll]⟩
theorem odd_shaped {d : PyData} {tag : Str} (h : PyData.strOk tag = true) (h1 : PyData.canLay0 d = true) (h2 : PyData.depth d ≤ 1) : SeqAt.shaped (.tuple [.str tag, d]) = true := by
  show (PyData.canLay0 (.tuple [.str tag, d]) && decide (PyData.depth (.tuple [.str tag, d]) ≤ 64)) = true
  rw [Bool.and_eq_true]
  refine ⟨by simp [PyData.canLay0, PyData.canLayAll0, h, h1], decide_eq_true ?_⟩
  simp only [PyData.depth, PyData.depthAll]
  omega
theorem odd_same {d : PyData} {tag : Str} (h : PyData.eqv d d = true) : PyData.eqv (.tuple [.str tag, d]) (.tuple [.str tag, d]) = true := by
  simp [PyData.eqv, PyData.eqvAll, h]
theorem odd_eq {K : PySem.W.Frag} {H : Hp} {v : V} {tag : Str} {t1 t2 : Addr} {Q : VK} (o : Odd H v) (ht : PyData.strOk tag = true) (h1 : H t1 = some (.tup [.str tag, v])) (h2 : H t2 = some (.tup [.str tag, v])) (k : Q (.bl true) H) : rEqD K (.ref t1) (.ref t2) H Q := by
  obtain ⟨d, a1, a2, a3, a4⟩ := odd_dp (K := K) o
  have sh := odd_shaped ht a2 a3
  refine ⟨_, _, .tup (SqT.of h1) (.cons (.str tag) (.cons a1 .nil)), .tup (SqT.of h2) (.cons (.str tag) (.cons a1 .nil)), sh, sh, ?_⟩
  rw [odd_same a4]
  exact k
theorem odd_ne {K : PySem.W.Frag} {H : Hp} {v : V} {tag : Str} {t1 t2 : Addr} {Q : VK} (o : Odd H v) (ht : PyData.strOk tag = true) (h1 : H t1 = some (.tup [.str tag, v])) (h2 : H t2 = some (.tup [.str tag, v])) (k : Q (.bl false) H) : rNeD K (.ref t1) (.ref t2) H Q := by
  obtain ⟨d, a1, a2, a3, a4⟩ := odd_dp (K := K) o
  have sh := odd_shaped ht a2 a3
  refine ⟨_, _, .tup (SqT.of h1) (.cons (.str tag) (.cons a1 .nil)), .tup (SqT.of h2) (.cons (.str tag) (.cons a1 .nil)), sh, sh, ?_⟩
  rw [odd_same a4]
  exact k
/-! ### a def that makes lambdas -/
structure LamD (K : PySem.W.Frag) (mg : Str → Option Value) (base : Heap) (x : Str) (st : Stmt) (c Pt : Addr) : Prop where
  ex : ∃ (f : Addr) (oc : Value) (od : Option Addr) (kV doc pm : Value) (an : Option Addr) (ct : Value) (osl : Array (Option Value)), K.lookup f = some ⟨oc, od, .func (PySem.W.fnOf x x (defArgs st) (defBody st) (defScope st) .none kV doc pm an (.ref c) ct), osl⟩ ∧
    PySem.W.codeIn K (.ref c) x = true ∧ PySem.W.keepIn K (.ref f) = true ∧ mg x = some (.ref f)
  tb : TabB base mg c Pt
section
variable {P : Program} {w : World} {K : PySem.W.Frag} {mg : Str → Option Value} {base : Heap} {R : EA} {C : Addr}
theorem LamD.kn {x : Str} {st : Stmt} {c Pt : Addr} {k : Nat} {N ps : List Str} {sp : Sp} (L : LamD K mg base x st c Pt) (S : FnScope N ps (defScope st)) (len : ∀ vs H Q E, sp vs H Q E → vs.length = ps.length)
    (hbody : ∀ (f : Addr) (A : Around) (outer : List Env) (s : Shared) (H : Hp) (vs : List V) (Q : VK) (E : XK), Room k (A.deeper (envOfC x (defScope st) s.heap.objs.size f (.ref c))) → sp vs H Q E →
      ∃ t, PSs (cxOf CX0 P w K mg base N x (defScope st) f (.ref c) A outer s H E).nox (defBody st) t ∧ t { nx := fun _ H' => Q .non H', rt := Q } (L2.start N vs) H)
    (b : ∀ (kV doc pm : Value) (an : Option Addr) (cdv ct : Value) (us : List Value), us.length = ps.length → bindArgs (PySem.W.fnOf x x (defArgs st) (defBody st) (defScope st) .none kV doc pm an cdv ct) ⟨us, []⟩ = pure (ps.zip us)) : Kn P w K mg base CX0 (k + 1) x ps sp := by
  obtain ⟨f, oc, od, kV, doc, pm, an, ct, osl, lk, hc, kp, hm⟩ := L.ex
  refine ⟨f, _, fn_of lk hc S len fun A outer s H vs Q E hr hsp => ?_, hm, kp, .all (b kV doc pm an (.ref c) ct)⟩
  obtain ⟨t, ht, hq⟩ := hbody f A outer s H vs Q E hr hsp
  exact ⟨t, ht.nox, hq⟩
/-- met(lambda: body) in such a def -/
structure MetD (K : PySem.W.Frag) (mg : Str → Option Value) (R : EA) : Prop where
  ex : ∃ (g : Addr) (fd : FuncData), Fun K "_law_met" "_law_met" sLMet g fd ∧ mg "_law_met" = some (.ref g)
  bt : ∃ bt, MetK K mg R bt
theorem pe_met {X : Cx} {R : EA} {T : List (Addr × Str)} {c Pt : Addr} {k : Nat} {body : Expr} {params : Arguments} {scope : Scope} {t : XK → TE} {p lpos pos : Pos} (M : MetD X.K X.mg R) (hg : Gl X "_law_met")
    (TB : TabB X.base X.mg c Pt) (hcode : X.env.code = .ref c) (hmT : (Pt, X.env.qual ++ "<lambda>") ∈ T) (hu : ∀ p ∈ T, p.1 = Pt → p.2 = X.env.qual ++ "<lambda>") (hr : Room (k + 2) X.A) (L : LamS X.env.scope scope) (hdef : defaultsOf params X.env = ([], []))
    (hbind : ∀ (q : Str) (cl : List (Str × Addr)) (pm cv ctv : Value), bindArgs (PySem.W.kla_fn "<lambda>" q params body scope cl pm cv ctv) ⟨[], []⟩ = pure [])
    (hbody : ∀ (A : Around) (outer : List Env) (s : Shared) (H : Hp) (E : XK) (f c' : Addr), Room k (A.deeper (lamEnv X scope s.heap.objs.size f c')) → PE (lamCx X A outer s H E scope f c') body (t E)) :
    PE X (.Call (.Name "_law_met" p) [.Lambda params body scope lpos] [] pos) (tLam T (TTmet R) t) := by
  obtain ⟨g, fd, F, hm⟩ := M.ex
  obtain ⟨bt, MK⟩ := M.bt
  obtain ⟨oc, od, kV, doc, pm, an, cdv, ct, osl, rfl, lk, hcd⟩ := F.ex
  exact pe_lamcall (a := "_law_call") hg hm F.kp lk hcd (F.binds fun _ _ _ _ _ _ us hl => match us, hl with | [_], _ => rfl) scMet rfl (.inl rfl) (met_gives MK) TB hcode hmT hu hr L hdef hbind hbody
end
end Wv
set_option Elab.async false
set_option linter.all false
set_option maxRecDepth 100000
set_option maxHeartbeats 2000000
namespace Wv
open PySem PySem.Spec PyProof.Rows L2 TL LamX
theorem isRank_out {n : Nat} {i : Int} (h : i < 0 ∨ (n : Int) < i) : isRank n (.int i) = false := decide_eq_false (by omega)
theorem isSgn_out {n : Nat} {i : Int} (h : i < 0 ∨ (n : Int) ≤ i) : isSgn n (.int i) = false := decide_eq_false (by omega)
abbrev lq (x : Str) : Str := (x ++ ".<locals>.") ++ "<lambda>"
section
variable {P : Program} {w : World} {K : PySem.W.Frag} {mg : Str → Option Value} {base : Heap} {R : EA} {C : Addr} {T : List (Addr × Str)}
/-- all that the law calls -/
structure Law0 (P : Program) (w : World) (K : PySem.W.Frag) (mg : Str → Option Value) (base : Heap) (R : EA) (C : Addr) : Prop where
  draw : Kn P w K mg base CX0 1 "_law_draw" ["_law_pen", "_law_many"] spDraw
  pick : Kn P w K mg base CX0 2 "_law_pick" ["_law_pen", "_law_items"] spPick
  isLeast : Kn P w K mg base CX0 2 "_law_is_least" ["_law_words_here", "_law_counts"] (spIsLeast K)
  put : Kn P w K mg base CX0 1 "_law_put" ["_law_words_here", "_law_counts", "_law_rank"] spPut
  changed : Kn P w K mg base CX0 1 "_law_changed" ["_law_words_here", "_law_others", "_law_counts"] (spChanged K)
  struck : Kn P w K mg base CX0 1 "_law_struck" ["_law_words_here", "_law_sign"] spStruck
  putSign : Kn P w K mg base (L2.CX P w) 8 "put_sign" ["code", "counts", "rank"] (spPutSign R C)
  strike : Kn P w K mg base (L2.CX P w) 7 "strike_sign" ["code", "sign"] (spStrike R C)
  met : MetD K mg R
def spArePut (C : Addr) (T : List (Addr × Str)) : Sp := fun vs H Q _ => ∃ (p ca c a b : Addr) (k : Nat) (ws : List Hf.Wd) (ns : List Int), vs = [.ref p, .ref c, .ref a, .ref b] ∧ CodeAt C H c ws ∧ H a = some (.lst (Ws ws)) ∧ H b = some (.lst (Is ns)) ∧ Hf.Full ws ∧ ws.length = ns.length ∧ ws.length ≤ 20 ∧ (∀ x ∈ ns, 0 ≤ x) ∧ Pen p ca (k + 2) H ∧ Tabs T H ∧
  ∀ H', ButT p H H' → Pen p ca k H' → Tabs T H' → Q (.bl true) H'
abbrev nArePut : List Str := ["_law_pen", "_law_code_here", "_law_words_here", "_law_counts", "_law_many", "_law_rank", "_law_told", "_law_due", "_law_grown", "_law_kept", "_law_odd"]
theorem scArePut : FnScope nArePut ["_law_pen", "_law_code_here", "_law_words_here", "_law_counts"] (defScope sLArePut) := ⟨rfl, rfl, rfl, by decide +kernel, rfl, by decide +kernel, by decide +kernel⟩
theorem kArePut {c0 Pt : Addr} (A : LamD K mg base "_law_are_put" sLArePut c0 Pt) (hT : (Pt, lq "_law_are_put") ∈ T) (hu : ∀ p ∈ T, p.1 = Pt → p.2 = lq "_law_are_put") (B : Bi mg) (TC : CTxt K mg C) (D : Law0 P w K mg base R C) :
    Kn P w K mg base CX0 11 "_law_are_put" ["_law_pen", "_law_code_here", "_law_words_here", "_law_counts"] (spArePut C T) := by
  have sc := scArePut
  refine A.kn scArePut (fun vs H Q E h => ?_) (fun f Ar outer s H vs Q E hr h => ?_) (fun _ _ _ _ _ _ us hl => match us, hl with | [_, _, _, _], _ => rfl)
  · obtain ⟨p, ca, c, a, b, k, ws, ns, rfl, _⟩ := h
    rfl
  · obtain ⟨p, ca, c, a, b, kk, ws, ns, rfl, hC, hA, hB, hF, hl, h20, h0, hP, hTb, k⟩ := h
    have hun : (cxOf CX0 P w K mg base nArePut "_law_are_put" (defScope sLArePut) f (.ref c0) Ar outer s H E).nox.A.units + 64 < cLine := hr.units
    refine ⟨_, (pss_cons (ps_set (i := 4) sc.nd rfl (Or.inl rfl) (pe_callB call_len_seq (by rfl) B.len PySem.boot_len (pa_cons (pv 2) pa_nil))) (pss_cons (ps_set (i := 5) sc.nd rfl (Or.inl rfl) (pe_kn D.draw (hr.mono (by decide)) pass0 (pa_cons (pv 0) (pa_cons (pe_op op_add (pv 4) pe_int) pa_nil)))) (pss_cons (ps_par (i := 6) (j := 7) rfl sc.nd rfl rfl (by decide) rfl rfl (pa_cons (pe_kn (E := E0) D.putSign (hr.mono (by decide)) passL (pa_cons (pv 1) (pa_cons (pv 3) (pa_cons (pv 5) pa_nil)))) (pa_cons (pe_kn D.put (hr.mono (by decide)) pass0 (pa_cons (pv 2) (pa_cons (pv 3) (pa_cons (pv 5) pa_nil)))) pa_nil)) (by rfl)) (pss_cons (ps_set (i := 8) sc.nd rfl (Or.inl rfl) (pe_op op_cat (pe_op op_cat (pe_slice sl_list (pv 3) po_none (po_some (pv 5))) (pe_lst (pa_cons pe_int pa_nil))) (pe_slice sl_list (pv 3) (po_some (pv 5)) po_none))) (pss_cons (ps_if (PW.pt (pw_or (pt_cmpR (op_neD hun) (pe_fld (pv 6) rfl) (pe_callTy call_tuple_of (by rfl) B.tuple (by decide +kernel) (pa_cons (pv 7) pa_nil)) (nomark _)) (pw_or1 (pt_cmpR op_ne (pe_kn D.isLeast (hr.mono (by decide)) pass0 (pa_cons (pv 7) (pa_cons (pv 8) pa_nil))) (pe_kn D.isLeast (hr.mono (by decide)) pass0 (pa_cons (pv 2) (pa_cons (pv 3) pa_nil))) (nomark _))))) (pss_one (ps_ret pe_bl)) pss_nil) (pss_cons (ps_if (pt_cmpR (op_neD hun) (pe_fld (pe_kn (E := E0) D.strike (hr.mono (by decide)) passL (pa_cons (pv 6) (pa_cons (pv 5) pa_nil))) rfl) (pe_callTy call_tuple_of (by rfl) B.tuple (by decide +kernel) (pa_cons (pv 2) pa_nil)) (nomark _)) (pss_one (ps_ret pe_bl)) pss_nil) (pss_cons (ps_set (i := 9) sc.nd rfl (Or.inl rfl) (pe_op op_cat (pe_slice sl_list (pv 7) po_none (po_some (pv 5))) (pe_slice sl_list (pv 7) (po_some (pe_op op_add (pv 5) pe_int)) po_none))) (pss_cons (ps_if (pt_cmpR op_ne (pe_kn D.changed (hr.mono (by decide)) pass0 (pa_cons (pv 2) (pa_cons (pv 9) (pa_cons (pv 3) pa_nil)))) (pe_callB (cr_min rfl) (by rfl) B.min (by decide +kernel) (pa_cons (pv 3) pa_nil)) (nomark _)) (pss_one (ps_ret pe_bl)) pss_nil) (pss_cons (ps_set (i := 10) sc.nd rfl (Or.inr rfl) (pe_kn D.pick (hr.mono (by decide)) pass0 (pa_cons (pv 0) (pa_cons (pe_lst (pa_cons (pe_un un_neg pe_int) (pa_cons (pe_op op_add (pv 4) pe_int) (pa_cons pe_non (pa_cons pe_bl (pa_cons pe_str (pa_cons (pe_lst (pa_cons pe_int pa_nil)) pa_nil))))))) pa_nil)))) (pss_one (ps_ret (pe_cmpR (op_eqD hun) (pe_met (T := T) (k := 8) D.met (by rfl) A.tb rfl hT hu hr (lamS_by (sc := defScope sLArePut) (by decide +kernel)) rfl (fun _ _ _ _ _ => rfl) (fun A' outer' s' H' E' f' c' hr' => pe_kn (E := E') D.putSign hr' (passes_call (takes_of rfl rfl rfl rfl) (fun _ _ _ _ h => h)) (pa_cons (pv 1) (pa_cons (pv 3) (pa_cons (pv 10) pa_nil))))) (pe_tup (pa_cons pe_str (pa_cons (pv 10) pa_nil))) (nomark _))))))))))))), ?_⟩
    have f2 := full_len hF
    refine ⟨_, rfl, a, _, rfl, .inl (SqL.of hA), _, rfl, _, rfl, _, _, rfl, rfl, p, ca, ws.length + 1, kk + 1, by rw [ws_len]; rfl, by omega, by omega, hP, fun H1 r b1 hP1 hr1 => ?_⟩
    have hC1 := hC.butT hP (ButT.of b1)
    have hA1 := b1 _ _ (hP.ne hA) hA
    have hB1 := b1 _ _ (hP.ne hB) hB
    have hT1 := tabs_pen hTb b1 hP
    have hk : isRank ws.length (.int (r : Nat)) = true := decide_eq_true ⟨by omega, by omega⟩
    refine ⟨_, rfl, _, rfl, _, rfl, c, b, .int (r : Nat), ws, ns, rfl, hC1, hB1, True.intro, hF, by omega, by omega, by omega, h0, (fun q => absurd hl.symm q), (fun _ q => by rw [hk] at q; cases q), fun _ r' i wd H2 c' e hr' hmin hwd s2 hc2 => ?_⟩
    obtain rfl : r = r' := by
      injection e with e
      omega
    refine ⟨_, rfl, _, rfl, _, rfl, a, b, r, ws, ns, rfl, s2 _ _ hA1, s2 _ _ hB1, hl, by omega, by omega, (fun x hx => by have := hF.short hx; omega), by omega, fun H3 ld i' wd' s3 hmin' hwd' hld hL => ⟨_, _, rfl, ?_⟩⟩
    obtain rfl := minAt_one hmin hmin'
    obtain rfl : wd = wd' := by
      rw [hwd] at hwd'
      exact Option.some.inj hwd'
    have hFd := hF.put (r := r) hwd
    have hdl := putW_len ws i wd r
    have hgt : (Hf.putW ws i wd r)[r]? = some (wd ++ [49]) := Hf.ins_at (by rw [List.length_set]; omega)
    have her : (Hf.putW ws i wd r).eraseIdx r = ws.set i (wd ++ [48]) := Hf.ins_erase (by rw [List.length_set]; omega)
    have hst := Hf.put_strike hF hwd (r := r) (by omega)
    have hlea := fun c d H G => Hf.put_least (r := r) (c := c) (d := d) hl hwd hmin.choose_spec.1 h0 hmin.choose_spec.2.1 H G
    have hch := Hf.put_changed hwd hmin.choose_spec.1
    have hmm := hmin.choose_spec
    generalize hmin.choose = m at hlea hch hmm
    generalize hdue : Hf.putW ws i wd r = due at *
    have S3 : Same H1 H3 := s2.trans s3
    have hC3 := hc2.up s3
    refine ⟨_, rfl, _, rfl, _, rfl, b, _, rfl, SqL.of (S3 _ _ hB1), fun p1 hp1 => ⟨by show 1 ≤ sizeLine; decide, fun q1 hq1 => ?_⟩⟩
    -- the grown counts
    have S4 := (S3.to (o := .lst (cutV (Is ns) none (some (r : Nat)))) hp1).to (o := .lst [.int 0]) hq1
    have L4 := (same_upd (o := .lst [.int 0]) hq1) _ _ ((same_upd (o := .lst (cutV (Is ns) none (some (r : Nat)))) hp1) _ _ hL)
    refine ⟨p1, q1, _, _, rfl, rfl, (same_upd hq1) _ _ upd_same, upd_same, ?_, fun p2 hp2 => ?_⟩
    · have := cutV_length (Is ns) none (some (r : Int))
      rw [is_len] at this
      exact line_of (by show (cutV (Is ns) none (some (r : Int))).length + 1 ≤ 1000; omega)
    have S5 := S4.to (o := .lst (cutV (Is ns) none (some (r : Nat)) ++ [.int 0])) hp2
    refine ⟨_, rfl, _, rfl, _, rfl, b, _, rfl, SqL.of (S5 _ _ hB1), fun q2 hq2 => ?_⟩
    have S6 := S5.to (o := .lst (cutV (Is ns) (some (r : Nat)) none)) hq2
    refine ⟨p2, q2, _, _, rfl, rfl, (same_upd hq2) _ _ upd_same, upd_same, ?_, fun g hg => ?_⟩
    · have h1 := cutV_length (Is ns) none (some (r : Int))
      have h2 := cutV_length (Is ns) (some (r : Int)) none
      rw [is_len] at h1 h2
      rw [List.length_append]
      exact line_of (by show (cutV (Is ns) none (some (r : Int))).length + 1 + _ ≤ 1000; omega)
    have eg : cutV (Is ns) none (some (r : Int)) ++ [.int 0] ++ cutV (Is ns) (some (r : Int)) none = Is (Hf.ins r 0 ns) := by
      rw [cut_to, cut_from]
      simp [Is, Hf.ins, List.map_take, List.map_drop]
    rw [eg]
    have S7 := S6.to (o := .lst (Is (Hf.ins r 0 ns))) hg
    have L7 := (same_upd (o := .lst (Is (Hf.ins r 0 ns))) hg) _ _ ((same_upd (o := .lst (cutV (Is ns) (some (r : Nat)) none)) hq2) _ _ ((same_upd (o := .lst (cutV (Is ns) none (some (r : Nat)) ++ [.int 0])) hp2) _ _ L4))
    have C7 := ((((hC3.up (same_upd (o := .lst (cutV (Is ns) none (some (r : Nat)))) hp1)).up (same_upd (o := .lst [.int 0]) hq1)).up (same_upd (o := .lst (cutV (Is ns) none (some (r : Nat)) ++ [.int 0])) hp2)).up (same_upd (o := .lst (cutV (Is ns) (some (r : Nat)) none)) hq2)).up (same_upd (o := .lst (Is (Hf.ins r 0 ns))) hg)
    have G7 := @upd_same (upd (upd (upd (upd H3 p1 (.lst (cutV (Is ns) none (some (r : Nat))))) q1 (.lst [.int 0])) p2 (.lst (cutV (Is ns) none (some (r : Nat)) ++ [.int 0]))) q2 (.lst (cutV (Is ns) (some (r : Nat)) none))) g (.lst (Is (Hf.ins r 0 ns)))
    generalize upd (upd (upd (upd (upd H3 p1 (.lst (cutV (Is ns) none (some (r : Nat))))) q1 (.lst [.int 0])) p2 (.lst (cutV (Is ns) none (some (r : Nat)) ++ [.int 0]))) q2 (.lst (cutV (Is ns) (some (r : Nat)) none))) g (.lst (Is (Hf.ins r 0 ns))) = H7 at S7 L7 C7 G7
    have hgl : (Hf.ins r 0 ns).length = ns.length + 1 := Hf.ins_len r 0 ns
    have Bd := full_bits hFd
    have Bw := full_bits hF
    have sameT : ∀ us : List Hf.Wd, PyData.eqv (.tuple (dW us)) (.tuple (dW us)) = true := fun us => by
      have := dW_same us
      simpa [PyData.eqv] using this
    -- told.words != tuple(due)
    obtain ⟨dx, wt, fs, e1, e2, e3, e4⟩ := id C7
    refine ⟨_, rfl, c', C, dx, fs, _, rfl, e1, TC.cl, TC.nW, e2, _, rfl, ld, _, rfl, .inl ⟨SqL.of L7, fun t1 ht1 => ?_⟩⟩
    refine ⟨.tuple (dW due), .tuple (dW due), .tup (SqT.of ((same_upd ht1) _ _ e4)) (dW_all _), .tup (SqT.of upd_same) (dW_all _), dW_tup Bd, dW_tup Bd, _, rfl, ?_⟩
    rw [sameT]
    have S8 := S7.to (o := .tup (Ws due)) ht1
    refine iteF ⟨_, rfl, _, rfl, ld, g, due, Hf.ins r 0 ns, rfl, (same_upd ht1) _ _ L7, (same_upd ht1) _ _ G7, by omega, (fun x hx => by have := hFd.short hx; omega), by omega, by omega, fun H9 c9 s9 hc9 => ?_⟩
    refine ⟨_, rfl, _, rfl, a, b, ws, ns, rfl, s9 _ _ (S8 _ _ hA1), s9 _ _ (S8 _ _ hB1), by omega, (fun x hx => by have := hF.short hx; omega), by omega, by omega, fun H10 c10 s10 hc10 => ⟨rfl, _, rfl, ?_⟩⟩
    have ed : decide (Hf.cost (Hf.lens due) (Hf.ins r 0 ns) = c9) = decide (Hf.cost (Hf.lens ws) ns = c10) := by
      have q := hlea c10 c9 hc10 hc9
      by_cases z : Hf.cost (Hf.lens ws) ns = c10
      · rw [decide_eq_true z, decide_eq_true (q.mpr z)]
      · rw [decide_eq_false z, decide_eq_false (fun y => z (q.mp y))]
    rw [ed, decide_eq_true (show V.bl (decide (Hf.cost (Hf.lens ws) ns = c10)) = V.bl (decide (Hf.cost (Hf.lens ws) ns = c10)) from rfl)]
    have S10 := (S8.trans s9).trans s10
    have L10 := s10 _ _ (s9 _ _ ((same_upd (o := .tup (Ws due)) ht1) _ _ L7))
    have C10 := ((C7.up (same_upd (o := .tup (Ws due)) ht1)).up s9).up s10
    refine iteF (A := True) (iteF (A := True) ?_)
    -- strike_sign(told, rank).words != tuple(words)
    have hs1 : isSgn due.length (.int (r : Nat)) = true := decide_eq_true ⟨by omega, by omega⟩
    refine ⟨_, rfl, _, rfl, c', .int (r : Nat), due, rfl, C10, True.intro, hFd, by omega, (fun q => by rw [hs1] at q; cases q), (fun _ q => by omega), fun _ i' b' a' H11 c2 ei hg' s11 hc11 => ?_⟩
    obtain rfl : r = i' := by
      injection ei with ei
      omega
    rw [hgt] at hg'
    have hab := List.append_inj' (Option.some.inj hg') rfl
    obtain rfl : wd = a' := hab.1
    obtain rfl : 49 = b' := List.head_eq_of_cons_eq hab.2
    rw [hst] at hc11
    obtain ⟨dx2, wt2, fs2, g1, g2, g3, g4⟩ := id hc11
    have S11 := S10.trans s11
    refine ⟨c2, C, dx2, fs2, _, rfl, g1, TC.cl, TC.nW, g2, _, rfl, a, _, rfl, .inl ⟨SqL.of (S11 _ _ hA1), fun t2 ht2 => ?_⟩⟩
    refine ⟨.tuple (dW ws), .tuple (dW ws), .tup (SqT.of ((same_upd ht2) _ _ g4)) (dW_all _), .tup (SqT.of upd_same) (dW_all _), dW_tup Bw, dW_tup Bw, _, rfl, ?_⟩
    rw [sameT]
    refine iteF ?_
    have S12 := S11.to (o := .tup (Ws ws)) ht2
    have L12 := (same_upd (o := .tup (Ws ws)) ht2) _ _ (s11 _ _ L10)
    -- kept
    refine ⟨_, rfl, _, rfl, _, rfl, ld, _, rfl, SqL.of L12, fun p3 hp3 => ?_⟩
    have S13 := S12.to (o := .lst (cutV (Ws due) none (some (r : Nat)))) hp3
    refine ⟨_, rfl, _, rfl, _, _, rfl, rfl, ((r + 1 : Nat) : Int), (show V.int ((r : Int) + 1) = V.int ((r + 1 : Nat) : Int) by congr 1), ld, _, rfl, SqL.of ((same_upd hp3) _ _ L12), fun q3 hq3 => ?_⟩
    have S14 := S13.to (o := .lst (cutV (Ws due) (some ((r + 1 : Nat) : Int)) none)) hq3
    have ek : cutV (Ws due) none (some (r : Int)) ++ cutV (Ws due) (some ((r + 1 : Nat) : Int)) none = Ws (ws.set i (wd ++ [48])) := by
      rw [cut_to, cut_from, ← her, List.eraseIdx_eq_take_drop_succ]
      simp [Ws, List.map_take, List.map_drop]
    refine ⟨p3, q3, _, _, rfl, rfl, (same_upd hq3) _ _ upd_same, upd_same, ?_, fun kp hkp => ?_⟩
    · rw [← List.length_append, ek, ws_len, List.length_set]
      exact line_of (by omega)
    rw [ek]
    have S15 := S14.to (o := .lst (Ws (ws.set i (wd ++ [48])))) hkp
    have K15 := @upd_same (upd (upd (upd H11 t2 (.tup (Ws ws))) p3 (.lst (cutV (Ws due) none (some (r : Nat))))) q3 (.lst (cutV (Ws due) (some ((r + 1 : Nat) : Int)) none))) kp (.lst (Ws (ws.set i (wd ++ [48]))))
    generalize upd (upd (upd (upd H11 t2 (.tup (Ws ws))) p3 (.lst (cutV (Ws due) none (some (r : Nat))))) q3 (.lst (cutV (Ws due) (some ((r + 1 : Nat) : Int)) none))) kp (.lst (Ws (ws.set i (wd ++ [48])))) = H15 at S15 K15
    refine ⟨_, rfl, _, rfl, _, rfl, a, kp, b, ws, _, ns, rfl, SqL.of (S15 _ _ hA1), SqL.of K15, SqL.of (S15 _ _ hB1), hl, by rw [List.length_set]; exact hl, by omega, fun H16 s16 => ?_⟩
    refine ⟨_, rfl, b, ns, rfl, SqL.of (s16 _ _ (S15 _ _ hB1)), by omega, fun m' hm' hle' => ⟨rfl, _, rfl, ?_⟩⟩
    have emm : m = m' := Int.le_antisymm (hmm.2.1 _ hm') (hle' _ (List.mem_of_getElem? hmm.1))
    rw [hch, emm, decide_eq_true rfl]
    refine iteF (A := True) ?_
    have S16 := S15.trans s16
    have P16 := hP1.up S16
    have T16 : Tabs T H16 := hT1.ext S16
    -- the odd value
    refine ⟨_, rfl, _, rfl, _, rfl, _, _, rfl, rfl, by show 1 ≤ sizeLine; decide, fun z hz => ⟨by show 6 ≤ sizeLine; decide, fun o ho => ?_⟩⟩
    have S17 := (S16.to (o := .lst [.int 0]) hz)
    refine ⟨p, ca, o, kk, _, rfl, upd_same, by show 0 < 6; decide, by show 6 < 1000; decide, ((P16.up (same_upd hz)).up (same_upd ho)), fun H18 v b18 hP18 hv => ?_⟩
    have T18 : Tabs T H18 := tabs_pen ((T16.ext (same_upd hz)).ext (same_upd ho)) b18 ((P16.up (same_upd hz)).up (same_upd ho))
    have B18 : But p H1 H18 := (But.of (S17.trans (same_upd ho))).trans b18
    have hz18 : H18 z = some (.lst [.int 0]) := b18 _ _ ((P16.up (same_upd hz)).ne (xs := [.int 0]) upd_same) ((same_upd ho) _ _ upd_same)
    have hodd : Odd H18 v ∧ isRank ws.length v = false := by
      simp only [List.mem_cons, List.not_mem_nil, or_false] at hv
      rcases hv with rfl | rfl | rfl | rfl | rfl | rfl
      · exact ⟨.inl ⟨_, rfl⟩, isRank_out (.inl (by decide))⟩
      · exact ⟨.inl ⟨_, rfl⟩, isRank_out (.inr (by rw [ws_len]; omega))⟩
      · exact ⟨.inr (.inl rfl), rfl⟩
      · exact ⟨.inr (.inr (.inl ⟨_, rfl⟩)), rfl⟩
      · exact ⟨.inr (.inr (.inr (.inl rfl))), rfl⟩
      · exact ⟨.inr (.inr (.inr (.inr ⟨z, rfl, hz18⟩))), rfl⟩
    obtain ⟨od, hnr⟩ := hodd
    refine ⟨T18, fun H19 e19 T19 => ?_⟩
    have Bt : ButT p H1 H19 := (ButT.of B18).trans (ButT.ext e19)
    have P19 := hP18.ext e19
    refine ⟨_, rfl, _, rfl, _, rfl, c, b, v, ws, ns, rfl, hC1.butT hP1 Bt, Bt.lst (hP1.ne hB1) hB1, (od.ext e19).okv, hF, by omega, by omega, by omega, h0, (fun q => absurd hl.symm q), (fun _ _ d H20 s20 hd => ?_), fun _ r' i' wd' H' c' e hr' _ _ _ _ => ?_⟩
    · refine .inl ⟨rfl, d, v, rfl, hd, fun t ht => ?_⟩
      refine ⟨_, rfl, by show 2 ≤ sizeLine; decide, fun t4 ht4 => ?_⟩
      have s21 := (same_upd (o := .tup [.str "rank", v]) ht)
      have s22 := (same_upd (o := .tup [.str "rank", v]) ht4)
      refine odd_eq (tag := "rank") ((((od.ext e19).up s20).up s21).up s22) (by decide +kernel) (s22 _ _ upd_same) upd_same ?_
      exact k _ ((ButT.of b1).trans (Bt.trans (ButT.of (But.of ((s20.trans s21).trans s22))))) (P19.up ((s20.trans s21).trans s22)) (T19.ext ((s20.trans s21).trans s22))
    · rw [e] at hnr
      have : isRank ws.length (.int (r' : Nat)) = true := decide_eq_true ⟨by omega, by omega⟩
      rw [this] at hnr
      cases hnr
end
end Wv
set_option Elab.async false
set_option linter.all false
set_option maxRecDepth 100000
set_option maxHeartbeats 2000000
namespace Wv
open PySem PySem.Spec PyProof.Rows L2 TL LamX
section
variable {P : Program} {w : World} {K : PySem.W.Frag} {mg : Str → Option Value} {base : Heap} {R : EA} {C : Addr} {T : List (Addr × Str)}
theorem tri_eq {K : PySem.W.Frag} {H : Hp} {tag : Str} {i j : Int} {t1 t2 : Addr} {Q : VK} (ht : PyData.strOk tag = true) (h1 : H t1 = some (.tup [.str tag, .int i, .int j])) (h2 : H t2 = some (.tup [.str tag, .int i, .int j])) (k : Q (.bl true) H) : rEqD K (.ref t1) (.ref t2) H Q := by
  have sh : SeqAt.shaped (.tuple [.str tag, .int i, .int j]) = true := by
    show (PyData.canLay0 (.tuple [.str tag, .int i, .int j]) && decide (PyData.depth (.tuple [.str tag, .int i, .int j]) ≤ 64)) = true
    rw [Bool.and_eq_true]
    refine ⟨by simp [PyData.canLay0, PyData.canLayAll0, ht], decide_eq_true ?_⟩
    simp only [PyData.depth, PyData.depthAll]
    omega
  refine ⟨_, _, .tup (SqT.of h1) (.cons (.str tag) (.cons (.int i) (.cons (.int j) .nil))), .tup (SqT.of h2) (.cons (.str tag) (.cons (.int i) (.cons (.int j) .nil))), sh, sh, ?_⟩
  rw [show PyData.eqv (.tuple [.str tag, .int i, .int j]) (.tuple [.str tag, .int i, .int j]) = true by simp [PyData.eqv, PyData.eqvAll]]
  exact k
theorem tri_ne {K : PySem.W.Frag} {H : Hp} {tag : Str} {i j : Int} {t1 t2 : Addr} {Q : VK} (ht : PyData.strOk tag = true) (h1 : H t1 = some (.tup [.str tag, .int i, .int j])) (h2 : H t2 = some (.tup [.str tag, .int i, .int j])) (k : Q (.bl false) H) : rNeD K (.ref t1) (.ref t2) H Q := by
  have sh : SeqAt.shaped (.tuple [.str tag, .int i, .int j]) = true := by
    show (PyData.canLay0 (.tuple [.str tag, .int i, .int j]) && decide (PyData.depth (.tuple [.str tag, .int i, .int j]) ≤ 64)) = true
    rw [Bool.and_eq_true]
    refine ⟨by simp [PyData.canLay0, PyData.canLayAll0, ht], decide_eq_true ?_⟩
    simp only [PyData.depth, PyData.depthAll]
    omega
  refine ⟨_, _, .tup (SqT.of h1) (.cons (.str tag) (.cons (.int i) (.cons (.int j) .nil))), .tup (SqT.of h2) (.cons (.str tag) (.cons (.int i) (.cons (.int j) .nil))), sh, sh, ?_⟩
  rw [show PyData.eqv (.tuple [.str tag, .int i, .int j]) (.tuple [.str tag, .int i, .int j]) = true by simp [PyData.eqv, PyData.eqvAll]]
  exact k
abbrev nStruck : List Str := ["_law_pen", "_law_code_here", "_law_words_here", "_law_counts", "_law_many", "_law_sign", "_law_odd", "_law_told", "_law_due", "_law_left", "_law_kept"]
theorem scAreStruck : FnScope nStruck ["_law_pen", "_law_code_here", "_law_words_here", "_law_counts"] (defScope sLAreStruck) := ⟨rfl, rfl, rfl, by decide +kernel, rfl, by decide +kernel, by decide +kernel⟩
theorem is_erase (ns : List Int) (i : Nat) : (Is ns).take i ++ (Is ns).drop (i + 1) = Is (ns.eraseIdx i) := by
  rw [List.eraseIdx_eq_take_drop_succ]
  simp [Is, List.map_take, List.map_drop]
theorem ws_erase2 (ws : List Hf.Wd) (i : Nat) : (Ws ws).take i ++ (Ws ws).drop (i + 1) = Ws (ws.eraseIdx i) := by
  rw [List.eraseIdx_eq_take_drop_succ]
  simp [Ws, List.map_take, List.map_drop]
theorem erase_len {α : Type} {l : List α} {i : Nat} (h : i < l.length) : (l.eraseIdx i).length + 1 = l.length := by
  rw [List.length_eraseIdx, if_pos h]
  omega
theorem min_of : ∀ {l : List Int}, 0 < l.length → ∃ m, m ∈ l ∧ ∀ x ∈ l, m ≤ x
  | [y], _ => ⟨y, List.mem_cons_self, fun x hx => by rw [List.mem_singleton.mp hx]; exact Int.le_refl _⟩
  | y :: z :: r, _ => by
    obtain ⟨m, h1, h2⟩ := min_of (l := z :: r) (Nat.succ_pos _)
    by_cases q : y ≤ m
    · exact ⟨y, List.mem_cons_self, fun x hx => by
        rcases List.mem_cons.mp hx with e | e
        · rw [e]; exact Int.le_refl _
        · have := h2 x e
          omega⟩
    · exact ⟨m, List.mem_cons_of_mem _ h1, fun x hx => by
        rcases List.mem_cons.mp hx with e | e
        · rw [e]; omega
        · exact h2 x e⟩
theorem kAreStruck {c0 Pt : Addr} (A : LamD K mg base "_law_are_struck" sLAreStruck c0 Pt) (hT : (Pt, lq "_law_are_struck") ∈ T) (hu : ∀ p ∈ T, p.1 = Pt → p.2 = lq "_law_are_struck") (B : Bi mg) (TC : CTxt K mg C) (D : Law0 P w K mg base R C) :
    Kn P w K mg base CX0 11 "_law_are_struck" ["_law_pen", "_law_code_here", "_law_words_here", "_law_counts"] (spArePut C T) := by
  have sc := scAreStruck
  refine A.kn scAreStruck (fun vs H Q E h => ?_) (fun f Ar outer s H vs Q E hr h => ?_) (fun _ _ _ _ _ _ us hl => match us, hl with | [_, _, _, _], _ => rfl)
  · obtain ⟨p, ca, c, a, b, k, ws, ns, rfl, _⟩ := h
    rfl
  · obtain ⟨p, ca, c, a, b, kk, ws, ns, rfl, hC, hA, hB, hF, hl, h20, h0, hP, hTb, k⟩ := h
    have hun : (cxOf CX0 P w K mg base nStruck "_law_are_struck" (defScope sLAreStruck) f (.ref c0) Ar outer s H E).nox.A.units + 64 < cLine := hr.units
    refine ⟨_, (pss_cons (ps_asg (pe_tup (pa_cons (pe_callB call_len_seq (by rfl) B.len PySem.boot_len (pa_cons (pv 2) pa_nil)) (pa_cons (pe_kn D.draw (hr.mono (by decide)) pass0 (pa_cons (pv 0) (pa_cons (pe_callB call_len_seq (by rfl) B.len PySem.boot_len (pa_cons (pv 2) pa_nil)) pa_nil))) pa_nil))) (pg_tup rfl (pgs_cons (pg_name (i := 4) sc.nd rfl (Or.inl rfl)) (pgs_cons (pg_name (i := 5) sc.nd rfl (Or.inr rfl)) pgs_nil)))) (pss_cons (ps_set (i := 6) sc.nd rfl (Or.inr rfl) (pe_kn D.pick (hr.mono (by decide)) pass0 (pa_cons (pv 0) (pa_cons (pe_lst (pa_cons (pe_un un_neg pe_int) (pa_cons (pv 4) (pa_cons pe_non (pa_cons pe_bl (pa_cons pe_str (pa_cons (pe_lst (pa_cons pe_int pa_nil)) pa_nil))))))) pa_nil)))) (pss_cons (ps_if (pt_cmpR (op_neD hun) (pe_met (T := T) (k := 7) D.met (by rfl) A.tb rfl hT hu (hr.mono (by decide)) (lamS_by (sc := defScope sLAreStruck) (by decide +kernel)) rfl (fun _ _ _ _ _ => rfl) (fun A' outer' s' H' E' f' c' hr' => pe_kn (E := E') D.strike hr' (passes_call (takes_of rfl rfl rfl rfl) (fun _ _ _ _ h => h)) (pa_cons (pv 1) (pa_cons (pv 6) pa_nil)))) (pe_tup (pa_cons pe_str (pa_cons (pv 6) pa_nil))) (nomark _)) (pss_one (ps_ret pe_bl)) pss_nil) (pss_cons (ps_if (pt_cmpR op_eq (pv 4) pe_int (nomark _)) (pss_one (ps_ret (pe_cmpR (op_eqD hun) (pe_met (T := T) (k := 7) D.met (by rfl) A.tb rfl hT hu (hr.mono (by decide)) (lamS_by (sc := defScope sLAreStruck) (by decide +kernel)) rfl (fun _ _ _ _ _ => rfl) (fun A' outer' s' H' E' f' c' hr' => pe_kn (E := E') D.strike hr' (passes_call (takes_of rfl rfl rfl rfl) (fun _ _ _ _ h => h)) (pa_cons (pv 1) (pa_cons (pv 5) pa_nil)))) (pe_tup (pa_cons pe_str (pa_cons pe_int (pa_cons pe_int pa_nil)))) (nomark _)))) pss_nil) (pss_cons (ps_par (i := 7) (j := 8) rfl sc.nd rfl rfl (by decide) rfl rfl (pa_cons (pe_kn (E := E0) D.strike (hr.mono (by decide)) passL (pa_cons (pv 1) (pa_cons (pv 5) pa_nil))) (pa_cons (pe_kn D.struck (hr.mono (by decide)) pass0 (pa_cons (pv 2) (pa_cons (pv 5) pa_nil))) pa_nil)) (by rfl)) (pss_cons (ps_if (pt_cmpR (op_neD hun) (pe_fld (pv 7) rfl) (pe_callTy call_tuple_of (by rfl) B.tuple (by decide +kernel) (pa_cons (pv 8) pa_nil)) (nomark _)) (pss_one (ps_ret pe_bl)) pss_nil) (pss_cons (ps_set (i := 9) sc.nd rfl (Or.inl rfl) (pe_op op_cat (pe_slice sl_list (pv 3) po_none (po_some (pv 5))) (pe_slice sl_list (pv 3) (po_some (pe_op op_add (pv 5) pe_int)) po_none))) (pss_cons (ps_if (PW.pt (pw_or (pt_cmpR op_gt (pe_ix ix_list (pv 3) (pv 5) (fun _ _ => rfl)) pe_int (nomark _)) (pw_or1 (pt_not (pt_val (pe_kn D.isLeast (hr.mono (by decide)) pass0 (pa_cons (pv 2) (pa_cons (pv 3) pa_nil)))))))) (pss_one (ps_ret pe_bl)) pss_nil) (pss_cons (ps_set (i := 10) sc.nd rfl (Or.inl rfl) (pe_op op_cat (pe_slice sl_list (pv 2) po_none (po_some (pv 5))) (pe_slice sl_list (pv 2) (po_some (pe_op op_add (pv 5) pe_int)) po_none))) (pss_one (ps_ret (pe_and (pe_kn D.isLeast (hr.mono (by decide)) pass0 (pa_cons (pv 8) (pa_cons (pv 9) pa_nil))) (pe_one (pe_cmpR op_eq (pe_kn D.changed (hr.mono (by decide)) pass0 (pa_cons (pv 10) (pa_cons (pv 8) (pa_cons (pv 9) pa_nil)))) (pe_callB (cr_min rfl) (by rfl) B.min (by decide +kernel) (pa_cons (pv 9) pa_nil)) (nomark _))))))))))))))), ?_⟩
    have f2 := full_len hF
    refine ⟨_, rfl, a, _, rfl, .inl (SqL.of hA), _, rfl, _, rfl, a, _, rfl, .inl (SqL.of hA), p, ca, ws.length, kk + 1, by rw [ws_len]; rfl, by omega, by omega, hP, fun H0 i b0 hP0 hi => ⟨by show 2 ≤ sizeLine; decide, fun t0 ht0 => ?_⟩⟩
    refine ⟨t0, _, rfl, SqT.of upd_same, rfl, _, _, rfl, _, _, rfl, rfl, ?_⟩
    have b1 := b0.trans (But.of (same_upd (o := .tup [.int ((Ws ws).length : Nat), .int (i : Nat)]) ht0))
    have hP1 := hP0.up (same_upd (o := .tup [.int ((Ws ws).length : Nat), .int (i : Nat)]) ht0)
    generalize upd H0 t0 (.tup [.int ((Ws ws).length : Nat), .int (i : Nat)]) = H1 at b1 hP1
    have hC1 := hC.butT hP (ButT.of b1)
    have hA1 := b1 _ _ (hP.ne hA) hA
    have hB1 := b1 _ _ (hP.ne hB) hB
    have hT1 := tabs_pen hTb b1 hP
    -- odd
    refine ⟨_, rfl, _, rfl, _, rfl, by show 1 ≤ sizeLine; decide, fun z hz => ⟨by show 6 ≤ sizeLine; decide, fun o ho => ?_⟩⟩
    have S2 := (same_upd (o := .lst [.int 0]) hz)
    refine ⟨p, ca, o, kk, _, rfl, upd_same, by show 0 < 6; decide, by show 6 < 1000; decide, ((hP1.up S2).up (same_upd ho)), fun H3 v b3 hP3 hv => ?_⟩
    have T3 : Tabs T H3 := tabs_pen ((hT1.ext S2).ext (same_upd ho)) b3 ((hP1.up S2).up (same_upd ho))
    have B3 : But p H1 H3 := (But.of (S2.trans (same_upd ho))).trans b3
    have hz3 : H3 z = some (.lst [.int 0]) := b3 _ _ ((hP1.up S2).ne (xs := [.int 0]) upd_same) ((same_upd ho) _ _ upd_same)
    have hodd : Odd H3 v ∧ isSgn ws.length v = false := by
      simp only [List.mem_cons, List.not_mem_nil, or_false] at hv
      rcases hv with rfl | rfl | rfl | rfl | rfl | rfl
      · exact ⟨.inl ⟨_, rfl⟩, isSgn_out (.inl (by decide))⟩
      · exact ⟨.inl ⟨_, rfl⟩, isSgn_out (.inr (by rw [ws_len]; omega))⟩
      · exact ⟨.inr (.inl rfl), rfl⟩
      · exact ⟨.inr (.inr (.inl ⟨_, rfl⟩)), rfl⟩
      · exact ⟨.inr (.inr (.inr (.inl rfl))), rfl⟩
      · exact ⟨.inr (.inr (.inr (.inr ⟨z, rfl, hz3⟩))), rfl⟩
    obtain ⟨od, hnr⟩ := hodd
    refine ⟨T3, fun H4 e4 T4 => ?_⟩
    have Bt4 : ButT p H1 H4 := (ButT.of B3).trans (ButT.ext e4)
    have P4 := hP3.ext e4
    have C4 := hC1.butT hP1 Bt4
    refine ⟨_, rfl, _, rfl, c, v, ws, rfl, C4, (od.ext e4).okv, hF, by omega, (fun _ d H5 s5 hd => ?_), (fun q => by rw [hnr] at q; cases q), fun _ i' b' a' H' c' e hg _ _ => ?_⟩
    rotate_left
    · rw [e] at hnr
      have : isSgn ws.length (.int (i' : Nat)) = true := decide_eq_true ⟨by omega, by have := lt_of_get hg; omega⟩
      rw [this] at hnr
      cases hnr
    refine .inr (.inl ⟨rfl, d, v, rfl, hd, fun t ht => ?_⟩)
    refine ⟨_, rfl, by show 2 ≤ sizeLine; decide, fun t4 ht4 => ?_⟩
    have s6 := (same_upd (o := .tup [.str "sign", v]) ht)
    have s7 := (same_upd (o := .tup [.str "sign", v]) ht4)
    have s57 := (s5.trans s6).trans s7
    refine odd_ne (tag := "sign") ((((od.ext e4).up s5).up s6).up s7) (by decide +kernel) (s7 _ _ upd_same) upd_same ⟨_, rfl, ?_⟩
    have Bt7 : ButT p H1 (upd (upd H5 t (.tup [.str "sign", v])) t4 (.tup [.str "sign", v])) := Bt4.trans (ButT.of (But.of s57))
    have P7 := P4.up s57
    have T7 := T4.ext s57
    generalize upd (upd H5 t (.tup [.str "sign", v])) t4 (.tup [.str "sign", v]) = H7 at Bt7 P7 T7
    refine iteF ?_
    have C7 := hC1.butT hP1 Bt7
    have A7 := Bt7.lst (hP1.ne hA1) hA1
    have B7 := Bt7.lst (hP1.ne hB1) hB1
    have hsg : isSgn ws.length (.int (i : Nat)) = true := decide_eq_true ⟨by omega, by omega⟩
    refine ⟨_, rfl, rfl, _, rfl, ?_⟩
    rw [ws_len]
    by_cases n2 : ws.length = 2
    · rw [decide_eq_true (show V.int (ws.length : Nat) = V.int 2 by rw [n2]; rfl)]
      refine iteT ⟨T7, fun H8 e8 T8 => ?_⟩
      have Bt8 := Bt7.trans (ButT.ext e8)
      refine ⟨_, rfl, _, rfl, c, .int (i : Nat), ws, rfl, hC1.butT hP1 Bt8, True.intro, hF, by omega, (fun q => by rw [hsg] at q; cases q), (fun _ _ d H9 s9 hd => ?_), fun q => by omega⟩
      refine .inr (.inr (.inl ⟨rfl, d, _, _, _, rfl, hd, fun t ht => ?_⟩))
      refine ⟨by show 3 ≤ sizeLine; decide, fun t4 ht4 => ?_⟩
      have s10 := (same_upd (o := .tup [.str "signs", .int 1, .int 2000]) ht)
      have s11 := (same_upd (o := .tup [.str "signs", .int 1, .int 2000]) ht4)
      refine tri_eq (tag := "signs") (by decide +kernel) (s11 _ _ upd_same) upd_same ?_
      exact k _ ((ButT.of b1).trans (Bt8.trans (ButT.of (But.of ((s9.trans s10).trans s11))))) ((P7.ext e8).up ((s9.trans s10).trans s11)) (T8.ext ((s9.trans s10).trans s11))
    rw [decide_eq_false (show ¬ V.int (ws.length : Nat) = V.int 2 by intro z; injection z with z; omega)]
    refine iteF ?_
    obtain ⟨x, hx⟩ := get_of_lt hi
    obtain ⟨aw, bw, rfl⟩ := snoc_of (hF.long (List.mem_of_getElem? hx))
    have Bw := full_bits hF
    refine ⟨_, rfl, _, rfl, c, .int (i : Nat), ws, rfl, C7, True.intro, hF, by omega, (fun q => by rw [hsg] at q; cases q), (fun _ q => by omega), fun _ i' b' a' H8 c2 ei hg' s8 hc8 => ?_⟩
    obtain rfl : i = i' := by
      injection ei with ei
      omega
    rw [hx] at hg'
    have hab := List.append_inj' (Option.some.inj hg') rfl
    obtain rfl : aw = a' := hab.1
    obtain rfl : bw = b' := List.head_eq_of_cons_eq hab.2
    have hFd := (hF.strike (Hf.perm_erase hx) (by omega)).1
    have hel := erase_len hi
    have hdl : ((ws.eraseIdx i).map (Hf.mv aw bw)).length + 1 = ws.length := by rw [List.length_map]; exact hel
    have hil : i < ns.length := by omega
    have hnl := erase_len hil
    refine ⟨_, rfl, _, rfl, a, i, bw, ws, aw, rfl, s8 _ _ A7, hx, Bw, by omega, (fun x hx => by have := hF.short hx; omega), fun H9 ld s9 hld hL => ⟨_, _, rfl, ?_⟩⟩
    have hsl := fun (m c d : Int) (h1 : ns[i]? = some 0) => Hf.strike_least (m := m) (c := c) (d := d) hF hl (by omega) hx h1 h0
    have Bd := full_bits hFd
    generalize hdue : (ws.eraseIdx i).map (Hf.mv aw bw) = due at *
    have S9 := s8.trans s9
    have C9 := hc8.up s9
    have sameT : ∀ us : List Hf.Wd, PyData.eqv (.tuple (dW us)) (.tuple (dW us)) = true := fun us => by
      have := dW_same us
      simpa [PyData.eqv] using this
    obtain ⟨dx, wt, fs, e1, e2, e3, e4'⟩ := id C9
    refine ⟨_, rfl, c2, C, dx, fs, _, rfl, e1, TC.cl, TC.nW, e2, _, rfl, ld, _, rfl, .inl ⟨SqL.of hL, fun t1 ht1 => ?_⟩⟩
    refine ⟨.tuple (dW due), .tuple (dW due), .tup (SqT.of ((same_upd ht1) _ _ e4')) (dW_all _), .tup (SqT.of upd_same) (dW_all _), dW_tup Bd, dW_tup Bd, _, rfl, ?_⟩
    rw [sameT]
    refine iteF ?_
    have S10 := S9.to (o := .tup (Ws due)) ht1
    have L10 := (same_upd (o := .tup (Ws due)) ht1) _ _ hL
    -- left
    refine ⟨_, rfl, _, rfl, _, rfl, b, _, rfl, SqL.of (S10 _ _ B7), fun p1 hp1 => ?_⟩
    have S11 := S10.to (o := .lst (cutV (Is ns) none (some (i : Nat)))) hp1
    refine ⟨_, rfl, _, rfl, _, _, rfl, rfl, ((i + 1 : Nat) : Int), (show V.int ((i : Int) + 1) = V.int ((i + 1 : Nat) : Int) by congr 1), b, _, rfl, SqL.of (S11 _ _ B7), fun q1 hq1 => ?_⟩
    have S12 := S11.to (o := .lst (cutV (Is ns) (some ((i + 1 : Nat) : Int)) none)) hq1
    have el : cutV (Is ns) none (some (i : Int)) ++ cutV (Is ns) (some ((i + 1 : Nat) : Int)) none = Is (ns.eraseIdx i) := by
      rw [cut_to, cut_from]
      exact is_erase ns i
    refine ⟨p1, q1, _, _, rfl, rfl, (same_upd hq1) _ _ upd_same, upd_same, ?_, fun g hg => ?_⟩
    · rw [← List.length_append, el, is_len]
      exact line_of (by omega)
    rw [el]
    have S13 := S12.to (o := .lst (Is (ns.eraseIdx i))) hg
    have L13 := (same_upd (o := .lst (Is (ns.eraseIdx i))) hg) _ _ ((same_upd (o := .lst (cutV (Is ns) (some ((i + 1 : Nat) : Int)) none)) hq1) _ _ ((same_upd (o := .lst (cutV (Is ns) none (some (i : Nat)))) hp1) _ _ L10))
    have G13 := @upd_same (upd (upd (upd H9 t1 (.tup (Ws due))) p1 (.lst (cutV (Is ns) none (some (i : Nat))))) q1 (.lst (cutV (Is ns) (some ((i + 1 : Nat) : Int)) none))) g (.lst (Is (ns.eraseIdx i)))
    generalize upd (upd (upd (upd H9 t1 (.tup (Ws due))) p1 (.lst (cutV (Is ns) none (some (i : Nat))))) q1 (.lst (cutV (Is ns) (some ((i + 1 : Nat) : Int)) none))) g (.lst (Is (ns.eraseIdx i))) = H13 at S13 L13 G13
    have fin : ∀ H', Same H7 H' → Q (.bl true) H' := fun H' s => k H' ((ButT.of b1).trans (Bt7.trans (ButT.of (But.of s)))) (P7.up s) (T7.ext s)
    obtain ⟨n, hn⟩ := get_of_lt hil
    have hn0 := h0 n (List.mem_of_getElem? hn)
    refine ⟨_, rfl, _, rfl, b, _, _, _, rfl, rfl, SqL.of (S13 _ _ B7), atI_nat (is_get hn), _, _, rfl, rfl, _, rfl, ?_⟩
    by_cases npos : 0 < n
    · rw [decide_eq_true npos]
      exact iteT (iteT (fin _ S13))
    rw [decide_eq_false npos]
    obtain rfl : n = 0 := by omega
    refine iteF ⟨_, rfl, _, rfl, a, b, ws, ns, rfl, S13 _ _ A7, S13 _ _ B7, by omega, (fun x hx => by have := hF.short hx; omega), by omega, by omega, fun H14 c14 s14 hc14 => ⟨_, rfl, ?_⟩⟩
    by_cases hco : Hf.cost (Hf.lens ws) ns = c14
    rotate_left
    · rw [decide_eq_false hco]
      exact iteT (fin _ (S13.trans s14))
    rw [decide_eq_true hco]
    refine iteF ?_
    have S14 := S13.trans s14
    have L14 := s14 _ _ L13
    have G14 := s14 _ _ G13
    -- kept
    refine ⟨_, rfl, _, rfl, _, rfl, a, _, rfl, SqL.of (S14 _ _ A7), fun p2 hp2 => ?_⟩
    have S15 := S14.to (o := .lst (cutV (Ws ws) none (some (i : Nat)))) hp2
    refine ⟨_, rfl, _, rfl, _, _, rfl, rfl, ((i + 1 : Nat) : Int), (show V.int ((i : Int) + 1) = V.int ((i + 1 : Nat) : Int) by congr 1), a, _, rfl, SqL.of (S15 _ _ A7), fun q2 hq2 => ?_⟩
    have S16 := S15.to (o := .lst (cutV (Ws ws) (some ((i + 1 : Nat) : Int)) none)) hq2
    have ek : cutV (Ws ws) none (some (i : Int)) ++ cutV (Ws ws) (some ((i + 1 : Nat) : Int)) none = Ws (ws.eraseIdx i) := by
      rw [cut_to, cut_from]
      exact ws_erase2 ws i
    refine ⟨p2, q2, _, _, rfl, rfl, (same_upd hq2) _ _ upd_same, upd_same, ?_, fun kp hkp => ?_⟩
    · rw [← List.length_append, ek, ws_len]
      exact line_of (by omega)
    rw [ek]
    have S17 := S16.to (o := .lst (Ws (ws.eraseIdx i))) hkp
    have s1417 := ((same_upd (o := .lst (cutV (Ws ws) none (some (i : Nat)))) hp2).trans (same_upd (o := .lst (cutV (Ws ws) (some ((i + 1 : Nat) : Int)) none)) hq2)).trans (same_upd (o := .lst (Ws (ws.eraseIdx i))) hkp)
    have L17 := s1417 _ _ L14
    have G17 := s1417 _ _ G14
    have K17 := @upd_same (upd (upd H14 p2 (.lst (cutV (Ws ws) none (some (i : Nat))))) q2 (.lst (cutV (Ws ws) (some ((i + 1 : Nat) : Int)) none))) kp (.lst (Ws (ws.eraseIdx i)))
    generalize upd (upd (upd H14 p2 (.lst (cutV (Ws ws) none (some (i : Nat))))) q2 (.lst (cutV (Ws ws) (some ((i + 1 : Nat) : Int)) none))) kp (.lst (Ws (ws.eraseIdx i))) = H17 at S17 L17 G17 K17
    refine ⟨_, rfl, _, rfl, ld, g, due, _, rfl, L17, G17, by omega, (fun x hx => by have := hFd.short hx; omega), by omega, by omega, fun H18 c18 s18 hc18 => ⟨_, rfl, ?_⟩⟩
    obtain ⟨m0, hm0, hle0⟩ : ∃ m0, m0 ∈ ns.eraseIdx i ∧ ∀ x ∈ ns.eraseIdx i, m0 ≤ x := min_of (by omega)
    have fact := hsl m0 c14 c18 hn hc14 hco hc18 hm0 hle0
    rw [decide_eq_true fact.1]
    refine iteT ⟨_, rfl, _, rfl, _, rfl, kp, ld, g, ws.eraseIdx i, due, ns.eraseIdx i, rfl, SqL.of (s18 _ _ K17), SqL.of (s18 _ _ L17), SqL.of (s18 _ _ G17), by omega, by omega, by omega, fun H19 s19 => ?_⟩
    refine ⟨_, rfl, g, _, rfl, SqL.of (s19 _ _ (s18 _ _ G17)), by omega, fun m' hm' hle' => ⟨rfl, ?_⟩⟩
    have emm : m' = m0 := Int.le_antisymm (hle' _ hm0) (hle0 _ hm')
    have e : decide (V.int (Hf.chg (ws.eraseIdx i) due (ns.eraseIdx i)) = V.int m') = true := decide_eq_true (by rw [fact.2, emm])
    rw [e]
    exact fin _ ((S17.trans s18).trans s19)
end
end Wv
set_option Elab.async false
set_option linter.all false
set_option maxRecDepth 100000
set_option maxHeartbeats 2000000
namespace Wv
open PySem PySem.Spec PyProof.Rows L2 TL LamX
section
variable {P : Program} {w : World} {K : PySem.W.Frag} {mg : Str → Option Value} {base : Heap} {R : EA} {C : Addr} {T : List (Addr × Str)}
structure Law1 (P : Program) (w : World) (K : PySem.W.Frag) (mg : Str → Option Value) (base : Heap) (R : EA) (C : Addr) (T : List (Addr × Str)) : Prop where
  b : Law0 P w K mg base R C
  penOf : Kn P w K mg base CX0 1 "_law_pen_of" ["_law_script"] (spPenOf K)
  words : Kn P w K mg base CX0 3 "_law_words" ["_law_pen", "_law_many"] spWords
  code : Kn P w K mg base CX0 6 "_law_code" ["_law_words_here"] (spCodeOf C)
  near : Kn P w K mg base CX0 4 "_law_near_counts" ["_law_pen", "_law_lengths"] spNear
  arePut : Kn P w K mg base CX0 11 "_law_are_put" ["_law_pen", "_law_code_here", "_law_words_here", "_law_counts"] (spArePut C T)
  areStruck : Kn P w K mg base CX0 11 "_law_are_struck" ["_law_pen", "_law_code_here", "_law_words_here", "_law_counts"] (spArePut C T)
def spLaw (K : PySem.W.Frag) (T : List (Addr × Str)) : Sp := fun vs H Q _ => ∃ (a : Addr) (ns : List Int), vs = [.ref a] ∧ SqL K H a (Is ns) ∧ ns.length ≤ 63 ∧ Tabs T H ∧ ∀ H', Q (.bl true) H'
abbrev nLaw : List Str := ["_law_script", "_law_pen", "_law_turn", "_law_words_here", "_law_code_here", "_law_counts", "_law_word"]
theorem scLaw : FnScope nLaw ["_law_script"] (defScope sLaw) := ⟨rfl, rfl, rfl, by decide +kernel, rfl, by decide +kernel, by decide +kernel⟩
theorem tabs_lst {H : Hp} {b : Addr} {xs xs' : List V} (t : Tabs T H) (h : H b = some (.lst xs)) : Tabs T (upd H b (.lst xs')) := fun q hq => by
  obtain ⟨ps, h1, h2, h3⟩ := t q hq
  refine ⟨ps, by rw [upd_ne (fun z => by rw [z, h] at h1; cases h1)]; exact h1, h2, fun pos cv hc => ?_⟩
  obtain ⟨c, e1, e2⟩ := h3 pos cv hc
  exact ⟨c, e1, by rw [upd_ne (fun z => by rw [z, h] at e2; unfold CodeO at e2; cases e2)]; exact e2⟩
theorem code_lst {H : Hp} {b c : Addr} {xs xs' : List V} {ws : List Hf.Wd} (x : CodeAt C H c ws) (h : H b = some (.lst xs)) : CodeAt C (upd H b (.lst xs')) c ws := by
  obtain ⟨dx, wt, fs, h1, h2, h3, h4⟩ := x
  exact ⟨dx, wt, fs, by rw [upd_ne (fun z => by rw [z, h] at h1; cases h1)]; exact h1, h2, h3, by rw [upd_ne (fun z => by rw [z, h] at h4; cases h4)]; exact h4⟩
/-- .. with the function object -/
theorem LamD.knF {x : Str} {st : Stmt} {c Pt : Addr} {k : Nat} {N ps : List Str} {sp : Sp} (L : LamD K mg base x st c Pt) (S : FnScope N ps (defScope st)) (len : ∀ vs H Q E, sp vs H Q E → vs.length = ps.length)
    (hbody : ∀ (f : Addr) (A : Around) (outer : List Env) (s : Shared) (H : Hp) (vs : List V) (Q : VK) (E : XK), Room k (A.deeper (envOfC x (defScope st) s.heap.objs.size f (.ref c))) → sp vs H Q E →
      ∃ t, PSs (cxOf CX0 P w K mg base N x (defScope st) f (.ref c) A outer s H E).nox (defBody st) t ∧ t { nx := fun _ H' => Q .non H', rt := Q } (L2.start N vs) H) :
    ∃ (f : Addr) (fd : FuncData) (oc : Value) (od : Option Addr) (osl : Array (Option Value)), FnOk P w K mg base CX0 (k + 1) f fd ps sp ∧ mg x = some (.ref f) ∧ K.lookup f = some ⟨oc, od, .func fd, osl⟩ := by
  obtain ⟨f, oc, od, kV, doc, pm, an, ct, osl, lk, hc, kp, hm⟩ := L.ex
  refine ⟨f, _, oc, od, osl, fn_of lk hc S len fun A outer s H vs Q E hr hsp => ?_, hm, lk⟩
  obtain ⟨t, ht, hq⟩ := hbody f A outer s H vs Q E hr hsp
  exact ⟨t, ht.nox, hq⟩
theorem kLaw {c0 Pt : Addr} (A : LamD K mg base "law" sLaw c0 Pt) (hT : (Pt, lq "law") ∈ T) (hu : ∀ p ∈ T, p.1 = Pt → p.2 = lq "law") (B : Bi mg) (TC : CTxt K mg C) (D : Law1 P w K mg base R C T) :
    ∃ (f : Addr) (fd : FuncData) (oc : Value) (od : Option Addr) (osl : Array (Option Value)), FnOk P w K mg base CX0 12 f fd ["_law_script"] (spLaw K T) ∧ mg "law" = some (.ref f) ∧ K.lookup f = some ⟨oc, od, .func fd, osl⟩ := by
  have sc := scLaw
  refine LamD.knF A scLaw (fun vs H Q E h => ?_) (fun f Ar outer s H vs Q E hr h => ?_)
  · obtain ⟨a, ns, rfl, _⟩ := h
    rfl
  · obtain ⟨a, ns0, rfl, hS, h63, hTb, k⟩ := h
    have hun : (cxOf CX0 P w K mg base nLaw "law" (defScope sLaw) f (.ref c0) Ar outer s H E).nox.A.units + 64 < cLine := hr.units
    refine ⟨_, (pss_cons (ps_set (i := 1) sc.nd rfl (Or.inl rfl) (pe_kn D.penOf (hr.mono (by decide)) pass0 (pa_cons (pv 0) pa_nil))) (pss_cons (ps_for PassesOwn.never rfl (pi_range1 (by rfl) B.range (pa_cons pe_int pa_nil)) (pg_name (i := 2) sc.nd rfl (Or.inl rfl)) (pss_cons (ps_set (i := 3) sc.nd rfl (Or.inl rfl) (pe_kn D.words (hr.mono (by decide)) pass0 (pa_cons (pv 1) (pa_cons (pe_op op_add pe_int (pe_kn D.b.draw (hr.mono (by decide)) pass0 (pa_cons (pv 1) (pa_cons pe_int pa_nil)))) pa_nil)))) (pss_cons (ps_asg (pe_tup (pa_cons (pe_kn D.code (hr.mono (by decide)) pass0 (pa_cons (pv 3) pa_nil)) (pa_cons (pe_kn D.near (hr.mono (by decide)) pass0 (pa_cons (pv 1) (pa_cons (pe_lc (own := [("_law_word", 6)]) rfl sc.nd (pi_list (pv 3)) (blkOk_by (own := [("_law_word", 6)]) (N := nLaw) (sc := defScope sLaw) (by decide +kernel)) (fun _ _ _ _ _ => (pg_name (i := 6) sc.nd rfl (Or.inl rfl))) (fun _ _ _ _ _ => pts_nil) (fun _ _ _ _ _ => (pe_callB call_len_str (by rfl) B.len PySem.boot_len (pa_cons (pv 6) pa_nil)))) pa_nil))) pa_nil))) (pg_tup rfl (pgs_cons (pg_name (i := 4) sc.nd rfl (Or.inr rfl)) (pgs_cons (pg_name (i := 5) sc.nd rfl (Or.inr rfl)) pgs_nil)))) (pss_cons (ps_if (pt_cmpR op_eq (pe_kn D.b.draw (hr.mono (by decide)) pass0 (pa_cons (pv 1) (pa_cons pe_int pa_nil))) pe_int (nomark _)) (pss_one (ps_asg pe_int (pg_sub (pv 5) (pe_kn D.b.draw (hr.mono (by decide)) pass0 (pa_cons (pv 1) (pa_cons (pe_callB call_len_seq (by rfl) B.len PySem.boot_len (pa_cons (pv 5) pa_nil)) pa_nil))) set_list))) pss_nil) (pss_cons (ps_if (PW.pt (pw_or (pt_not (pt_val (pe_kn D.arePut hr pass0 (pa_cons (pv 1) (pa_cons (pv 4) (pa_cons (pv 3) (pa_cons (pv 5) pa_nil))))))) (pw_or1 (pt_not (pt_val (pe_kn D.areStruck hr pass0 (pa_cons (pv 1) (pa_cons (pv 4) (pa_cons (pv 3) (pa_cons (pv 5) pa_nil)))))))))) (pss_one (ps_ret pe_bl)) pss_nil) (pss_one (ps_if (pt_cmpR (op_neD hun) (pe_met (T := T) (k := 8) D.b.met (by rfl) A.tb rfl hT hu (hr.mono (by decide)) (lamS_by (sc := defScope sLaw) (by decide +kernel)) rfl (fun _ _ _ _ _ => rfl) (fun A' outer' s' H' E' f' c' hr' => pe_kn (E := E') D.b.putSign hr' (passes_call (takes_of rfl rfl rfl rfl) (fun _ _ _ _ h => h)) (pa_cons (pv 4) (pa_cons (pe_op op_cat (pv 5) (pe_lst (pa_cons pe_int pa_nil))) (pa_cons pe_non pa_nil))))) (pe_tup (pa_cons pe_str (pa_cons (pe_op op_add (pe_callB call_len_seq (by rfl) B.len PySem.boot_len (pa_cons (pv 5) pa_nil)) pe_int) (pa_cons (pe_callB call_len_seq (by rfl) B.len PySem.boot_len (pa_cons (pv 5) pa_nil)) pa_nil)))) (nomark _)) (pss_one (ps_ret pe_bl)) pss_nil))))))) (pss_one (ps_ret pe_bl)))), ?_⟩
    refine ⟨_, rfl, a, ns0, rfl, hS, h63, fun H1 p ca s1 hp0 hca0 hP1 => ⟨5, rfl, by decide, by decide, ?_⟩⟩
    have T1 := hTb.ext s1
    refine for_it (J := Itr 0 5) (n := 5) (G := fun _ => True) (Y := YFn fun i => .int (0 + i)) walk_range (fun j σ H' => Pen p ca (200 * (5 - j)) H' ∧ Tabs T H' ∧ ∃ u2 u3 u4 u5 u6 : Option V, σ = [some (.ref a), some (.ref p), u2, u3, u4, u5, u6])
      ⟨hP1.mono (by decide), T1, _, _, _, _, _, rfl⟩ (fun _ _ _ _ _ => True.intro) ?_ ?_
    · rintro j x σ H2 H2' hj ⟨P2, T2, u2, u3, u4, u5, u6, rfl⟩ ⟨rfl, rfl⟩
      obtain ⟨k0, hk0, hk1⟩ : ∃ k0, 200 * (5 - (j + 1)) = k0 ∧ 200 * (5 - j) = k0 + 200 := ⟨_, rfl, by omega⟩
      rw [hk0]
      rw [hk1] at P2
      refine ⟨_, rfl, _, rfl, p, ca, 8, k0 + 199, rfl, by decide, by decide, P2, fun H3 r b3 P3 hr8 => ⟨_, _, rfl, rfl, p, ca, k0 + 150, 2 + r, rfl, by omega, by omega, P3.mono (by omega), fun H4 l ws b4 P4 hl0 hL hF hn => ?_⟩⟩
      have T4 := tabs_pen (tabs_pen T2 b3 P2) b4 P3
      refine ⟨_, rfl, l, ws, rfl, hL, hF, by omega, fun H5 c s5 hc => ?_⟩
      have L5 := s5 _ _ hL
      refine ⟨_, rfl, _, rfl, l, rfl, ⟨_, SqL.of L5⟩, fun D' hD' => ?_⟩
      refine lc_lens (Nat.lt_succ_self 6) (SqL.of L5) (by omega) (fun x hx => by have := hF.short hx; omega) hD' fun H6 s6 h6 => ?_
      have P6 := (P4.up s5).up s6
      refine ⟨p, ca, D', k0 + 80, Hf.lens ws, rfl, h6, by rw [lens_len]; omega, by rw [lens_len]; omega, lens_le (fun x hx => by have := hF.short hx; omega), P6.mono (by rw [lens_len]; omega), fun H7 b ns b7 P7 hb0 hB hnl hnn => ⟨by show 2 ≤ sizeLine; decide, fun t ht => ⟨t, _, rfl, SqT.of upd_same, rfl, _, _, rfl, _, _, rfl, rfl, ?_⟩⟩⟩
      rw [lens_len] at hnl
      have s8 := same_upd (o := .tup [.ref c, .ref b]) ht
      have P8 := P7.up s8
      have T8 := (tabs_pen ((T4.ext s5).ext s6) b7 P6).ext s8
      have C8 := ((hc.up s6).butT P6 (ButT.of b7)).up s8
      have L8 := s8 _ _ (b7 _ _ (P6.ne (s6 _ _ L5)) (s6 _ _ L5))
      have B8 := s8 _ _ hB
      generalize upd H7 t (.tup [.ref c, .ref b]) = H8 at P8 T8 C8 L8 B8
      refine ⟨_, rfl, p, ca, 2, k0 + 79, rfl, by decide, by decide, P8, fun H9 r9 b9 P9 _ => ⟨rfl, _, rfl, ?_⟩⟩
      have T9 := tabs_pen T8 b9 P8
      have C9 := C8.butT P8 (ButT.of b9)
      have L9 := b9 _ _ (P8.ne L8) L8
      have B9 := b9 _ _ (P8.ne B8) B8
      by_cases hr9 : r9 = 0
      rotate_left
      · rw [decide_eq_false (show ¬ V.int (r9 : Nat) = V.int 0 by intro z; injection z with z; omega)]
        refine iteF ?_
        have PX : Pen p ca (k0 + 60) H9 := P9.mono (by omega)
        have TX := T9
        have CX := C9
        have LX := L9
        have BX := B9
        have NX := hnl
        have ZX := hnn
        generalize H9 = HX at PX TX CX LX BX ⊢
        generalize ns = nx at BX NX ZX ⊢
        have P1' := PX
        refine ⟨_, rfl, _, rfl, _, rfl, _, rfl, p, ca, c, l, b, k0 + 50, ws, nx, rfl, CX, LX, BX, hF, NX.symm, by omega, ZX, PX.mono (by omega), TX, fun H11 b11 P11 T11 => ⟨_, rfl, ?_⟩⟩
        have C11 := CX.butT PX b11
        have L11 := b11.lst (PX.ne LX) LX
        have B11 := b11.lst (PX.ne BX) BX
        refine iteF (A := True) ⟨_, rfl, _, rfl, _, rfl, _, rfl, p, ca, c, l, b, k0 + 40, ws, nx, rfl, C11, L11, B11, hF, NX.symm, by omega, ZX, P11.mono (by omega), T11, fun H12 b12 P12 T12 => ⟨_, rfl, ?_⟩⟩
        have C12 := C11.butT P11 b12
        have B12 := b12.lst (P11.ne B11) B11
        refine iteF (A := True) (iteF (A := True) ⟨T12, fun H13 e13 T13 => ?_⟩)
        have C13 := C12.ext e13
        have B13 := e13 _ _ B12 (fun ps z => by cases z)
        have P13 := P12.ext e13
        refine ⟨_, rfl, _, rfl, by show 1 ≤ sizeLine; decide, fun z hz => ⟨b, z, _, _, rfl, rfl, (same_upd hz) _ _ B13, upd_same, by rw [is_len]; exact line_of (by show nx.length + 1 ≤ 1000; omega), fun g hg => ?_⟩⟩
        have eg : Is nx ++ [.int 0] = Is (nx ++ [0]) := by simp [Is]
        rw [eg]
        have s14 := (same_upd (o := .lst [.int 0]) hz).trans (same_upd (o := .lst (Is (nx ++ [0]))) hg)
        have ln : (nx ++ [0]).length = nx.length + 1 := by simp
        refine ⟨c, g, .non, ws, nx ++ [0], rfl, C13.up s14, upd_same, True.intro, hF, by omega, by omega, by omega, (fun x hx => by
          rcases List.mem_append.mp hx with y | y
          · exact ZX x y
          · rw [List.mem_singleton.mp y]; decide), (fun _ d H15 s15 hd => ?_), (fun y => by omega), fun y => by omega⟩
        refine .inr (.inr (.inr ⟨rfl, d, _, _, rfl, hd, fun t5 ht5 => ?_⟩))
        have s16 := s15.to (o := .tup [.str "size", .int ((nx ++ [0]).length : Nat), .int (ws.length : Nat)]) ht5
        have B16 := s16 _ _ (s14 _ _ B13)
        refine ⟨_, rfl, b, _, rfl, .inl (SqL.of B16), _, _, rfl, rfl, _, rfl, b, _, rfl, .inl (SqL.of B16), by show 3 ≤ sizeLine; decide, fun t6 ht6 => ?_⟩
        have e5 : (upd H15 t5 (.tup [.str "size", .int ((nx ++ [0]).length : Nat), .int (ws.length : Nat)])) t5 = some (.tup [.str "size", .int ((ws.length : Int) + 1), .int (ws.length : Nat)]) := by
          rw [upd_same, ln, NX]
          rfl
        have ev : V.int (((Is nx).length : Nat) + 1) = V.int ((ws.length : Int) + 1) := by rw [is_len, NX]
        have ev2 : V.int ((Is nx).length : Nat) = V.int (ws.length : Nat) := by rw [is_len, NX]
        dsimp only
        rw [ev, ev2]
        have s17 := same_upd (o := .tup [.str "size", .int ((ws.length : Int) + 1), .int (ws.length : Nat)]) ht6
        refine tri_ne (tag := "size") (i := (ws.length : Int) + 1) (j := (ws.length : Nat)) (by decide +kernel) (s17 _ _ e5) upd_same ⟨_, rfl, ?_⟩
        refine iteF (A := True) ⟨(((P13.up s14).up s16).up s17).mono (by omega), (((T13.ext s14).ext s16).ext s17), _, _, _, _, _, rfl⟩
      · rw [decide_eq_true (show V.int (r9 : Nat) = V.int 0 by rw [hr9]; rfl)]
        refine iteT ⟨_, rfl, _, rfl, _, rfl, b, _, rfl, .inl (SqL.of B9), p, ca, ns.length, k0 + 78, by rw [is_len]; rfl, by omega, by omega, P9, fun H10 q b10 P10 hq => ?_⟩
        have T10 := tabs_pen T9 b10 P9
        have C10 := C9.butT P9 (ButT.of b10)
        have L10 := b10 _ _ (P9.ne L9) L9
        have B10 := b10 _ _ (P9.ne B9) B9
        refine ⟨b, _, _, q, rfl, rfl, B10, ixN_nat (by rw [is_len]; exact hq), ?_⟩
        have es : (Is ns).set q (.int 0) = Is (ns.set q 0) := (List.map_set ..).symm
        rw [es]
        have npb : b ≠ p := P10.ne B10
        have bX : ButT p H10 (upd H10 b (.lst (Is (ns.set q 0)))) → True := fun _ => True.intro
        have nbc : b ≠ ca := fun z => (P6.nof hb0).2 z
        have PX : Pen p ca (k0 + 60) (upd H10 b (.lst (Is (ns.set q 0)))) := (P10.upd ⟨npb, nbc⟩).mono (by omega)
        have TX := tabs_lst T10 B10 (xs' := Is (ns.set q 0))
        have CX := code_lst C10 B10 (xs' := Is (ns.set q 0))
        have nlb : l ≠ b := fun z => by rw [← z, s6 _ _ L5] at hb0; cases hb0
        have LX : (upd H10 b (.lst (Is (ns.set q 0)))) l = some (.lst (Ws ws)) := by rw [upd_ne nlb]; exact L10
        have BX := @upd_same H10 b (.lst (Is (ns.set q 0)))
        have NX : (ns.set q 0).length = ws.length := by rw [List.length_set]; exact hnl
        have ZX : ∀ x ∈ ns.set q 0, 0 ≤ x := fun x hx => by
          rcases List.mem_or_eq_of_mem_set hx with y | y
          · exact hnn x y
          · rw [y]; decide
        clear bX
        generalize upd H10 b (.lst (Is (ns.set q 0))) = HX at PX TX CX LX BX ⊢
        generalize ns.set q 0 = nx at BX NX ZX ⊢
        have P1' := PX
        refine ⟨_, rfl, _, rfl, _, rfl, _, rfl, p, ca, c, l, b, k0 + 50, ws, nx, rfl, CX, LX, BX, hF, NX.symm, by omega, ZX, PX.mono (by omega), TX, fun H11 b11 P11 T11 => ⟨_, rfl, ?_⟩⟩
        have C11 := CX.butT PX b11
        have L11 := b11.lst (PX.ne LX) LX
        have B11 := b11.lst (PX.ne BX) BX
        refine iteF (A := True) ⟨_, rfl, _, rfl, _, rfl, _, rfl, p, ca, c, l, b, k0 + 40, ws, nx, rfl, C11, L11, B11, hF, NX.symm, by omega, ZX, P11.mono (by omega), T11, fun H12 b12 P12 T12 => ⟨_, rfl, ?_⟩⟩
        have C12 := C11.butT P11 b12
        have B12 := b12.lst (P11.ne B11) B11
        refine iteF (A := True) (iteF (A := True) ⟨T12, fun H13 e13 T13 => ?_⟩)
        have C13 := C12.ext e13
        have B13 := e13 _ _ B12 (fun ps z => by cases z)
        have P13 := P12.ext e13
        refine ⟨_, rfl, _, rfl, by show 1 ≤ sizeLine; decide, fun z hz => ⟨b, z, _, _, rfl, rfl, (same_upd hz) _ _ B13, upd_same, by rw [is_len]; exact line_of (by show nx.length + 1 ≤ 1000; omega), fun g hg => ?_⟩⟩
        have eg : Is nx ++ [.int 0] = Is (nx ++ [0]) := by simp [Is]
        rw [eg]
        have s14 := (same_upd (o := .lst [.int 0]) hz).trans (same_upd (o := .lst (Is (nx ++ [0]))) hg)
        have ln : (nx ++ [0]).length = nx.length + 1 := by simp
        refine ⟨c, g, .non, ws, nx ++ [0], rfl, C13.up s14, upd_same, True.intro, hF, by omega, by omega, by omega, (fun x hx => by
          rcases List.mem_append.mp hx with y | y
          · exact ZX x y
          · rw [List.mem_singleton.mp y]; decide), (fun _ d H15 s15 hd => ?_), (fun y => by omega), fun y => by omega⟩
        refine .inr (.inr (.inr ⟨rfl, d, _, _, rfl, hd, fun t5 ht5 => ?_⟩))
        have s16 := s15.to (o := .tup [.str "size", .int ((nx ++ [0]).length : Nat), .int (ws.length : Nat)]) ht5
        have B16 := s16 _ _ (s14 _ _ B13)
        refine ⟨_, rfl, b, _, rfl, .inl (SqL.of B16), _, _, rfl, rfl, _, rfl, b, _, rfl, .inl (SqL.of B16), by show 3 ≤ sizeLine; decide, fun t6 ht6 => ?_⟩
        have e5 : (upd H15 t5 (.tup [.str "size", .int ((nx ++ [0]).length : Nat), .int (ws.length : Nat)])) t5 = some (.tup [.str "size", .int ((ws.length : Int) + 1), .int (ws.length : Nat)]) := by
          rw [upd_same, ln, NX]
          rfl
        have ev : V.int (((Is nx).length : Nat) + 1) = V.int ((ws.length : Int) + 1) := by rw [is_len, NX]
        have ev2 : V.int ((Is nx).length : Nat) = V.int (ws.length : Nat) := by rw [is_len, NX]
        dsimp only
        rw [ev, ev2]
        have s17 := same_upd (o := .tup [.str "size", .int ((ws.length : Int) + 1), .int (ws.length : Nat)]) ht6
        refine tri_ne (tag := "size") (i := (ws.length : Int) + 1) (j := (ws.length : Nat)) (by decide +kernel) (s17 _ _ e5) upd_same ⟨_, rfl, ?_⟩
        refine iteF (A := True) ⟨(((P13.up s14).up s16).up s17).mono (by omega), (((T13.ext s14).ext s16).ext s17), _, _, _, _, _, rfl⟩
    · rintro σ H2 ⟨P2, T2, u2, u3, u4, u5, u6, rfl⟩
      exact k H2
end
end Wv
set_option Elab.async false
set_option linter.all false
set_option maxRecDepth 100000
set_option maxHeartbeats 0
/-! ### what the head tells -/
namespace Wh
open PySem PySem.Spec PyProof.Rows L2 TL Wv
/-- a class's __init__ that names __class__: what stands in its function object -/
abbrev FnE : Type := Option (Str × Str × Arguments × FuncBody × Scope × Addr × List Str × Value × Value × Addr)
def errO (K : PySem.W.Frag) (x : Str) : FnE := match K.lookup (He.ma K (He.ga K x) "__init__") with
  | some ⟨_, _, .func fd, _⟩ => some (fd.name, fd.qualname, fd.params, fd.body, fd.scope, fd.globals, fd.closure.map (·.1), fd.defaults, fd.kwdefaults, fd.builtins)
  | _ => none
structure ErrD where
  x : Str
  qual : Str
  st : Stmt
  fs : List Str
def ErrD.val (e : ErrD) : FnE := some ("__init__", e.qual, defArgs e.st, .stmts (defBody e.st), defScope e.st, mainGlobals, ["__class__"], .none, .none, builtinsNs)
def errB (file : Str) (K : PySem.W.Frag) (e : ErrD) : Bool :=
  (match K.lookup (He.ga K e.x) with
  | some ⟨.type t, _, .cls cd, sl⟩ => decide (t = "type") && (decide (cd.mro.head? = some (.ref (He.ga K e.x))) && (PySem.HandSPX.refsVE cd.mro.tail && (cd.hasDict && (!cd.hasDel && (match sl.toList with
    | [_, _, _, _, some (.builtin i), _] => decide (i = "ValueError.__new__")
    | _ => false)))))
  | _ => false) &&
  (He.eqO (PySem.W.findIn K (.ref (He.ga K e.x)) "__setattr__") (some (some (.builtin "object.__setattr__"))) &&
  ((e.fs.all fun f => He.eqO (PySem.W.findIn K (.ref (He.ga K e.x)) f) (some none)) &&
  (He.eqO (PySem.W.findIn K (.ref (He.ga K e.x)) "__init__") (some (some (.ref (He.ma K (He.ga K e.x) "__init__")))) &&
  (decide (PySem.W.typeIn K (.ref (He.ma K (He.ga K e.x) "__init__")) = some (.type "function")) &&
  (PySem.W.keepIn K (.ref (He.ga K e.x)) &&
  (decide (PySem.W.subIn K (.ref (He.ga K e.x)) (.type "BaseException") = some true) &&
  (decide (PySem.W.subIn K (.ref (He.ga K e.x)) (.type "ValueError") = some true) &&
  (decide (PySem.W.typeIn K (.ref (He.ga K e.x)) = some (.type "type")) &&
  (decide (PySem.W.mroIn K (He.ga K e.x) (.ref (He.ga K e.x)) = some true) &&
  (He.eqO (PySem.W.ks_superIn K (He.ga K e.x) (He.ga K e.x) "__init__") (some (some (.builtin "ValueError.__init__"))) &&
  (match K.lookup (He.ma K (He.ga K e.x) "__init__") with
  | some ⟨_, _, .func fd, _⟩ => PySem.W.codeIn K fd.code e.qual && ((match fd.code with
    | .ref cda => (match K.lookup cda with
      | some ⟨_, _, .fields vs, _⟩ => (match (vs[2]? : Option Value) with
        | some (.str fl _) => file == fl
        | _ => false)
      | _ => false)
    | _ => false) && (match fd.closure with
    | [(_, cc)] => (match K.lookup cc with
      | some ⟨_, _, .cell (some (.ref D)), _⟩ => decide (D = He.ga K e.x)
      | _ => false)
    | _ => false))
  | _ => false)))))))))))
/-! ### the lists -/
def dd (x : Str) (st : Stmt) : He.DefD := ⟨(x, none), x, x, defArgs st, defBody st, defScope st, [], []⟩
def fn1 : List He.DefD := [dd "is_count" sIsCount, dd "two_power" sTwoPower, dd "check_signs" sCheckSigns, dd "check_counts" sCheckCounts, dd "is_bits" sIsBits, dd "checked_words" sCheckedWords, dd "code_of" sCodeOf, dd "check_pair" sCheckPair, dd "check_rank" sCheckRank, dd "is_sign_of" sIsSignOf,
  dd "parted_sign" sPartedSign, dd "parted_code" sPartedCode, dd "put_sign" sPutSign, dd "strike_sign" sStrikeSign, dd "_law_pen_of" sLPenOf, dd "_law_draw" sLDraw, dd "_law_pick" sLPick, dd "_law_shuffled" sLShuffled, dd "_law_cost" sLCost]
def fn2 : List He.DefD := [dd "_law_some_counts" sLSomeCounts, dd "_law_least" sLLeast, dd "_law_words" sLWords, dd "_law_code" sLCode, dd "_law_near_counts" sLNearCounts, dd "_law_met" sLMet, dd "_law_is_least" sLIsLeast, dd "_law_put" sLPut, dd "_law_struck" sLStruck, dd "_law_changed" sLChanged,
  dd "_law_are_put" sLArePut, dd "_law_are_struck" sLAreStruck, dd "law" sLaw, ⟨("Code", some "__init__"), "__init__", "Code.__init__", defArgs sCode, defBody sCode, defScope sCode, [.non], []⟩]
def fnL : List He.DefD := fn1 ++ fn2
def er : List ErrD := [⟨"TooMany", "TooMany.__init__", sTooMany, ["what", "many", "most"]⟩, ⟨"BadSign", "BadSign.__init__", sBadSign, ["index"]⟩, ⟨"OtherSize", "OtherSize.__init__", sOtherSize, ["many", "wanted"]⟩, ⟨"BadRank", "BadRank.__init__", sBadRank, ["rank"]⟩]
def gl1 : List Str := ["is_count", "two_power", "check_signs", "check_counts", "is_bits", "checked_words", "code_of", "check_pair", "check_rank", "is_sign_of", "parted_sign", "parted_code", "put_sign", "strike_sign", "_law_pen_of", "_law_draw", "_law_pick", "_law_shuffled", "_law_cost"]
def gl2 : List Str := ["_law_some_counts", "_law_least", "_law_words", "_law_code", "_law_near_counts", "_law_met", "_law_is_least", "_law_put", "_law_struck", "_law_changed", "_law_are_put", "_law_are_struck", "law", "Code", "TooMany", "BadSign", "OtherSize", "BadRank", "BadTally"]
def bi : List Str := ["len", "enumerate", "isinstance", "sum", "max", "min", "all", "any", "sorted", "zip", "tuple", "list", "range", "int", "bool", "str", "abs", "super"]
def faL : List He.Fa := gl1.map He.Fa.glo ++ gl2.map He.Fa.glo ++ bi.map He.Fa.free ++ [.int "MOST_SIGNS" 2000, .int "MOST_LENGTH" 1999, .cls "Code", .mkr "Code", .noat "Code" "lengths", .noat "Code" "words", .noat "Code" "size", .noat "Code" "longest",
  .exm "BadRank" "BadRank" true, .exm "BadSign" "BadRank" false, .exm "BadSign" "BadSign" true, .exm "TooMany" "BadRank" false, .exm "TooMany" "BadSign" false, .exm "TooMany" "TooMany" true, .exm "OtherSize" "BadRank" false, .exm "OtherSize" "BadSign" false, .exm "OtherSize" "TooMany" false, .exm "OtherSize" "BadTally" false, .exm "OtherSize" "OtherSize" true]
def tfL : List He.Defn := [("_law_are_put", none), ("_law_are_struck", none), ("law", none)]
abbrev R : PySem.W.OpenRow := PySem.W.OpenLaw.row PySem.Challenge.rw_wordvault_k37_whole_signs_put_and_struck
def exB (K : PySem.W.Frag) : Bool := (er.all fun e => errB R.prog.main.file K e) && ((["BadRank", "BadSign", "TooMany", "BadTally", "OtherSize"] : List Str).all (fun x => xfB K (He.ga K x)) && (He.eqO (PySem.W.findIn K (.ref (He.ga K "BadTally")) "index") (some none) && (He.eqO (PySem.W.nsIn K cStatics "thirdparty.any") (some none) &&
  (decide ((He.cT K ("_law_are_put", none)).2 ≠ (He.cT K ("_law_are_struck", none)).2) && (decide ((He.cT K ("_law_are_put", none)).2 ≠ (He.cT K ("law", none)).2) && decide ((He.cT K ("_law_are_struck", none)).2 ≠ (He.cT K ("law", none)).2))))))
/-! ### the Hook -/
def asW (g : Addr → Option Obj) (n : Nat) : List Addr := cStatics :: He.asD g n
abbrev AlW : Type := (He.AlD × List FnE) × Bool
def obsW (n : Nat) (g : Addr → Option Obj) : AlW := ((He.obsD faL fnL (He.frT g (asW g n)), er.map fun e => errO (He.frT g (asW g n)) e.x), exB (He.frT g (asW g n)) && He.tabsB g tfL (He.frT g (asW g n)))
def valW : AlW := ((He.valD fnL, er.map ErrD.val), true)
structure SaysW (h : Heap) (K : PySem.W.Frag) : Prop where
  d : He.SaysD faL fnL K
  e : (er.map fun e => errO K e.x) = er.map ErrD.val
  more : exB K = true
  hd : ∀ p ∈ tfL, PySem.W.codeHdIn K (He.cT K p).1 (He.cT K p).2 = true
  out : ∀ p ∈ tfL, K.lookup (He.cT K p).2 = none
  empty : ∀ p ∈ tfL, h.get? (He.cT K p).2 = some { cls := .none, data := .fields #[] }
theorem saysW_of {n : Nat} {h : Heap} (e : obsW n h.get? = valW) : SaysW h (He.frT h.get? (asW h.get? n)) := by
  have e0 : (He.obsD faL fnL (He.frT h.get? (asW h.get? n)), er.map fun e => errO (He.frT h.get? (asW h.get? n)) e.x) = (He.valD fnL, er.map ErrD.val) := congrArg (fun z : AlW => z.1) e
  have e2 : (exB (He.frT h.get? (asW h.get? n)) && He.tabsB h.get? tfL (He.frT h.get? (asW h.get? n))) = true := congrArg (fun z : AlW => z.2) e
  obtain ⟨h1, h2⟩ := He.ba e2
  have key : ∀ p ∈ tfL, PySem.W.codeHdIn (He.frT h.get? (asW h.get? n)) (He.cT (He.frT h.get? (asW h.get? n)) p).1 (He.cT (He.frT h.get? (asW h.get? n)) p).2 = true ∧ ∃ o, h.get? (He.cT (He.frT h.get? (asW h.get? n)) p).2 = some o ∧ He.emptyTab o = true := fun p hp => by
    obtain ⟨h3, h4⟩ := He.ba (List.all_eq_true.mp h2 p hp)
    refine ⟨h3, ?_⟩
    cases q : h.get? (He.cT (He.frT h.get? (asW h.get? n)) p).2 with
    | none =>
      rw [q] at h4
      cases h4
    | some o =>
      rw [q] at h4
      exact ⟨o, rfl, h4⟩
  exact ⟨congrArg Prod.fst e0, congrArg Prod.snd e0, h1, fun p hp => (key p hp).1, fun p hp => by
    obtain ⟨_, o, q, z⟩ := key p hp
    exact He.frT_none q z, fun p hp => by
    obtain ⟨_, o, q, z⟩ := key p hp
    rw [q, He.emptyTab_eq z]⟩
def hookW (n : Nat) : PySem.W.Hook where
  α := AlW
  obs := fun s => obsW n s.heap.get?
  val := fun _ => valW
  says := fun _ h => ∃ K : PySem.W.Frag, K.In h ∧ SaysW h K
  of := fun _ _ e => ⟨_, He.frT_in, saysW_of e⟩
  keeps := fun _ _ _ ⟨K, hK, c⟩ k => ⟨K, PySem.W.Frag.In.keeps hK k, ⟨c.d, c.e, c.more, c.hd, c.out, fun p hp => k _ _ (c.empty p hp)⟩⟩
abbrev hk : PySem.W.Hook := hookW 5
def ob (s : PySem.W.SharedT) : AlW := obsW 5 (HandSHeadRun.getT s)
theorem ob_eq (s : PySem.W.SharedT) : ob s = hk.obs s.abs := by
  have e : HandSHeadRun.getT s = s.abs.heap.get? := funext (HandSHeadRun.getT_eq s)
  show obsW 5 (HandSHeadRun.getT s) = obsW 5 s.abs.heap.get?
  rw [e]
end Wh
set_option Elab.async false
set_option linter.all false
set_option maxRecDepth 100000
set_option maxHeartbeats 0
namespace Wh
open PySem PySem.Spec PyProof.Rows L2
def nm1 : List Str := ["VaultError", "TooMany", "BadSign", "BadBits", "BadTally", "BadLength", "NotFull", "Begins", "OtherSize", "BadRank", "MOST_SIGNS", "MOST_LENGTH", "is_count", "two_power", "check_signs", "check_counts", "bits_of", "canonical", "is_bits", "checked_words", "check_beginnings", "Code", "code_of", "check_pair"]
def nm2 : List Str := ["check_rank", "is_sign_of", "parted_sign", "parted_code", "put_sign", "strike_sign", "_law_pen_of", "_law_draw", "_law_pick", "_law_shuffled", "_law_cost", "_law_some_counts", "_law_least", "_law_words", "_law_code", "_law_near_counts", "_law_met", "_law_is_least", "_law_put", "_law_struck", "_law_changed", "_law_are_put", "_law_are_struck"]
def nmL : List Str := nm1 ++ nm2
theorem run (w : World) : HandSHeadRun.RunEq R (PySem.W.view R.prog [51]) hk ob 4000 nmL w := by
  intro os
  kernel_rfl
end Wh
set_option Elab.async false
set_option linter.all false
set_option maxRecDepth 100000
set_option maxHeartbeats 4000000
/-! ### what the law leans on, by what the head tells -/
namespace Wh
open PySem PySem.Spec PyProof.Rows L2 TL Wv LamX
section
variable {w : World} {K : PySem.W.Frag} {h base : Heap} {mg : Str → Option Value}
theorem glo_of (X : K.In h) (G : h.Ns mainGlobals mg) (c : SaysW h K) {x : Str} (hx : x ∈ gl1 ++ gl2) : mg x = some (.ref (He.ga K x)) := by
  refine He.glo_ok X G (c.d.facts ?_)
  have : He.Fa.glo x ∈ gl1.map He.Fa.glo ++ gl2.map He.Fa.glo := by
    rw [← List.map_append]
    exact List.mem_map.mpr ⟨x, hx, rfl⟩
  exact List.mem_append_left _ (List.mem_append_left _ this)
theorem free_of (X : K.In h) (G : h.Ns mainGlobals mg) (c : SaysW h K) {x : Str} (hx : x ∈ bi) : mg x = none := by
  refine He.free_ok X G (c.d.facts ?_)
  exact List.mem_append_left _ (List.mem_append_right _ (List.mem_map.mpr ⟨x, hx, rfl⟩))
theorem bi_of (X : K.In h) (G : h.Ns mainGlobals mg) (c : SaysW h K) : Bi mg where
  len := free_of X G c (by decide +kernel)
  enumerate := free_of X G c (by decide +kernel)
  isinstance := free_of X G c (by decide +kernel)
  sum := free_of X G c (by decide +kernel)
  max := free_of X G c (by decide +kernel)
  min := free_of X G c (by decide +kernel)
  all := free_of X G c (by decide +kernel)
  any := free_of X G c (by decide +kernel)
  sorted := free_of X G c (by decide +kernel)
  zip := free_of X G c (by decide +kernel)
  tuple := free_of X G c (by decide +kernel)
  list := free_of X G c (by decide +kernel)
  range := free_of X G c (by decide +kernel)
  int := free_of X G c (by decide +kernel)
  bool := free_of X G c (by decide +kernel)
  str := free_of X G c (by decide +kernel)
  abs := free_of X G c (by decide +kernel)
theorem fun_of {K : PySem.W.Frag} {x qual : Str} {st : Stmt} {f : Addr} {fd : FuncData} (F : FunD K x qual (defArgs st) (defBody st) (defScope st) [] [] f fd) : Fun K x qual st f fd := by
  obtain ⟨oc, od, dV, kV, doc, pm, an, cdv, ct, osl, e, lk, hcd, hD, hK⟩ := F.ex
  rcases hD with ⟨_, rfl⟩ | ⟨z, _⟩
  · exact ⟨⟨oc, od, kV, doc, pm, an, cdv, ct, osl, e, lk, hcd⟩, F.kp⟩
  · exact absurd rfl z
theorem at_of (X : K.In h) (G : h.Ns mainGlobals mg) (c : SaysW h K) {x : Str} {st : Stmt} (i : Nat) (hd : fnL[i]? = some (dd x st)) (hx : x ∈ gl1 ++ gl2) : At K mg x st := by
  obtain ⟨fd, F⟩ := c.d.def_ i hd
  exact ⟨⟨_, fd, fun_of F, glo_of X G c hx⟩⟩
theorem lam_of (X : K.In h) (G : h.Ns mainGlobals mg) (c : SaysW h K) {x : Str} {st : Stmt} (i : Nat) (hd : fnL[i]? = some (dd x st)) (hx : x ∈ gl1 ++ gl2) (tb : TabB base mg (He.cT K (x, none)).1 (He.cT K (x, none)).2) : LamD K mg base x st (He.cT K (x, none)).1 (He.cT K (x, none)).2 := by
  obtain ⟨fd, F⟩ := c.d.def_ i hd
  obtain ⟨oc, od, kV, doc, pm, an, cdv, ct, osl, rfl, lk, hcd⟩ := (fun_of F).ex
  obtain ⟨c0, rfl⟩ := He.codeIn_ref hcd
  have e : (He.cT K (x, none)).1 = c0 := He.codeOf_eq lk rfl
  refine ⟨⟨_, oc, od, kV, doc, pm, an, ct, osl, ?_, ?_, F.kp, glo_of X G c hx⟩, tb⟩
  · rw [e]; exact lk
  · rw [e]; exact hcd
/-! the errors -/
theorem err_cls {K : PySem.W.Frag} {C : Addr} (hb : (match K.lookup C with
  | some ⟨.type t, _, .cls cd, sl⟩ => decide (t = "type") && (decide (cd.mro.head? = some (.ref C)) && (PySem.HandSPX.refsVE cd.mro.tail && (cd.hasDict && (!cd.hasDel && (match sl.toList with
    | [_, _, _, _, some (.builtin i), _] => decide (i = "ValueError.__new__")
    | _ => false)))))
  | _ => false) = true) : ∃ nm q N bs bm sn sub ab col dd k0 k1 k2 k3 k5, K.lookup C = some (excClassObj nm q C N bs bm true sn sub ab col dd k0 k1 k2 k3 k5 "ValueError.__new__") ∧ PySem.HandSPX.refsVE bm = true := by
  split at hb
  · rename_i t od cd sl hk
    simp only [Bool.and_eq_true, decide_eq_true_eq, Bool.not_eq_true'] at hb
    obtain ⟨rfl, h1, h2, h3, h4, h5⟩ := hb
    obtain ⟨n1, n2, mro, n4, n5, n6, n7, n8, n9, n10, n11⟩ := cd
    dsimp only at h1 h2 h3 h4
    subst h3 h4
    cases mro with
    | nil => cases h1
    | cons m r =>
      obtain rfl : m = .ref C := Option.some.inj h1
      obtain ⟨l⟩ := sl
      dsimp only at h5
      split at h5
      · rename_i k0 k1 k2 k3 i k5
        obtain rfl := of_decide_eq_true h5
        exact ⟨n1, n5, n4, n2, r, n7, n8, n9, n10, od, k0, k1, k2, k3, k5, hk, h2⟩
      · cases h5
  · cases hb
theorem err_of (X : K.In h) (G : h.Ns mainGlobals mg) (c : SaysW h K) (i : Nat) {e : ErrD} (he : er[i]? = some e) (hx : e.x ∈ gl1 ++ gl2) :
    PySem.WvE.ErrT R.prog K mg e.x e.qual (He.ga K e.x) (He.ma K (He.ga K e.x) "__init__") (defArgs e.st) (defBody e.st) (defScope e.st) e.fs := by
  have hmore := c.more
  unfold exB at hmore
  obtain ⟨m1, m2⟩ := He.ba hmore
  obtain ⟨_, m2⟩ := He.ba m2
  obtain ⟨_, m2⟩ := He.ba m2
  obtain ⟨m3, _⟩ := He.ba m2
  have hb := List.all_eq_true.mp m1 e (List.mem_of_getElem? he)
  unfold errB at hb
  obtain ⟨b1, hb⟩ := He.ba hb
  obtain ⟨b2, hb⟩ := He.ba hb
  obtain ⟨b3, hb⟩ := He.ba hb
  obtain ⟨b4, hb⟩ := He.ba hb
  obtain ⟨b5, hb⟩ := He.ba hb
  obtain ⟨b6, hb⟩ := He.ba hb
  obtain ⟨b7, hb⟩ := He.ba hb
  obtain ⟨b8, hb⟩ := He.ba hb
  obtain ⟨b9, hb⟩ := He.ba hb
  obtain ⟨b10, hb⟩ := He.ba hb
  obtain ⟨b11, hb⟩ := He.ba hb
  have eo : errO K e.x = e.val := by
    have z := c.e
    have z2 : (er.map fun e => errO K e.x)[i]? = (er.map ErrD.val)[i]? := by rw [z]
    rw [List.getElem?_map, List.getElem?_map, he] at z2
    exact Option.some.inj z2
  refine ⟨glo_of X G c hx, free_of X G c (by decide +kernel), err_cls b1, He.eqO_ok b2, (fun f hf => He.eqO_ok (List.all_eq_true.mp b3 f hf)), He.eqO_ok b4, of_decide_eq_true b5, b6, of_decide_eq_true b7, of_decide_eq_true b8, of_decide_eq_true b9, of_decide_eq_true b10, He.eqO_ok m3, He.eqO_ok b11, by decide +kernel, ?_⟩
  unfold errO at eo
  cases q : K.lookup (He.ma K (He.ga K e.x) "__init__") with
  | none =>
    rw [q] at hb
    cases hb
  | some o =>
    obtain ⟨oc, od, dt, osl⟩ := o
    rw [q] at hb eo
    cases dt with
    | func fd =>
      obtain ⟨n1, n2, n3, n4, n5, n6, n7, n8, n9, n10, n11, n12, n13, n14, n15⟩ := fd
      have e2 : (some (n1, n2, n3, n4, n5, n6, n7.map (·.1), n8, n9, n15) : FnE) = (some ("__init__", e.qual, defArgs e.st, .stmts (defBody e.st), defScope e.st, mainGlobals, ["__class__"], .none, .none, builtinsNs) : FnE) := eo
      simp only [Option.some.injEq, Prod.mk.injEq] at e2
      obtain ⟨h1, h2, h3, h4, h5, h6, h7, h8, h9, h10⟩ := e2
      dsimp only at hb
      obtain ⟨d1, hb⟩ := He.ba hb
      obtain ⟨d2, d3⟩ := He.ba hb
      split at d2
      · rename_i cda _hb2
        split at d2
        · rename_i ccl cdd vs ccs hk2
          split at d2
          · rename_i fl tf hv
            split at d3
            · rename_i nm cc
              split at d3
              · rename_i cl cld D csl hk3
                obtain rfl := of_decide_eq_true d3
                have h7' : nm = ("__class__" : Str) := by
                  have := h7
                  simpa using this
                subst h1 h2 h3 h4 h5 h6 h7' h8 h9 h10
                exact ⟨oc, od, n10, n11, n12, n14, osl, cc, cda, ccl, cl, cdd, cld, ccs, csl, vs, fl, tf, rfl, d1, hk2, hv, d2, hk3⟩
              · cases d3
            · cases d3
          · cases d2
        · cases d2
      · cases d2
    | _ => cases hb
end
end Wh
set_option Elab.async false
set_option linter.all false
set_option maxRecDepth 100000
set_option maxHeartbeats 4000000
namespace Wh
open PySem PySem.Spec PyProof.Rows L2 TL Wv LamX
section
variable {w : World} {K : PySem.W.Frag} {h base : Heap} {mg : Str → Option Value}
abbrev eaK (K : PySem.W.Frag) : EA := ⟨He.ga K "TooMany", He.ga K "BadSign", He.ga K "OtherSize", He.ga K "BadRank"⟩
abbrev tK (K : PySem.W.Frag) : List (Addr × Str) := [((He.cT K ("_law_are_put", none)).2, lq "_law_are_put"), ((He.cT K ("_law_are_struck", none)).2, lq "_law_are_struck"), ((He.cT K ("law", none)).2, lq "law")]
theorem errs_of (X : K.In h) (G : h.Ns mainGlobals mg) (c : SaysW h K) : Errs R.prog K mg (eaK K) where
  tm := ⟨_, err_of X G c 0 (e := ⟨"TooMany", "TooMany.__init__", sTooMany, ["what", "many", "most"]⟩) rfl (by decide +kernel)⟩
  bs := ⟨_, err_of X G c 1 (e := ⟨"BadSign", "BadSign.__init__", sBadSign, ["index"]⟩) rfl (by decide +kernel)⟩
  os := ⟨_, err_of X G c 2 (e := ⟨"OtherSize", "OtherSize.__init__", sOtherSize, ["many", "wanted"]⟩) rfl (by decide +kernel)⟩
  br := ⟨_, err_of X G c 3 (e := ⟨"BadRank", "BadRank.__init__", sBadRank, ["rank"]⟩) rfl (by decide +kernel)⟩
theorem ctx_of (X : K.In h) (G : h.Ns mainGlobals mg) (c : SaysW h K) : CTxt K mg (He.ga K "Code") where
  cl := He.cls_ok (c.d.fact 58 (f := .cls "Code") rfl)
  nL := He.noat_ok (c.d.fact 60 (f := .noat "Code" "lengths") rfl)
  nW := He.noat_ok (c.d.fact 61 (f := .noat "Code" "words") rfl)
  nS := He.noat_ok (c.d.fact 62 (f := .noat "Code" "size") rfl)
  nG := He.noat_ok (c.d.fact 63 (f := .noat "Code" "longest") rfl)
  mgC := glo_of X G c (by decide +kernel)
theorem metk_of (X : K.In h) (G : h.Ns mainGlobals mg) (c : SaysW h K) : MetK K mg (eaK K) (He.ga K "BadTally") := by
  have hm := c.more
  unfold exB at hm
  obtain ⟨_, m2⟩ := He.ba hm
  obtain ⟨m3, m4⟩ := He.ba m2
  obtain ⟨m5, _⟩ := He.ba m4
  have xf : ∀ x : Str, x ∈ (["BadRank", "BadSign", "TooMany", "BadTally", "OtherSize"] : List Str) → XfC K (He.ga K x) := fun x hx => xfB_ok (List.all_eq_true.mp m3 x hx)
  have E := errs_of X G c
  obtain ⟨_, E1⟩ := E.tm
  obtain ⟨_, E2⟩ := E.bs
  obtain ⟨_, E3⟩ := E.os
  obtain ⟨_, E4⟩ := E.br
  exact ⟨glo_of X G c (by decide +kernel), glo_of X G c (by decide +kernel), glo_of X G c (by decide +kernel), glo_of X G c (by decide +kernel), glo_of X G c (by decide +kernel), He.exm_ok (c.d.fact 64 (f := .exm "BadRank" "BadRank" true) rfl), He.exm_ok (c.d.fact 65 (f := .exm "BadSign" "BadRank" false) rfl), He.exm_ok (c.d.fact 66 (f := .exm "BadSign" "BadSign" true) rfl), He.exm_ok (c.d.fact 67 (f := .exm "TooMany" "BadRank" false) rfl), He.exm_ok (c.d.fact 68 (f := .exm "TooMany" "BadSign" false) rfl), He.exm_ok (c.d.fact 69 (f := .exm "TooMany" "TooMany" true) rfl), He.exm_ok (c.d.fact 70 (f := .exm "OtherSize" "BadRank" false) rfl), He.exm_ok (c.d.fact 71 (f := .exm "OtherSize" "BadSign" false) rfl), He.exm_ok (c.d.fact 72 (f := .exm "OtherSize" "TooMany" false) rfl), He.exm_ok (c.d.fact 73 (f := .exm "OtherSize" "BadTally" false) rfl), He.exm_ok (c.d.fact 74 (f := .exm "OtherSize" "OtherSize" true) rfl), xf _ (by decide +kernel), xf _ (by decide +kernel), xf _ (by decide +kernel), xf _ (by decide +kernel), xf _ (by decide +kernel), E4.noN _ (by decide +kernel), E2.noN _ (by decide +kernel), E1.noN _ (by decide +kernel), E1.noN _ (by decide +kernel), E1.noN _ (by decide +kernel), E3.noN _ (by decide +kernel), E3.noN _ (by decide +kernel), He.eqO_ok m5⟩
theorem tab_ne (c : SaysW h K) : (He.cT K ("_law_are_put", none)).2 ≠ (He.cT K ("_law_are_struck", none)).2 ∧ (He.cT K ("_law_are_put", none)).2 ≠ (He.cT K ("law", none)).2 ∧ (He.cT K ("_law_are_struck", none)).2 ≠ (He.cT K ("law", none)).2 := by
  have hm := c.more
  unfold exB at hm
  obtain ⟨_, m2⟩ := He.ba hm
  obtain ⟨_, m2⟩ := He.ba m2
  obtain ⟨_, m2⟩ := He.ba m2
  obtain ⟨_, m2⟩ := He.ba m2
  obtain ⟨n1, m2⟩ := He.ba m2
  obtain ⟨n2, n3⟩ := He.ba m2
  exact ⟨of_decide_eq_true n1, of_decide_eq_true n2, of_decide_eq_true n3⟩
theorem law_fn (X : K.In h) (G : h.Ns mainGlobals mg) (c : SaysW h K) (tb : ∀ p ∈ tfL.map (He.cT K), TabB base mg p.1 p.2) :
    ∃ (f : Addr) (fd : FuncData) (oc : Value) (od : Option Addr) (osl : Array (Option Value)), FnOk R.prog w K mg base CX0 12 f fd ["_law_script"] (spLaw K (tK K)) ∧ mg "law" = some (.ref f) ∧ K.lookup f = some ⟨oc, od, .func fd, osl⟩ := by
  have B := bi_of X G c
  have EE := errs_of X G c
  have T := ctx_of X G c
  have n := tab_ne c
  have hM := He.int_ok X G (c.d.fact 56 (f := .int "MOST_SIGNS" 2000) rfl)
  have hL := He.int_ok X G (c.d.fact 57 (f := .int "MOST_LENGTH" 1999) rfl)
  have at_ : ∀ (i : Nat) (x : Str) (st : Stmt), fnL[i]? = some (dd x st) → x ∈ gl1 ++ gl2 → At K mg x st := fun i x st a b => at_of X G c i a b
  have k1 : Kn R.prog w K mg base CX0 1 "is_count" ["value"] spIsCount := kIsCount (at_ 0 _ _ rfl (by decide +kernel)) B
  have k2 : Kn R.prog w K mg base CX0 1 "two_power" ["many"] spTwoPower := kTwoPower (at_ 1 _ _ rfl (by decide +kernel))
  have k3 : Kn R.prog w K mg base (L2.CX R.prog w) 3 "check_signs" ["many"] (spCheckSigns (eaK K)) := kCheckSigns (at_ 2 _ _ rfl (by decide +kernel)) EE hM
  have k4 := kCheckCounts (w := w) (base := base) (at_ 3 _ _ rfl (by decide +kernel)) B k3 k1
  have k5 : Kn R.prog w K mg base CX0 1 "is_bits" ["value", "size"] spIsBits := kIsBits (at_ 4 _ _ rfl (by decide +kernel)) B
  have k6 := kChecked (at_ 5 _ _ rfl (by decide +kernel)) B k5
  obtain ⟨fdC, FC⟩ := c.d.def_ 32 (d := ⟨("Code", some "__init__"), "__init__", "Code.__init__", defArgs sCode, defBody sCode, defScope sCode, [.non], []⟩) rfl
  have mkC : Mk K (He.ga K "Code") (He.ma K (He.ga K "Code") "__init__") := He.mkr_ok (c.d.fact 59 (f := .mkr "Code") rfl)
  have FC' : CodeFD K (He.ma K (He.ga K "Code") "__init__") fdC := FC
  have cd : CdOk R.prog w K mg base (He.ga K "Code") := cdOk mkC FC' T (kInit FC' B T hL k1 k2 k3 k6)
  have k7 := kCodeOf (at_ 6 _ _ rfl (by decide +kernel)) B cd
  have k8 := kCheckPair (at_ 7 _ _ rfl (by decide +kernel)) B EE T k4
  have k9 := kCheckRank (at_ 8 _ _ rfl (by decide +kernel)) EE T k1
  have k10 := kIsSignOf (at_ 9 _ _ rfl (by decide +kernel)) T k1
  have k11 : Kn R.prog w K mg base CX0 1 "parted_sign" ["counts"] (spPartedSign K) := kPartedSign (at_ 10 _ _ rfl (by decide +kernel)) B
  have k12 := kPartedCode (at_ 11 _ _ rfl (by decide +kernel)) B T k7
  have k13 := kPutSign (at_ 12 _ _ rfl (by decide +kernel)) B T k8 k9 k3 k12 k11
  have k14 := kStrike (at_ 13 _ _ rfl (by decide +kernel)) B EE T k10 k3 k7
  have l1 : Kn R.prog w K mg base CX0 1 "_law_pen_of" ["_law_script"] (spPenOf K) := kPenOf (at_ 14 _ _ rfl (by decide +kernel)) B
  have l2 : Kn R.prog w K mg base CX0 1 "_law_draw" ["_law_pen", "_law_many"] spDraw := kDraw (at_ 15 _ _ rfl (by decide +kernel)) B
  have l3 := kPick (at_ 16 _ _ rfl (by decide +kernel)) B l2
  have l4 := kShuffled (at_ 17 _ _ rfl (by decide +kernel)) B l2
  have l5 : Kn R.prog w K mg base CX0 1 "_law_cost" ["_law_lengths", "_law_counts"] (spCost K) := kCost (at_ 18 _ _ rfl (by decide +kernel)) B
  have l6 := kSomeCounts (at_ 19 _ _ rfl (by decide +kernel)) B l2 l3
  have l7 : Kn R.prog w K mg base CX0 1 "_law_least" ["_law_counts"] (spLeast K) := kLeast (at_ 20 _ _ rfl (by decide +kernel)) B
  have l8 := kWords (at_ 21 _ _ rfl (by decide +kernel)) B l2 l4
  have l9 := kLCode (at_ 22 _ _ rfl (by decide +kernel)) B cd
  have l10 := kNear (at_ 23 _ _ rfl (by decide +kernel)) B l2 l3 l6
  have A24 := at_ 24 "_law_met" sLMet rfl (by decide +kernel)
  have met : MetD K mg (eaK K) := ⟨A24.ex, _, metk_of X G c⟩
  have l11 := kIsLeast (at_ 25 _ _ rfl (by decide +kernel)) B l5 l7
  have l12 : Kn R.prog w K mg base CX0 1 "_law_put" ["_law_words_here", "_law_counts", "_law_rank"] spPut := kPut (at_ 26 _ _ rfl (by decide +kernel)) B
  have l13 : Kn R.prog w K mg base CX0 1 "_law_struck" ["_law_words_here", "_law_sign"] spStruck := kStruck (at_ 27 _ _ rfl (by decide +kernel)) B
  have l14 : Kn R.prog w K mg base CX0 1 "_law_changed" ["_law_words_here", "_law_others", "_law_counts"] (spChanged K) := kChanged (at_ 28 _ _ rfl (by decide +kernel)) B
  have L0 : Law0 R.prog w K mg base (eaK K) (He.ga K "Code") := ⟨l2, l3, l11, l12, l14, l13, k13, k14, met⟩
  have D1 : LamD K mg base "_law_are_put" sLArePut _ _ := lam_of X G c 29 rfl (by decide +kernel) (tb _ (List.mem_map_of_mem (by decide +kernel)))
  have D2 : LamD K mg base "_law_are_struck" sLAreStruck _ _ := lam_of X G c 30 rfl (by decide +kernel) (tb _ (List.mem_map_of_mem (by decide +kernel)))
  have D3 : LamD K mg base "law" sLaw _ _ := lam_of X G c 31 rfl (by decide +kernel) (tb _ (List.mem_map_of_mem (by decide +kernel)))
  have u1 : ∀ p ∈ tK K, p.1 = (He.cT K ("_law_are_put", none)).2 → p.2 = lq "_law_are_put" := fun p hp e => by
    simp only [tK, List.mem_cons, List.not_mem_nil, or_false] at hp
    rcases hp with rfl | rfl | rfl
    · rfl
    · exact absurd e.symm n.1
    · exact absurd e.symm n.2.1
  have u2 : ∀ p ∈ tK K, p.1 = (He.cT K ("_law_are_struck", none)).2 → p.2 = lq "_law_are_struck" := fun p hp e => by
    simp only [tK, List.mem_cons, List.not_mem_nil, or_false] at hp
    rcases hp with rfl | rfl | rfl
    · exact absurd e n.1
    · rfl
    · exact absurd e.symm n.2.2
  have u3 : ∀ p ∈ tK K, p.1 = (He.cT K ("law", none)).2 → p.2 = lq "law" := fun p hp e => by
    simp only [tK, List.mem_cons, List.not_mem_nil, or_false] at hp
    rcases hp with rfl | rfl | rfl
    · exact absurd e n.2.1
    · exact absurd e n.2.2
    · rfl
  have p1 := kArePut (T := tK K) D1 List.mem_cons_self u1 B T L0
  have p2 := kAreStruck (T := tK K) D2 (List.mem_cons_of_mem _ List.mem_cons_self) u2 B T L0
  exact kLaw (T := tK K) D3 (List.mem_cons_of_mem _ (List.mem_cons_of_mem _ List.mem_cons_self)) u3 B T ⟨L0, l1, l8, l9, l10, p1, p2⟩
theorem law_at {fa : Addr} (X : K.In h) (G : h.Ns mainGlobals mg) (c : SaysW h K) (hfa : mg "law" = some (.ref fa)) : LawAtS PySem.Challenge.rw_wordvault_k37_whole_signs_put_and_struck w K CX0 12 63 "_law_script" mg fa h := by
  obtain ⟨fd0, F0⟩ := c.d.def_ 31 (d := dd "law" sLaw) rfl
  obtain ⟨oc, od, kV, doc, pm, an, cdv, ct, osl, e0, lk, hcd⟩ := (fun_of (x := "law") (qual := "law") (st := sLaw) F0).ex
  have ef : He.fAd K ("law", none) = fa := by
    have z := glo_of X G c (x := "law") (by decide +kernel)
    rw [hfa] at z
    injection z with z
    injection z with z
    exact z.symm
  refine ⟨fd0, tfL.map (He.cT K), spLaw K (tK K), ?_, ?_, ?_, ?_, ?_, ?_⟩
  · intro p hp
    obtain ⟨q, hq, rfl⟩ := List.mem_map.mp hp
    exact c.empty q hq
  · intro p hp
    obtain ⟨q, hq, rfl⟩ := List.mem_map.mp hp
    exact c.out q hq
  · intro p hp
    obtain ⟨q, hq, rfl⟩ := List.mem_map.mp hp
    exact PySem.W.codeHd_of_K X (c.hd q hq)
  · intro s u
    rw [e0]
    exact .of_eq rfl
  · intro H a ns hl _ hT hS
    refine ⟨a, ns, rfl, hS, hl, fun p hp => ?_, fun _ => rfl⟩
    simp only [tK, List.mem_cons, List.not_mem_nil, or_false] at hp
    rcases hp with rfl | rfl | rfl
    · exact TabS.nil (hT _ (List.mem_map_of_mem (a := (("_law_are_put", none) : He.Defn)) (by decide +kernel)))
    · exact TabS.nil (hT _ (List.mem_map_of_mem (a := (("_law_are_struck", none) : He.Defn)) (by decide +kernel)))
    · exact TabS.nil (hT _ (List.mem_map_of_mem (a := (("law", none) : He.Defn)) (by decide +kernel)))
  · intro base Xb Gb tb
    obtain ⟨f, fd, oc', od', osl', O, hm, lk'⟩ := law_fn (w := w) (base := base) X G c tb
    rw [hfa] at hm
    obtain rfl : fa = f := by
      injection hm with z
      injection z with z
    have lk : K.lookup (He.fAd K (("law" : Str), none)) = some ⟨oc, od, .func fd0, osl⟩ := lk
    rw [ef] at lk
    rw [lk] at lk'
    have : fd0 = fd := by
      injection lk' with z
      injection z with _ _ z _
      injection z with z
    rw [this]
    exact O
end
end Wh
open PySem PySem.W PySem.Calls PyProof.Rows
set_option maxHeartbeats 0 in
theorem PySem.Challenge.cw_wordvault_k37_whole_signs_put_and_struck_holds : PySem.Challenge.rw_wordvault_k37_whole_signs_put_and_struck.Holds := by
  w_on; o_law
  refine HandSHeadRun.head_any (r := OpenLaw.row PySem.Challenge.rw_wordvault_k37_whole_signs_put_and_struck) (q := view (OpenLaw.row PySem.Challenge.rw_wordvault_k37_whole_signs_put_and_struck).prog [51]) (H := Wh.hk) (ob := Wh.ob) (M := 4000) (loose := Wh.nmL) (d := HandSHeadRun.topDef (OpenLaw.row PySem.Challenge.rw_wordvault_k37_whole_signs_put_and_struck).prog 51) (kwd := []) Wh.ob_eq
    (by kernel_rfl) (fun s => by kernel_rfl) Wh.run (by kernel_rfl) (by kernel_rfl) (by kernel_rfl) (by rfl) (by first | assumption | decide +kernel) (by decide +kernel) ⟨rfl, rfl, rfl, rfl, rfl, by decide +kernel⟩ ?hw ?hc
  case hw => w_witness2
  case hc =>
    refine LamX.walk_ofTsE (l := PySem.Challenge.rw_wordvault_k37_whole_signs_put_and_struck) (n := 63) (k := 12) (x := "_law_script") (CX := fun _ => L2.CX0) rfl (by decide) (by kernel_rfl) ⟨rfl, by decide, by decide⟩ ?F (fun _ _ _ _ _ z => z)
    intro w mg fa h Y G hmg0
    obtain ⟨K, KX, c⟩ := Y
    have hmg : mg ("law" : PySem.Str) = some (.ref fa) := by
      have e : (HandSHeadRun.topDef (OpenLaw.row PySem.Challenge.rw_wordvault_k37_whole_signs_put_and_struck).prog 51).name = ("law" : PySem.Str) := by kernel_rfl
      rw [← e]
      exact hmg0
    exact ⟨K, KX, Wh.law_at KX G c hmg⟩
