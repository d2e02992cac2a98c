import PyProof.Rows.All
import Wide.All
import OpenK.AllK
import Wide.FinOn
import PyProof.CompMap
import KE.GoesEnum
import HandS.ForMost
import HandS.Walk
import HandS.TupLe
import HandS.TupAny
import HandS.Zip
import KE.SortData
import HandS.More
import HandS.Style
import HandS.IsInst
import HandS.SetKeys
import HandS.DictComp
import KE.KDictWalk
import KE.KDictKeyed
import HandS.Set
import HandS.SetBool
import KE.KStateDown
import HandS.WordsExc
import HandS.Defaults
import HandS.Head0
import HandS.Head1
import HandS.Head2
import HandS.HeadEnd
import HandS.HeadHook1
import HandS.HeadHook2
import KE.GoesZip
import PySem.Challenge.RW_untoldgames_k72_whole_points_are_least_a
set_option Elab.async false
set_option linter.all false
set_option maxRecDepth 100000
set_option maxHeartbeats 0
namespace Ug

/-! ### masks: what a lot of boards is worth -/
def cntOf (cnt : List Nat) (m : Nat) : Nat := cnt.countP fun b => m.testBit b
def bitsOr (m : Nat) (s : List Nat) : Nat := s.foldl (fun m b => m ||| (1 <<< b)) m
def outStep (found : List Nat) (q : Nat × Nat) : List Nat := found.map (fun m => m ||| (1 <<< q.1)) ++ found.map (fun m => m ||| (1 <<< q.2))
def outc (p : List (Nat × Nat)) : List Nat := p.foldl outStep [0]
def SelC : List (Nat × Nat) → List Nat → Prop
  | [], s => s = []
  | q :: p, s => ∃ c r, s = c :: r ∧ (c = q.1 ∨ c = q.2) ∧ SelC p r
def brds (p : List (Nat × Nat)) : List Nat := p.flatMap fun q => [q.1, q.2]
def sumMin (pt : Nat → Nat) (p : List (Nat × Nat)) : Nat := (p.map fun q => min (pt q.1) (pt q.2)).sum

theorem testBit_one (b k : Nat) : (1 <<< b).testBit k = decide (k = b) := by
  rw [Nat.one_shiftLeft, Nat.testBit_two_pow]
  by_cases h : b = k
  · subst h; simp
  · have : ¬ k = b := fun e => h e.symm
    simp [h, this]
theorem testBit_bitsOr (k : Nat) : ∀ (s : List Nat) (m : Nat), (bitsOr m s).testBit k = (m.testBit k || decide (k ∈ s)) := by
  intro s
  induction s with
  | nil => intro m; simp [bitsOr]
  | cons b r ih =>
    intro m
    show (bitsOr (m ||| (1 <<< b)) r).testBit k = _
    rw [ih, Nat.testBit_or, testBit_one, Bool.or_assoc]
    congr 1
    by_cases h : k = b <;> simp [h]
theorem mem_outFold : ∀ (p : List (Nat × Nat)) (found : List Nat) (m : Nat), m ∈ p.foldl outStep found ↔ ∃ m0 ∈ found, ∃ s, SelC p s ∧ m = bitsOr m0 s := by
  intro p
  induction p with
  | nil =>
    intro found m
    constructor
    · intro h; exact ⟨m, h, [], rfl, rfl⟩
    · rintro ⟨m0, h0, s, hs, rfl⟩
      have : s = [] := hs
      subst this; exact h0
  | cons q p ih =>
    intro found m
    rw [List.foldl_cons, ih]
    constructor
    · rintro ⟨m1, h1, s, hs, rfl⟩
      unfold outStep at h1
      rcases List.mem_append.mp h1 with h | h
      · obtain ⟨m0, h0, rfl⟩ := List.mem_map.mp h
        exact ⟨m0, h0, q.1 :: s, ⟨q.1, s, rfl, .inl rfl, hs⟩, rfl⟩
      · obtain ⟨m0, h0, rfl⟩ := List.mem_map.mp h
        exact ⟨m0, h0, q.2 :: s, ⟨q.2, s, rfl, .inr rfl, hs⟩, rfl⟩
    · rintro ⟨m0, h0, s, ⟨c, r, rfl, hc, hs⟩, rfl⟩
      refine ⟨m0 ||| (1 <<< c), ?_, r, hs, rfl⟩
      unfold outStep
      rcases hc with rfl | rfl
      · exact List.mem_append.mpr (.inl (List.mem_map.mpr ⟨m0, h0, rfl⟩))
      · exact List.mem_append.mpr (.inr (List.mem_map.mpr ⟨m0, h0, rfl⟩))
theorem mem_outc {p : List (Nat × Nat)} {m : Nat} : m ∈ outc p ↔ ∃ s, SelC p s ∧ m = bitsOr 0 s := by
  unfold outc
  rw [mem_outFold]
  constructor
  · rintro ⟨m0, h0, r⟩
    have : m0 = 0 := List.mem_singleton.mp h0
    subst this; exact r
  · rintro r; exact ⟨0, List.mem_singleton.mpr rfl, r⟩
theorem SelC.sub : ∀ {p : List (Nat × Nat)} {s : List Nat}, SelC p s → s.Sublist (brds p)
  | [], s, h => by
    have : s = [] := h
    subst this; exact List.nil_sublist _
  | q :: p, s, h => by
    obtain ⟨c, r, rfl, hc, hs⟩ := h
    have ih := SelC.sub hs
    show (c :: r).Sublist (q.1 :: q.2 :: brds p)
    rcases hc with rfl | rfl
    · exact List.Sublist.cons_cons _ (List.Sublist.cons _ ih)
    · exact List.Sublist.cons _ (List.Sublist.cons_cons _ ih)
theorem SelC.nodup {p : List (Nat × Nat)} {s : List Nat} (h : SelC p s) (n : (brds p).Nodup) : s.Nodup := h.sub.nodup n
theorem SelC.len : ∀ {p : List (Nat × Nat)} {s : List Nat}, SelC p s → s.length = p.length
  | [], s, h => by
    have : s = [] := h
    subst this; rfl
  | q :: p, s, h => by
    obtain ⟨c, r, rfl, hc, hs⟩ := h
    simp [SelC.len hs]
theorem countP_or {l : List Nat} {c : Nat} {s : List Nat} (h : c ∉ s) : (l.countP fun b => decide (b ∈ c :: s)) = l.count c + l.countP fun b => decide (b ∈ s) := by
  induction l with
  | nil => rfl
  | cons a l ih =>
    rw [List.countP_cons, List.countP_cons, List.count_cons, ih]
    by_cases e : a = c
    · subst e; simp [h]; omega
    · have e' : (a == c) = false := by simpa using e
      by_cases e2 : a ∈ s <;> simp [e, e2] <;> omega
theorem countP_sel (cnt : List Nat) : ∀ {s : List Nat}, s.Nodup → (cnt.countP fun b => decide (b ∈ s)) = (s.map fun c => cnt.count c).sum
  | [], _ => by simp
  | c :: s, h => by
    obtain ⟨h1, h2⟩ := List.nodup_cons.mp h
    rw [countP_or h1, countP_sel cnt h2, List.map_cons, List.sum_cons]
theorem cntOf_sel {cnt s : List Nat} (h : s.Nodup) : cntOf cnt (bitsOr 0 s) = (s.map fun c => cnt.count c).sum := by
  rw [← countP_sel cnt h]
  unfold cntOf
  congr 1
  funext b
  rw [testBit_bitsOr]; simp
theorem SelC.min_le {pt : Nat → Nat} : ∀ {p : List (Nat × Nat)} {s : List Nat}, SelC p s → sumMin pt p ≤ (s.map pt).sum
  | [], s, h => by
    have : s = [] := h
    subst this; exact Nat.le_refl _
  | q :: p, s, h => by
    obtain ⟨c, r, rfl, hc, hs⟩ := h
    have ih := SelC.min_le (pt := pt) hs
    unfold sumMin at ih ⊢
    rw [List.map_cons, List.sum_cons, List.map_cons, List.sum_cons]
    rcases hc with rfl | rfl <;> omega
theorem SelC.attain (pt : Nat → Nat) : ∀ (p : List (Nat × Nat)), ∃ s, SelC p s ∧ (s.map pt).sum = sumMin pt p
  | [] => ⟨[], rfl, rfl⟩
  | q :: p => by
    obtain ⟨s, hs, e⟩ := SelC.attain pt p
    unfold sumMin at e ⊢
    by_cases h : pt q.1 ≤ pt q.2
    · refine ⟨q.1 :: s, ⟨q.1, s, rfl, .inl rfl, hs⟩, ?_⟩
      rw [List.map_cons, List.sum_cons, List.map_cons, List.sum_cons, e]; omega
    · refine ⟨q.2 :: s, ⟨q.2, s, rfl, .inr rfl, hs⟩, ?_⟩
      rw [List.map_cons, List.sum_cons, List.map_cons, List.sum_cons, e]; omega
/-- each outcome is worth n at least, exactly if the least ones together are -/
theorem out_all {cnt : List Nat} {p : List (Nat × Nat)} (h : (brds p).Nodup) (n : Nat) : (∀ m ∈ outc p, n ≤ cntOf cnt m) ↔ n ≤ sumMin (fun c => cnt.count c) p := by
  constructor
  · intro a
    obtain ⟨s, hs, e⟩ := SelC.attain (fun c => cnt.count c) p
    have := a _ (mem_outc.mpr ⟨s, hs, rfl⟩)
    rw [cntOf_sel (hs.nodup h), e] at this
    exact this
  · intro a m hm
    obtain ⟨s, hs, rfl⟩ := mem_outc.mp hm
    rw [cntOf_sel (hs.nodup h)]
    exact Nat.le_trans a hs.min_le
theorem cntOf_le (cnt : List Nat) (m : Nat) : cntOf cnt m ≤ cnt.length := List.countP_le_length
theorem sumMin_le {cnt : List Nat} {p : List (Nat × Nat)} (h : (brds p).Nodup) : sumMin (fun c => cnt.count c) p ≤ cnt.length := by
  obtain ⟨s, hs, e⟩ := SelC.attain (fun c => cnt.count c) p
  rw [← e, ← cntOf_sel (hs.nodup h)]
  exact cntOf_le _ _
theorem cntOf_mono {cnt : List Nat} {m k : Nat} (h : ∀ b, m.testBit b = true → k.testBit b = true) : cntOf cnt m ≤ cntOf cnt k := by
  unfold cntOf
  exact List.countP_mono_left fun b _ hb => h b hb
/-- an outcome's lot -/
theorem out_lot {p : List (Nat × Nat)} {m : Nat} (h : (brds p).Nodup) (hm : m ∈ outc p) : ∃ s, SelC p s ∧ s.Nodup ∧ ∀ k, m.testBit k = true ↔ k ∈ s := by
  obtain ⟨s, hs, rfl⟩ := mem_outc.mp hm
  exact ⟨s, hs, hs.nodup h, fun k => by rw [testBit_bitsOr]; simp⟩
/-- just one board of each pair -/
theorem SelC.one : ∀ {p : List (Nat × Nat)} {s : List Nat}, SelC p s → (brds p).Nodup → ∀ q ∈ p, (q.1 ∈ s ∧ q.2 ∉ s) ∨ (q.1 ∉ s ∧ q.2 ∈ s)
  | [], _, _, _, q, hq => by cases hq
  | q :: p, s, h, n, x, hx => by
    obtain ⟨c, r, rfl, hc, hs⟩ := h
    have n' : (q.1 :: q.2 :: brds p).Nodup := n
    obtain ⟨n1, n2⟩ := List.nodup_cons.mp n'
    obtain ⟨n3, n4⟩ := List.nodup_cons.mp n2
    have sub := hs.sub.subset
    rcases List.mem_cons.mp hx with rfl | hx
    · have a1 : x.1 ∉ r := fun z => n1 (List.mem_cons_of_mem _ (sub z))
      have a2 : x.2 ∉ r := fun z => n3 (sub z)
      have a3 : x.1 ≠ x.2 := fun z => n1 (z ▸ List.mem_cons_self)
      rcases hc with rfl | rfl
      · exact .inl ⟨List.mem_cons_self, by simp [Ne.symm a3, a2]⟩
      · exact .inr ⟨by simp [a3, a1], List.mem_cons_self⟩
    · have ih := SelC.one hs n4 x hx
      have m1 : x.1 ∈ brds p := List.mem_flatMap.mpr ⟨x, hx, by simp⟩
      have m2 : x.2 ∈ brds p := List.mem_flatMap.mpr ⟨x, hx, by simp⟩
      have d1 : x.1 ≠ c := by
        rintro rfl
        rcases hc with e | e
        · exact n1 (List.mem_cons_of_mem _ (e ▸ m1))
        · exact n3 (e ▸ m1)
      have d2 : x.2 ≠ c := by
        rintro rfl
        rcases hc with e | e
        · exact n1 (List.mem_cons_of_mem _ (e ▸ m2))
        · exact n3 (e ▸ m2)
      rcases ih with ⟨i1, i2⟩ | ⟨i1, i2⟩
      · exact .inl ⟨List.mem_cons_of_mem _ i1, by simp [d2, i2]⟩
      · exact .inr ⟨by simp [d1, i1], List.mem_cons_of_mem _ i2⟩
end Ug

namespace Ug

/-! ### the search -/
def ins (l : List Nat) (x : Nat) : List Nat := if x ∈ l then l else l ++ [x]
def needOf (nb : Nat → List Nat) (tk out : List Nat) : List Nat := out.foldl (fun acc b => (nb b).foldl (fun acc o => if o ∈ tk then acc else ins acc o) acc) []
def freeOf (nb : Nat → List Nat) (tk out need : List Nat) : List Nat := need.foldl (fun acc b => (nb b).foldl (fun acc o => if o ∉ tk ∧ o ∉ out then ins acc o else acc) acc) []
def stuck (nb : Nat → List Nat) (tk out : List Nat) : Bool :=
  (out.any fun b => (nb b).any fun o => decide (o ∈ out)) || decide ((freeOf nb tk out (needOf nb tk out)).length < (needOf nb tk out).length)
def opens (nb : Nat → List Nat) (tk out : List Nat) (b : Nat) : List Nat := (nb b).filter fun o => decide (b < o ∧ o ∉ tk ∧ o ∉ out)
def leaves (nb : Nat → List Nat) : List Nat → List Nat → List Nat → List (Nat × Nat) → List (List (Nat × Nat))
  | [], _, _, ch => [ch]
  | b :: rem, tk, out, ch =>
    if b ∈ tk then leaves nb rem tk out ch
    else ((opens nb tk out b).flatMap fun o => leaves nb rem (tk ++ [b, o]) out (ch ++ [(b, o)])) ++ (if stuck nb tk (out ++ [b]) = true then [] else leaves nb rem tk (out ++ [b]) ch)

theorem needOf_nil {nb : Nat → List Nat} {tk : List Nat} : ∀ (out : List Nat), (∀ b ∈ out, ∀ o ∈ nb b, o ∈ tk) → needOf nb tk out = [] := by
  intro out h
  have in1 : ∀ l : List Nat, (∀ o ∈ l, o ∈ tk) → l.foldl (fun acc o => if o ∈ tk then acc else ins acc o) [] = [] := by
    intro l
    induction l with
    | nil => intro _; rfl
    | cons o l ih =>
      intro hl
      rw [List.foldl_cons, if_pos (hl o List.mem_cons_self)]
      exact ih fun x hx => hl x (List.mem_cons_of_mem _ hx)
  unfold needOf
  induction out with
  | nil => rfl
  | cons b out ih =>
    rw [List.foldl_cons, in1 _ (h b List.mem_cons_self)]
    exact ih fun x hx => h x (List.mem_cons_of_mem _ hx)
theorem stuck_clean {nb : Nat → List Nat} {tk out : List Nat} (h : ∀ b ∈ out, ∀ o ∈ nb b, o ∈ tk) (d : ∀ o ∈ out, o ∉ tk) : stuck nb tk out = false := by
  unfold stuck
  rw [needOf_nil out h]
  have : (out.any fun b => (nb b).any fun o => decide (o ∈ out)) = false := by
    rw [List.any_eq_false]
    intro b hb
    rw [Bool.not_eq_true, List.any_eq_false]
    intro o ho
    rw [decide_eq_true_eq]
    exact fun z => d o z (h b hb o ho)
  rw [this]; simp

/-- the way that always pairs comes to its end -/
theorem leaves_some {nb : Nat → List Nat} (sym : ∀ b o, o ∈ nb b → b ∈ nb o) (irr : ∀ b, b ∉ nb b) : ∀ (rem tk out : List Nat) (ch : List (Nat × Nat)), rem.Pairwise (· < ·) →
    (∀ b o, o ∈ nb b → o ∈ rem ∨ o ∈ tk ∨ o ∈ out) → (∀ b ∈ out, ∀ o ∈ nb b, o ∈ tk) → (∀ o ∈ out, o ∉ tk) → (∀ o ∈ out, o ∉ rem) → leaves nb rem tk out ch ≠ [] := by
  intro rem
  induction rem with
  | nil => intro tk out ch _ _ _ _ _; simp [leaves]
  | cons b rem ih =>
    intro tk out ch hs hp hc hd hr
    obtain ⟨hs1, hs2⟩ := List.pairwise_cons.mp hs
    unfold leaves
    by_cases hb : b ∈ tk
    · rw [if_pos hb]
      refine ih tk out ch hs2 (fun x o ho => ?_) hc hd fun o ho => fun z => hr o ho (List.mem_cons_of_mem _ z)
      rcases hp x o ho with h | h | h
      · rcases List.mem_cons.mp h with rfl | h
        · exact .inr (.inl hb)
        · exact .inl h
      · exact .inr (.inl h)
      · exact .inr (.inr h)
    · rw [if_neg hb]
      cases ho : opens nb tk out b with
      | cons o os =>
        have hm : o ∈ opens nb tk out b := by rw [ho]; exact List.mem_cons_self
        obtain ⟨hm1, hm2⟩ := List.mem_filter.mp hm
        obtain ⟨lt, nt, no⟩ := of_decide_eq_true hm2
        have bo : b ∉ out := fun z => hr b z List.mem_cons_self
        have := ih (tk ++ [b, o]) out (ch ++ [(b, o)]) hs2 (fun x y hy => by
            rcases hp x y hy with h | h | h
            · rcases List.mem_cons.mp h with rfl | h
              · exact .inr (.inl (by simp))
              · exact .inl h
            · exact .inr (.inl (by simp [h]))
            · exact .inr (.inr h)) (fun x hx y hy => List.mem_append.mpr (.inl (hc x hx y hy))) (fun y hy z => by
            rcases List.mem_append.mp z with z | z
            · exact hd y hy z
            · rcases List.mem_cons.mp z with rfl | z
              · exact bo hy
              · rw [List.mem_singleton.mp z] at hy; exact no hy) fun y hy z => hr y hy (List.mem_cons_of_mem _ z)
        rw [List.flatMap_cons]
        intro e
        rw [List.append_eq_nil_iff, List.append_eq_nil_iff] at e
        exact this e.1.1
      | nil =>
        have all : ∀ o ∈ nb b, o ∈ tk := fun o hob => by
          rcases Nat.lt_trichotomy b o with lt | e | gt
          · rcases Classical.em (o ∈ tk) with h | nt
            · exact h
            · rcases Classical.em (o ∈ out) with h | no
              · exact absurd (hc o h b (sym _ _ hob)) hb
              · have : o ∈ opens nb tk out b := List.mem_filter.mpr ⟨hob, decide_eq_true ⟨lt, nt, no⟩⟩
                rw [ho] at this; cases this
          · subst e; exact absurd hob (irr b)
          · rcases hp b o hob with h | h | h
            · rcases List.mem_cons.mp h with e | h
              · omega
              · have := hs1 o h; omega
            · exact h
            · exact absurd (hc o h b (sym _ _ hob)) hb
        have c2 : ∀ x ∈ out ++ [b], ∀ o ∈ nb x, o ∈ tk := fun x hx => by
          rcases List.mem_append.mp hx with h | h
          · exact hc x h
          · rw [List.mem_singleton.mp h]; exact all
        have d2 : ∀ x ∈ out ++ [b], x ∉ tk := fun x hx => by
          rcases List.mem_append.mp hx with h | h
          · exact hd x h
          · rw [List.mem_singleton.mp h]; exact hb
        rw [stuck_clean c2 d2]
        have := ih tk (out ++ [b]) ch hs2 (fun x y hy => by
            rcases hp x y hy with h | h | h
            · rcases List.mem_cons.mp h with rfl | h
              · exact .inr (.inr (by simp))
              · exact .inl h
            · exact .inr (.inl h)
            · exact .inr (.inr (by simp [h]))) c2 d2 fun y hy z => by
            rcases List.mem_append.mp hy with h | h
            · exact hr y h (List.mem_cons_of_mem _ z)
            · rw [List.mem_singleton.mp h] at z
              exact absurd (hs1 b z) (Nat.lt_irrefl _)
        simpa using this

/-! ### how many -/
def inv : Nat → Nat
  | 0 => 1
  | 1 => 1
  | n + 2 => inv (n + 1) + (n + 1) * inv n
theorem inv_mono : ∀ n, inv n ≤ inv (n + 1)
  | 0 => by decide
  | n + 1 => by
    show inv (n + 1) ≤ inv (n + 1) + (n + 1) * inv n
    exact Nat.le_add_right _ _
theorem inv_le {m n : Nat} (h : m ≤ n) : inv m ≤ inv n := by
  induction h with
  | refl => exact Nat.le_refl _
  | step _ ih => exact Nat.le_trans ih (inv_mono _)
theorem inv_pos (n : Nat) : 0 < inv n := Nat.lt_of_lt_of_le (by decide) (inv_le (Nat.zero_le n))
theorem len_flatMap_le {α β : Type} (f : α → List β) (c : Nat) : ∀ l : List α, (∀ x ∈ l, (f x).length ≤ c) → (l.flatMap f).length ≤ l.length * c
  | [], _ => by simp
  | x :: l, h => by
    rw [List.flatMap_cons, List.length_append, List.length_cons, Nat.succ_mul]
    have h1 := h x List.mem_cons_self
    have h2 := len_flatMap_le f c l fun y hy => h y (List.mem_cons_of_mem _ hy)
    omega
/-- pigeons -/
theorem nodup_len : ∀ (l m : List Nat), l.Nodup → (∀ x ∈ l, x ∈ m) → l.length ≤ m.length
  | [], _, _, _ => Nat.zero_le _
  | a :: l, m, h, s => by
    obtain ⟨h1, h2⟩ := List.nodup_cons.mp h
    have hm : a ∈ m := s a List.mem_cons_self
    have ih := nodup_len l (m.erase a) h2 fun x hx => by
      have hx' := s x (List.mem_cons_of_mem _ hx)
      have ne : x ≠ a := fun e => h1 (e ▸ hx)
      exact (List.mem_erase_of_ne ne).mpr hx'
    rw [List.length_erase_of_mem hm] at ih
    have : 0 < m.length := List.length_pos_of_mem hm
    rw [List.length_cons]; omega
def room (rem tk : List Nat) : Nat := (rem.filter fun x => decide (x ∉ tk)).length
theorem room_cons_in {b : Nat} {rem tk : List Nat} (h : b ∈ tk) : room (b :: rem) tk = room rem tk := by
  unfold room; rw [List.filter_cons]; simp [h]
theorem room_cons_out {b : Nat} {rem tk : List Nat} (h : b ∉ tk) : room (b :: rem) tk = room rem tk + 1 := by
  unfold room; rw [List.filter_cons]; simp [h]
theorem room_le {rem tk tk' : List Nat} (h : ∀ x ∈ tk, x ∈ tk') : room rem tk' ≤ room rem tk := by
  unfold room
  rw [← List.countP_eq_length_filter, ← List.countP_eq_length_filter]
  refine List.countP_mono_left fun x _ hx => ?_
  exact decide_eq_true fun z => of_decide_eq_true hx (h x z)
theorem room_less {rem tk : List Nat} {b o : Nat} (hr : o ∈ rem) (ho : o ∉ tk) : room rem (tk ++ [b, o]) + 1 ≤ room rem tk := by
  induction rem with
  | nil => cases hr
  | cons x rem ih =>
    by_cases e : x = o
    · subst e
      rw [room_cons_out ho, room_cons_in (by simp)]
      have := room_le (rem := rem) (tk := tk) (tk' := tk ++ [b, x]) fun y hy => List.mem_append.mpr (.inl hy)
      omega
    · have hr' : o ∈ rem := by
        rcases List.mem_cons.mp hr with h | h
        · exact absurd h.symm e
        · exact h
      have := ih hr'
      by_cases hx : x ∈ tk
      · rw [room_cons_in hx, room_cons_in (List.mem_append.mpr (.inl hx))]; exact this
      · rw [room_cons_out hx]
        by_cases hx2 : x ∈ tk ++ [b, o]
        · rw [room_cons_in hx2]; omega
        · rw [room_cons_out hx2]; omega
theorem leaves_len {nb : Nat → List Nat} (nd : ∀ b, (nb b).Nodup) : ∀ (rem tk out : List Nat) (ch : List (Nat × Nat)), rem.Pairwise (· < ·) → (∀ b ∈ rem, ∀ o ∈ nb b, b < o → o ∈ rem) → (leaves nb rem tk out ch).length ≤ inv (room rem tk) := by
  intro rem
  induction rem with
  | nil => intro tk out ch _ _; simp [leaves, room, inv]
  | cons b rem ih =>
    intro tk out ch hs hc
    obtain ⟨hs1, hs2⟩ := List.pairwise_cons.mp hs
    have hc2 : ∀ x ∈ rem, ∀ o ∈ nb x, x < o → o ∈ rem := fun x hx o ho lt => by
      rcases List.mem_cons.mp (hc x (List.mem_cons_of_mem _ hx) o ho lt) with e | h
      · have := hs1 x hx; omega
      · exact h
    unfold leaves
    by_cases hb : b ∈ tk
    · rw [if_pos hb, room_cons_in hb]; exact ih _ _ _ hs2 hc2
    · rw [if_neg hb, room_cons_out hb, List.length_append]
      have h1 : (if stuck nb tk (out ++ [b]) = true then [] else leaves nb rem tk (out ++ [b]) ch).length ≤ inv (room rem tk) := by
        split
        · exact Nat.zero_le _
        · exact ih _ _ _ hs2 hc2
      have hsub : ∀ o ∈ opens nb tk out b, o ∈ rem ∧ o ∉ tk := fun o ho => by
        obtain ⟨m1, m2⟩ := List.mem_filter.mp ho
        obtain ⟨lt, nt, _⟩ := of_decide_eq_true m2
        rcases List.mem_cons.mp (hc b List.mem_cons_self o m1 lt) with e | h
        · omega
        · exact ⟨h, nt⟩
      have hk : (opens nb tk out b).length ≤ room rem tk := nodup_len _ _ ((nd b).filter _) fun o ho => by
        obtain ⟨a1, a2⟩ := hsub o ho
        exact List.mem_filter.mpr ⟨a1, decide_eq_true a2⟩
      have h2 := len_flatMap_le (fun o => leaves nb rem (tk ++ [b, o]) out (ch ++ [(b, o)])) (inv (room rem tk - 1)) (opens nb tk out b) fun o ho => by
        obtain ⟨a1, a2⟩ := hsub o ho
        refine Nat.le_trans (ih _ _ _ hs2 hc2) (inv_le ?_)
        have := room_less (b := b) a1 a2
        omega
      cases hm : room rem tk with
      | zero =>
        rw [hm] at hk h1 h2
        have : (opens nb tk out b).length = 0 := by omega
        rw [this] at h2
        have e : inv (0 + 1) = inv 0 := rfl
        rw [e]; omega
      | succ m =>
        rw [hm] at hk h1 h2
        have h3 : (opens nb tk out b).length * inv (m + 1 - 1) ≤ (m + 1) * inv m := Nat.mul_le_mul hk (Nat.le_refl _)
        show _ ≤ inv (m + 1) + (m + 1) * inv m
        omega

/-! ### what a leaf is -/
structure Ext (nb : Nat → List Nat) (rem tk : List Nat) (e : List (Nat × Nat)) : Prop where
  asc : (e.map (·.1)).Pairwise (· < ·)
  mem : ∀ q ∈ e, q.1 ∈ rem ∧ q.1 < q.2 ∧ q.2 ∈ nb q.1
  nd : (brds e).Nodup
  off : ∀ k ∈ brds e, k ∉ tk
theorem mem_brds {e : List (Nat × Nat)} {k : Nat} : k ∈ brds e ↔ ∃ q ∈ e, k = q.1 ∨ k = q.2 := by
  unfold brds
  rw [List.mem_flatMap]
  constructor
  · rintro ⟨q, hq, h⟩
    exact ⟨q, hq, by simpa using h⟩
  · rintro ⟨q, hq, h⟩
    exact ⟨q, hq, by simpa using h⟩
theorem leaf_ext {nb : Nat → List Nat} : ∀ (rem tk out : List Nat) (ch : List (Nat × Nat)), rem.Pairwise (· < ·) → ∀ lf ∈ leaves nb rem tk out ch, ∃ e, lf = ch ++ e ∧ Ext nb rem tk e := by
  intro rem
  induction rem with
  | nil =>
    intro tk out ch _ lf h
    have : lf = ch := by simpa [leaves] using h
    exact ⟨[], by simp [this], List.Pairwise.nil, (fun q hq => by cases hq), List.nodup_nil, (fun k hk => by cases hk)⟩
  | cons b rem ih =>
    intro tk out ch hs lf h
    obtain ⟨hs1, hs2⟩ := List.pairwise_cons.mp hs
    have wk : ∀ {e tk'}, (∀ x ∈ tk, x ∈ tk') → Ext nb rem tk' e → Ext nb (b :: rem) tk e := fun s x =>
      ⟨x.asc, fun q hq => ⟨List.mem_cons_of_mem _ (x.mem q hq).1, (x.mem q hq).2⟩, x.nd, fun k hk z => x.off k hk (s k z)⟩
    unfold leaves at h
    by_cases hb : b ∈ tk
    · rw [if_pos hb] at h
      obtain ⟨e, e1, x⟩ := ih _ _ _ hs2 lf h
      exact ⟨e, e1, wk (fun _ z => z) x⟩
    · rw [if_neg hb] at h
      rcases List.mem_append.mp h with h | h
      · obtain ⟨o, ho, h⟩ := List.mem_flatMap.mp h
        obtain ⟨m1, m2⟩ := List.mem_filter.mp ho
        obtain ⟨lt, nt, _⟩ := of_decide_eq_true m2
        obtain ⟨e, e1, x⟩ := ih _ _ _ hs2 lf h
        have y := wk (fun z hz => List.mem_append.mpr (.inl hz)) x
        have nb1 : b ∉ brds e := fun z => x.off b z (by simp)
        have nb2 : o ∉ brds e := fun z => x.off o z (by simp)
        refine ⟨(b, o) :: e, by simp [e1], ⟨?_, fun q hq => ?_, ?_, fun k hk => ?_⟩⟩
        · rw [List.map_cons]
          refine List.pairwise_cons.mpr ⟨fun k hk => ?_, x.asc⟩
          obtain ⟨q, hq, rfl⟩ := List.mem_map.mp hk
          exact hs1 _ (x.mem q hq).1
        · rcases List.mem_cons.mp hq with rfl | hq
          · exact ⟨List.mem_cons_self, lt, m1⟩
          · exact y.mem q hq
        · show (b :: o :: brds e).Nodup
          refine List.nodup_cons.mpr ⟨fun z => ?_, List.nodup_cons.mpr ⟨nb2, x.nd⟩⟩
          rcases List.mem_cons.mp z with z | z
          · omega
          · exact nb1 z
        · have hk' : k ∈ b :: o :: brds e := hk
          rcases List.mem_cons.mp hk' with rfl | hk'
          · exact hb
          · rcases List.mem_cons.mp hk' with rfl | hk'
            · exact nt
            · exact y.off k hk'
      · split at h
        · cases h
        · obtain ⟨e, e1, x⟩ := ih _ _ _ hs2 lf h
          exact ⟨e, e1, wk (fun _ z => z) x⟩
theorem nodup_flatMap {α β : Type} {f : α → List β} : ∀ {l : List α}, l.Nodup → (∀ x ∈ l, (f x).Nodup) → (∀ x ∈ l, ∀ y ∈ l, x ≠ y → ∀ z ∈ f x, z ∉ f y) → (l.flatMap f).Nodup
  | [], _, _, _ => List.nodup_nil
  | a :: l, h, h1, h2 => by
    obtain ⟨n1, n2⟩ := List.nodup_cons.mp h
    rw [List.flatMap_cons]
    refine List.nodup_append.mpr ⟨h1 a List.mem_cons_self, nodup_flatMap n2 (fun x hx => h1 x (List.mem_cons_of_mem _ hx)) fun x hx y hy => h2 x (List.mem_cons_of_mem _ hx) y (List.mem_cons_of_mem _ hy), fun z hz w hw e => ?_⟩
    subst e
    obtain ⟨y, hy, hy2⟩ := List.mem_flatMap.mp hw
    exact h2 a List.mem_cons_self y (List.mem_cons_of_mem _ hy) (fun e => n1 (e ▸ hy)) z hz hy2
theorem leaves_nodup {nb : Nat → List Nat} (nd : ∀ b, (nb b).Nodup) : ∀ (rem tk out : List Nat) (ch : List (Nat × Nat)), rem.Pairwise (· < ·) → (leaves nb rem tk out ch).Nodup := by
  intro rem
  induction rem with
  | nil => intro tk out ch _; simp [leaves]
  | cons b rem ih =>
    intro tk out ch hs
    obtain ⟨hs1, hs2⟩ := List.pairwise_cons.mp hs
    unfold leaves
    by_cases hb : b ∈ tk
    · rw [if_pos hb]; exact ih _ _ _ hs2
    · rw [if_neg hb]
      refine List.nodup_append.mpr ⟨nodup_flatMap ((nd b).filter _) (fun o _ => ih _ _ _ hs2) fun o _ o' _ ne z hz hz' => ?_, ?_, fun z hz w hw e => ?_⟩
      · obtain ⟨e, e1, _⟩ := leaf_ext _ _ _ _ hs2 z hz
        obtain ⟨e', e1', _⟩ := leaf_ext _ _ _ _ hs2 z hz'
        rw [e1, List.append_assoc, List.append_assoc] at e1'
        have := List.append_cancel_left e1'
        simp at this
        exact ne this.1
      · split
        · exact List.nodup_nil
        · exact ih _ _ _ hs2
      · subst e
        split at hw
        · cases hw
        · obtain ⟨o, _, hz⟩ := List.mem_flatMap.mp hz
          obtain ⟨e, e1, _⟩ := leaf_ext _ _ _ _ hs2 z hz
          obtain ⟨e', e1', x'⟩ := leaf_ext _ _ _ _ hs2 z hw
          rw [e1, List.append_assoc] at e1'
          have := List.append_cancel_left e1'
          have hm : (b, o) ∈ e' := by rw [← this]; simp
          exact absurd (hs1 b (x'.mem _ hm).1) (Nat.lt_irrefl _)
end Ug

namespace Ug
open PySem (Str)

/-! ### boards, pairs of boards, who is near whom -/
structure Brd where
  nm : Str
  sd : Nat
  rw : List Str
  deriving DecidableEq, Inhabited
def isAhead (l s : Brd) : Bool := decide (l.rw.length = s.rw.length + 1) && (decide (l.rw.dropLast = s.rw) && decide (s.rw.length % 2 ≠ l.sd))
def arePair (a b : Brd) : Bool := decide (a.nm = b.nm) && (decide (a.sd ≠ b.sd) && (decide (a.rw = b.rw) || (isAhead a b || isAhead b a)))
def bAt (bs : List Brd) (i : Nat) : Brd := bs.getD i default
def rowPairs (bs : List Brd) (i n : Nat) : List (Nat × Nat) := ((List.range' (i + 1) n).filter fun j => arePair (bAt bs i) (bAt bs j)).map fun j => (i, j)
def allPairs (bs : List Brd) : List (Nat × Nat) := (List.range bs.length).flatMap fun i => rowPairs bs i (bs.length - (i + 1))
theorem mem_allPairs {bs : List Brd} {q : Nat × Nat} : q ∈ allPairs bs ↔ q.1 < q.2 ∧ q.2 < bs.length ∧ arePair (bAt bs q.1) (bAt bs q.2) = true := by
  unfold allPairs rowPairs
  simp only [List.mem_flatMap, List.mem_range, List.mem_map, List.mem_filter, List.mem_range'_1]
  constructor
  · rintro ⟨i, hi, j, ⟨⟨h1, h2⟩, h3⟩, rfl⟩
    exact ⟨by omega, by show j < _; omega, h3⟩
  · rintro ⟨h1, h2, h3⟩
    exact ⟨q.1, by omega, q.2, ⟨⟨by omega, by omega⟩, h3⟩, rfl⟩
theorem allPairs_nodup (bs : List Brd) : (allPairs bs).Nodup := by
  unfold allPairs rowPairs
  refine nodup_flatMap List.nodup_range (fun i _ => ?_) fun i _ j _ ne z hz hz' => ?_
  · have : ((List.range' (i + 1) (bs.length - (i + 1))).filter fun j => arePair (bAt bs i) (bAt bs j)).Nodup := List.Pairwise.filter _ (List.nodup_range' (step := 1) (h := by decide))
    exact List.Pairwise.map (fun j => (i, j)) (fun a b h e => h (Prod.mk.inj e).2) this
  · obtain ⟨a, _, rfl⟩ := List.mem_map.mp hz
    obtain ⟨b, _, e⟩ := List.mem_map.mp hz'
    exact ne (Prod.mk.inj e).1.symm
theorem arePair_nm {a b : Brd} (h : arePair a b = true) : a.nm = b.nm := by
  unfold arePair at h
  simp only [Bool.and_eq_true, decide_eq_true_eq] at h
  exact h.1
theorem arePair_sd {a b : Brd} (h : arePair a b = true) : a.sd ≠ b.sd := by
  unfold arePair at h
  simp only [Bool.and_eq_true, decide_eq_true_eq] at h
  exact h.2.1

/-- a board's list, one more in it -/
def addN : List (Nat × List Nat) → Nat → Nat → List (Nat × List Nat)
  | [], i, j => [(i, [j])]
  | (k, l) :: r, i, j => if k = i then (k, l ++ [j]) :: r else (k, l) :: addN r i j
def nbOf : List (Nat × List Nat) → Nat → List Nat
  | [], _ => []
  | (k, l) :: r, i => if k = i then l else nbOf r i
def keysN (nr : List (Nat × List Nat)) : List Nat := nr.map (·.1)
theorem nbOf_addN : ∀ (nr : List (Nat × List Nat)) (i j k : Nat), nbOf (addN nr i j) k = if k = i then nbOf nr i ++ [j] else nbOf nr k
  | [], i, j, k => by
    unfold addN nbOf nbOf
    by_cases h : i = k
    · simp [h]
    · have : ¬ k = i := fun e => h e.symm
      simp [h, this]
  | (a, l) :: r, i, j, k => by
    unfold addN
    by_cases h : a = i
    · subst h
      rw [if_pos rfl]
      by_cases h2 : k = a
      · subst h2; simp [nbOf]
      · have : ¬ a = k := fun e => h2 e.symm
        simp [nbOf, h2, this]
    · rw [if_neg h]
      have ih := nbOf_addN r i j k
      by_cases h2 : k = i
      · subst h2
        rw [if_pos rfl] at ih ⊢
        simp [nbOf, h, ih]
      · rw [if_neg h2] at ih ⊢
        simp [nbOf, ih]
theorem keysN_addN : ∀ (nr : List (Nat × List Nat)) (i j : Nat), keysN (addN nr i j) = ins (keysN nr) i
  | [], i, j => by simp [addN, keysN, ins]
  | (a, l) :: r, i, j => by
    have ih := keysN_addN r i j
    unfold keysN ins at ih ⊢
    unfold addN
    by_cases h : a = i
    · subst h; simp
    · have h' : ¬ i = a := fun e => h e.symm
      rw [if_neg h, List.map_cons, ih, List.map_cons]
      by_cases h2 : i ∈ r.map (·.1)
      · rw [if_pos h2, if_pos (List.mem_cons_of_mem _ h2)]
      · rw [if_neg h2, if_neg (by simp [h']; simpa using h2)]; rfl
theorem ins_nodup {l : List Nat} {x : Nat} (h : l.Nodup) : (ins l x).Nodup := by
  unfold ins
  by_cases hx : x ∈ l
  · rw [if_pos hx]; exact h
  · rw [if_neg hx]
    refine List.nodup_append.mpr ⟨h, by simp, fun a ha b hb e => ?_⟩
    rw [List.mem_singleton.mp hb] at e
    exact hx (e ▸ ha)
theorem mem_ins {l : List Nat} {x y : Nat} : y ∈ ins l x ↔ y ∈ l ∨ y = x := by
  unfold ins
  by_cases hx : x ∈ l
  · rw [if_pos hx]
    constructor
    · exact .inl
    · rintro (h | rfl)
      · exact h
      · exact hx
  · rw [if_neg hx]; simp
def addBoth (nr : List (Nat × List Nat)) (q : Nat × Nat) : List (Nat × List Nat) := addN (addN nr q.1 q.2) q.2 q.1
theorem nbOf_addBoth {nr : List (Nat × List Nat)} {q : Nat × Nat} (h : q.1 < q.2) (k : Nat) : nbOf (addBoth nr q) k = if k = q.2 then nbOf nr q.2 ++ [q.1] else if k = q.1 then nbOf nr q.1 ++ [q.2] else nbOf nr k := by
  unfold addBoth
  rw [nbOf_addN]
  by_cases h1 : k = q.2
  · rw [if_pos h1, if_pos h1, nbOf_addN, if_neg (by omega)]
  · rw [if_neg h1, if_neg h1, nbOf_addN]
def near (ps : List (Nat × Nat)) : List (Nat × List Nat) := ps.foldl addBoth []
/-- what holds of it -/
structure NearOk (ps : List (Nat × Nat)) (nr : List (Nat × List Nat)) : Prop where
  mem : ∀ b o, o ∈ nbOf nr b ↔ (b, o) ∈ ps ∨ (o, b) ∈ ps
  nd : ∀ b, (nbOf nr b).Nodup
  key : ∀ k, k ∈ keysN nr ↔ k ∈ brds ps
  knd : (keysN nr).Nodup
theorem near_ok : ∀ (ps done : List (Nat × Nat)) (nr : List (Nat × List Nat)), NearOk done nr → (done ++ ps).Nodup → (∀ q ∈ done ++ ps, q.1 < q.2) → NearOk (done ++ ps) (ps.foldl addBoth nr) := by
  intro ps
  induction ps with
  | nil => intro done nr h _ _; simpa using h
  | cons q ps ih =>
    intro done nr h nd lt
    have hq : q.1 < q.2 := lt q (by simp)
    have nq : q ∉ done := fun z => by
      have := List.nodup_append.mp nd
      exact this.2.2 q z q (by simp) rfl
    have nq2 : (q.2, q.1) ∉ done := fun z => by
      have := lt (q.2, q.1) (by simp [z])
      simp at this; omega
    have step : NearOk (done ++ [q]) (addBoth nr q) := by
      refine ⟨fun b o => ?_, fun b => ?_, fun k => ?_, ?_⟩
      · rw [nbOf_addBoth hq]
        have e1 : (b, o) ∈ done ++ [q] ↔ (b, o) ∈ done ∨ (b = q.1 ∧ o = q.2) := by
          rw [List.mem_append, List.mem_singleton, Prod.ext_iff]
        have e2 : (o, b) ∈ done ++ [q] ↔ (o, b) ∈ done ∨ (o = q.1 ∧ b = q.2) := by
          rw [List.mem_append, List.mem_singleton, Prod.ext_iff]
        rw [e1, e2]
        by_cases h1 : b = q.2
        · rw [if_pos h1, List.mem_append, List.mem_singleton, h.mem]
          subst h1
          constructor
          · rintro ((z | z) | z)
            · exact .inl (.inl z)
            · exact .inr (.inl z)
            · exact .inr (.inr ⟨z, rfl⟩)
          · rintro ((z | z) | (z | z))
            · exact .inl (.inl z)
            · omega
            · exact .inl (.inr z)
            · exact .inr z.1
        · rw [if_neg h1]
          by_cases h2 : b = q.1
          · rw [if_pos h2, List.mem_append, List.mem_singleton, h.mem]
            subst h2
            constructor
            · rintro ((z | z) | z)
              · exact .inl (.inl z)
              · exact .inr (.inl z)
              · exact .inl (.inr ⟨rfl, z⟩)
            · rintro ((z | z) | (z | z))
              · exact .inl (.inl z)
              · exact .inr z.2
              · exact .inl (.inr z)
              · omega
          · rw [if_neg h2, h.mem]
            constructor
            · rintro (z | z)
              · exact .inl (.inl z)
              · exact .inr (.inl z)
            · rintro ((z | z) | (z | z))
              · exact .inl z
              · exact absurd z.1 h2
              · exact .inr z
              · exact absurd z.2 h1
      · rw [nbOf_addBoth hq]
        have app : ∀ (l : List Nat) (x : Nat), l.Nodup → x ∉ l → (l ++ [x]).Nodup := fun l x hl hx => by
          refine List.nodup_append.mpr ⟨hl, by simp, fun a ha b hb e => ?_⟩
          rw [List.mem_singleton.mp hb] at e
          exact hx (e ▸ ha)
        by_cases h1 : b = q.2
        · rw [if_pos h1]
          refine app _ _ (h.nd _) fun z => ?_
          rcases (h.mem _ _).mp z with z | z
          · exact nq2 z
          · exact nq z
        · rw [if_neg h1]
          by_cases h2 : b = q.1
          · rw [if_pos h2]
            refine app _ _ (h.nd _) fun z => ?_
            rcases (h.mem _ _).mp z with z | z
            · exact nq z
            · exact nq2 z
          · rw [if_neg h2]; exact h.nd _
      · unfold addBoth
        rw [keysN_addN, keysN_addN, mem_ins, mem_ins, h.key]
        unfold brds
        rw [List.flatMap_append, List.mem_append]
        simp [or_assoc]
      · unfold addBoth
        rw [keysN_addN, keysN_addN]
        exact ins_nodup (ins_nodup h.knd)
    have := ih (done ++ [q]) (addBoth nr q) step (by simpa using nd) (by simpa using lt)
    simpa using this
theorem near_is {ps : List (Nat × Nat)} (nd : ps.Nodup) (lt : ∀ q ∈ ps, q.1 < q.2) : NearOk ps (near ps) := by
  have := near_ok ps [] [] ⟨fun b o => by simp [nbOf], fun b => by simp [nbOf], fun k => by simp [keysN, brds], by simp [keysN]⟩ (by simpa using nd) (by simpa using lt)
  simpa [near] using this
/-- one rising list for a set -/
theorem asc_unique : ∀ {l m : List Nat}, l.Pairwise (· < ·) → m.Pairwise (· < ·) → (∀ x, x ∈ l ↔ x ∈ m) → l = m
  | [], [], _, _, _ => rfl
  | [], b :: m, _, _, h => by have := (h b).mpr List.mem_cons_self; cases this
  | a :: l, [], _, _, h => by have := (h a).mp List.mem_cons_self; cases this
  | a :: l, b :: m, hl, hm, h => by
    obtain ⟨l1, l2⟩ := List.pairwise_cons.mp hl
    obtain ⟨m1, m2⟩ := List.pairwise_cons.mp hm
    have e : a = b := by
      rcases List.mem_cons.mp ((h a).mp List.mem_cons_self) with e | q
      · exact e
      · rcases List.mem_cons.mp ((h b).mpr List.mem_cons_self) with e | q'
        · exact e.symm
        · have := m1 a q; have := l1 b q'; omega
    subst e
    rw [asc_unique l2 m2 fun x => ?_]
    constructor
    · intro q
      rcases List.mem_cons.mp ((h x).mp (List.mem_cons_of_mem _ q)) with e | r
      · subst e; exact absurd (l1 x q) (Nat.lt_irrefl _)
      · exact r
    · intro q
      rcases List.mem_cons.mp ((h x).mpr (List.mem_cons_of_mem _ q)) with e | r
      · subst e; exact absurd (m1 x q) (Nat.lt_irrefl _)
      · exact r
/-- the rising list of some numbers below a bound -/
def ascOf (n : Nat) (l : List Nat) : List Nat := (List.range n).filter fun x => decide (x ∈ l)
theorem ascOf_asc (n : Nat) (l : List Nat) : (ascOf n l).Pairwise (· < ·) := List.Pairwise.filter _ List.pairwise_lt_range
theorem mem_ascOf {n : Nat} {l : List Nat} {x : Nat} : x ∈ ascOf n l ↔ x < n ∧ x ∈ l := by
  unfold ascOf; rw [List.mem_filter, List.mem_range, decide_eq_true_eq]

/-! ### the pairings of one name, of all names -/
def ofName (bs : List Brd) (nm : Str) : List (Nat × Nat) := (allPairs bs).filter fun q => decide ((bAt bs q.1).nm = nm)
def own (bs : List Brd) (nm : Str) : List (List (Nat × Nat)) := leaves (nbOf (near (ofName bs nm))) (ascOf bs.length (keysN (near (ofName bs nm)))) [] [] []
def prods (bs : List Brd) (nms : List Str) : List (List (Nat × Nat)) := nms.foldl (fun found nm => found.flatMap fun one => (own bs nm).map fun other => one ++ other) [[]]
theorem ofName_near (bs : List Brd) (nm : Str) : NearOk (ofName bs nm) (near (ofName bs nm)) :=
  near_is ((allPairs_nodup bs).filter _) fun q hq => (mem_allPairs.mp (List.mem_filter.mp hq).1).1
theorem mem_ofName {bs : List Brd} {nm : Str} {q : Nat × Nat} : q ∈ ofName bs nm ↔ q ∈ allPairs bs ∧ (bAt bs q.1).nm = nm := by
  unfold ofName; rw [List.mem_filter, decide_eq_true_eq]
theorem nb_lt {bs : List Brd} {nm : Str} {b o : Nat} (h : o ∈ nbOf (near (ofName bs nm)) b) (lt : b < o) : (b, o) ∈ ofName bs nm := by
  rcases ((ofName_near bs nm).mem b o).mp h with h | h
  · exact h
  · have := (mem_allPairs.mp (mem_ofName.mp h).1).1
    simp at this; omega
theorem nb_key {bs : List Brd} {nm : Str} {b o : Nat} (h : o ∈ nbOf (near (ofName bs nm)) b) : o ∈ ascOf bs.length (keysN (near (ofName bs nm))) := by
  have N := ofName_near bs nm
  rw [mem_ascOf, N.key, mem_brds]
  rcases (N.mem b o).mp h with h | h
  · have := mem_allPairs.mp (mem_ofName.mp h).1
    exact ⟨this.2.1, _, h, .inr rfl⟩
  · have := mem_allPairs.mp (mem_ofName.mp h).1
    exact ⟨by show o < _; have := this.1; simp at this; have := (mem_allPairs.mp (mem_ofName.mp h).1).2.1; simp at this; omega, _, h, .inl rfl⟩
theorem own_some (bs : List Brd) (nm : Str) : own bs nm ≠ [] := by
  have N := ofName_near bs nm
  refine leaves_some (fun b o h => ?_) (fun b h => ?_) _ _ _ _ (ascOf_asc _ _) (fun b o h => .inl (nb_key h)) (fun b h => by cases h) (fun b h => by cases h) (fun b h => by cases h)
  · rw [N.mem] at h ⊢
    exact h.symm
  · rw [N.mem] at h
    have : (b, b) ∈ ofName bs nm := h.elim id id
    exact Nat.lt_irrefl _ (mem_allPairs.mp (mem_ofName.mp this).1).1
structure Leaf (bs : List Brd) (nm : Str) (e : List (Nat × Nat)) : Prop where
  asc : (e.map (·.1)).Pairwise (· < ·)
  mem : ∀ q ∈ e, q ∈ allPairs bs ∧ (bAt bs q.1).nm = nm
  nd : (brds e).Nodup
theorem own_leaf {bs : List Brd} {nm : Str} {e : List (Nat × Nat)} (h : e ∈ own bs nm) : Leaf bs nm e := by
  obtain ⟨e', rfl, x⟩ := leaf_ext _ _ _ _ (ascOf_asc _ _) e h
  exact ⟨x.asc, fun q hq => mem_ofName.mp (nb_lt (x.mem q hq).2.2 (x.mem q hq).2.1), x.nd⟩
theorem own_nodup (bs : List Brd) (nm : Str) : (own bs nm).Nodup := leaves_nodup (ofName_near bs nm).nd _ _ _ _ (ascOf_asc _ _)
def named (bs : List Brd) (nm : Str) : List Nat := (List.range bs.length).filter fun i => decide ((bAt bs i).nm = nm)
theorem own_len (bs : List Brd) (nm : Str) : (own bs nm).length ≤ inv (named bs nm).length := by
  refine Nat.le_trans (leaves_len (ofName_near bs nm).nd _ _ _ _ (ascOf_asc _ _) fun b _ o ho _ => nb_key ho) (inv_le ?_)
  have e : room (ascOf bs.length (keysN (near (ofName bs nm)))) [] = (ascOf bs.length (keysN (near (ofName bs nm)))).length := by unfold room; simp
  rw [e]
  refine nodup_len _ _ ((ascOf_asc _ _).imp fun h => Nat.ne_of_lt h) fun x hx => ?_
  obtain ⟨h1, h2⟩ := mem_ascOf.mp hx
  refine List.mem_filter.mpr ⟨List.mem_range.mpr h1, decide_eq_true ?_⟩
  rw [(ofName_near bs nm).key, mem_brds] at h2
  obtain ⟨q, hq, h⟩ := h2
  obtain ⟨a1, a2⟩ := mem_ofName.mp hq
  rcases h with rfl | rfl
  · exact a2
  · rw [← arePair_nm (mem_allPairs.mp a1).2.2]; exact a2
end Ug

namespace Ug
open PySem (Str Paired)

/-! ### all names together -/
theorem prods_snoc (bs : List Brd) (nms : List Str) (nm : Str) : prods bs (nms ++ [nm]) = (prods bs nms).flatMap fun one => (own bs nm).map fun other => one ++ other := by
  unfold prods; rw [List.foldl_append]; rfl
theorem brds_append (p q : List (Nat × Nat)) : brds (p ++ q) = brds p ++ brds q := by unfold brds; rw [List.flatMap_append]
/-- a pairing, its pairs perhaps not in order -/
structure Whole (bs : List Brd) (nms : List Str) (e : List (Nat × Nat)) : Prop where
  mem : ∀ q ∈ e, q ∈ allPairs bs ∧ (bAt bs q.1).nm ∈ nms
  nd : (brds e).Nodup
theorem pair_names {bs : List Brd} {q : Nat × Nat} (h : q ∈ allPairs bs) : (bAt bs q.2).nm = (bAt bs q.1).nm := (arePair_nm (mem_allPairs.mp h).2.2).symm
theorem rev_ind {α : Type} {P : List α → Prop} (h0 : P []) (hs : ∀ l a, P l → P (l ++ [a])) (l : List α) : P l := by
  have : ∀ n (l : List α), l.length = n → P l := by
    intro n
    induction n with
    | zero => intro l h; rw [List.length_eq_zero_iff.mp h]; exact h0
    | succ n ih =>
      intro l h
      have ne : l ≠ [] := fun e => by rw [e] at h; cases h
      rw [← List.dropLast_concat_getLast ne]
      refine hs _ _ (ih _ ?_)
      rw [List.length_dropLast]; omega
  exact this _ l rfl
theorem prods_whole (bs : List Brd) : ∀ (nms : List Str), nms.Nodup → ∀ e ∈ prods bs nms, Whole bs nms e := by
  refine rev_ind ?_ ?_
  · intro _ e h
    have : e = [] := by simpa [prods] using h
    subst this
    exact ⟨(fun q hq => by cases hq), List.nodup_nil⟩
  · intro nms nm ih nd e h
    obtain ⟨nd1, _, nd2⟩ := List.nodup_append.mp nd
    have nin : nm ∉ nms := fun z => nd2 nm z nm (by simp) rfl
    rw [prods_snoc] at h
    obtain ⟨one, h1, h⟩ := List.mem_flatMap.mp h
    obtain ⟨other, h2, rfl⟩ := List.mem_map.mp h
    have w := ih nd1 one h1
    have l := own_leaf h2
    refine ⟨fun q hq => ?_, ?_⟩
    · rcases List.mem_append.mp hq with hq | hq
      · exact ⟨(w.mem q hq).1, by simp [(w.mem q hq).2]⟩
      · exact ⟨(l.mem q hq).1, by simp [(l.mem q hq).2]⟩
    · rw [brds_append]
      refine List.nodup_append.mpr ⟨w.nd, l.nd, fun a ha b hb e => ?_⟩
      subst e
      obtain ⟨q, hq, e1⟩ := mem_brds.mp ha
      obtain ⟨r, hr, e2⟩ := mem_brds.mp hb
      have n1 : (bAt bs a).nm ∈ nms := by
        rcases e1 with rfl | rfl
        · exact (w.mem q hq).2
        · rw [pair_names (w.mem q hq).1]; exact (w.mem q hq).2
      have n2 : (bAt bs a).nm = nm := by
        rcases e2 with rfl | rfl
        · exact (l.mem r hr).2
        · rw [pair_names (l.mem r hr).1]; exact (l.mem r hr).2
      exact nin (n2 ▸ n1)
theorem prods_some (bs : List Brd) : ∀ (nms : List Str), prods bs nms ≠ [] := by
  refine rev_ind (by simp [prods]) fun nms nm ih => ?_
  rw [prods_snoc]
  obtain ⟨one, h1⟩ := List.exists_mem_of_ne_nil _ ih
  obtain ⟨other, h2⟩ := List.exists_mem_of_ne_nil _ (own_some bs nm)
  intro e
  have : one ++ other ∈ (prods bs nms).flatMap fun one => (own bs nm).map fun other => one ++ other := List.mem_flatMap.mpr ⟨one, h1, List.mem_map.mpr ⟨other, h2, rfl⟩⟩
  rw [e] at this; cases this
/-- the pairs of one name in it are what that name's search gave -/
theorem filter_name {bs : List Brd} {nms : List Str} {nm : Str} {one other : List (Nat × Nat)} (w : Whole bs nms one) (l : Leaf bs nm other) (nin : nm ∉ nms) :
    (one ++ other).filter (fun q => decide ((bAt bs q.1).nm = nm)) = other ∧ (one ++ other).filter (fun q => !decide ((bAt bs q.1).nm = nm)) = one := by
  rw [List.filter_append, List.filter_append]
  have a1 : one.filter (fun q => decide ((bAt bs q.1).nm = nm)) = [] := List.filter_eq_nil_iff.mpr fun q hq => by
    rw [decide_eq_true_eq]
    intro e; exact nin (e ▸ (w.mem q hq).2)
  have a2 : other.filter (fun q => decide ((bAt bs q.1).nm = nm)) = other := List.filter_eq_self.mpr fun q hq => decide_eq_true (l.mem q hq).2
  have a3 : one.filter (fun q => !decide ((bAt bs q.1).nm = nm)) = one := List.filter_eq_self.mpr fun q hq => by
    have : ¬ (bAt bs q.1).nm = nm := fun e => nin (e ▸ (w.mem q hq).2)
    simp [this]
  have a4 : other.filter (fun q => !decide ((bAt bs q.1).nm = nm)) = [] := List.filter_eq_nil_iff.mpr fun q hq => by simp [(l.mem q hq).2]
  rw [a1, a2, a3, a4]; simp
/-- pairs by their first boards, rising -/
theorem pairs_unique : ∀ {l m : List (Nat × Nat)}, (l.map (·.1)).Pairwise (· < ·) → (m.map (·.1)).Pairwise (· < ·) → l.Perm m → l = m
  | [], m, _, _, h => (List.nil_perm.mp h).symm
  | a :: l, [], _, _, h => by have := h.length_eq; cases this
  | a :: l, b :: m, hl, hm, h => by
    rw [List.map_cons] at hl hm
    obtain ⟨l1, l2⟩ := List.pairwise_cons.mp hl
    obtain ⟨m1, m2⟩ := List.pairwise_cons.mp hm
    have e : a = b := by
      rcases List.mem_cons.mp (h.mem_iff.mp List.mem_cons_self) with e | q
      · exact e
      · rcases List.mem_cons.mp (h.mem_iff.mpr List.mem_cons_self) with e | q'
        · exact e.symm
        · have := m1 a.1 (List.mem_map.mpr ⟨a, q, rfl⟩)
          have := l1 b.1 (List.mem_map.mpr ⟨b, q', rfl⟩)
          omega
    subst e
    rw [pairs_unique l2 m2 h.cons_inv]
theorem prods_perm (bs : List Brd) : ∀ (nms : List Str), nms.Nodup → ∀ x ∈ prods bs nms, ∀ y ∈ prods bs nms, x.Perm y → x = y := by
  refine rev_ind ?_ ?_
  · intro _ x hx y hy _
    have e1 : x = [] := by simpa [prods] using hx
    have e2 : y = [] := by simpa [prods] using hy
    rw [e1, e2]
  · intro nms nm ih nd x hx y hy hp
    obtain ⟨nd1, _, nd2⟩ := List.nodup_append.mp nd
    have nin : nm ∉ nms := fun z => nd2 nm z nm (by simp) rfl
    rw [prods_snoc] at hx hy
    obtain ⟨o1, h1, hx⟩ := List.mem_flatMap.mp hx
    obtain ⟨e1, g1, rfl⟩ := List.mem_map.mp hx
    obtain ⟨o2, h2, hy⟩ := List.mem_flatMap.mp hy
    obtain ⟨e2, g2, rfl⟩ := List.mem_map.mp hy
    obtain ⟨a1, a2⟩ := filter_name (prods_whole bs nms nd1 o1 h1) (own_leaf g1) nin
    obtain ⟨b1, b2⟩ := filter_name (prods_whole bs nms nd1 o2 h2) (own_leaf g2) nin
    have p1 := hp.filter fun q => decide ((bAt bs q.1).nm = nm)
    have p2 := hp.filter fun q => !decide ((bAt bs q.1).nm = nm)
    rw [a1, b1] at p1
    rw [a2, b2] at p2
    rw [ih nd1 o1 h1 o2 h2 p2, pairs_unique (own_leaf g1).asc (own_leaf g2).asc p1]
theorem prods_nodup (bs : List Brd) : ∀ (nms : List Str), nms.Nodup → (prods bs nms).Nodup := by
  refine rev_ind (fun _ => by simp [prods]) fun nms nm ih nd => ?_
  obtain ⟨nd1, _, nd2⟩ := List.nodup_append.mp nd
  have nin : nm ∉ nms := fun z => nd2 nm z nm (by simp) rfl
  rw [prods_snoc]
  refine nodup_flatMap (ih nd1) (fun one _ => ?_) fun o1 h1 o2 h2 ne z hz hz' => ?_
  · exact List.Pairwise.map (fun o => one ++ o) (fun a b h e => h (List.append_cancel_left e)) (own_nodup bs nm)
  · obtain ⟨e1, g1, rfl⟩ := List.mem_map.mp hz
    obtain ⟨e2, g2, e⟩ := List.mem_map.mp hz'
    obtain ⟨_, a2⟩ := filter_name (prods_whole bs nms nd1 o1 h1) (own_leaf g1) nin
    obtain ⟨_, b2⟩ := filter_name (prods_whole bs nms nd1 o2 h2) (own_leaf g2) nin
    exact ne (by rw [← a2, ← b2, e])

/-! ### how many: at most 764 of eight boards -/
theorem inv_mul : ∀ a, a ≤ 8 → ∀ b, b ≤ 8 → a + b ≤ 8 → inv a * inv b ≤ inv (a + b) := by decide
def namedIn (bs : List Brd) (nms : List Str) : List Nat := (List.range bs.length).filter fun i => decide ((bAt bs i).nm ∈ nms)
theorem namedIn_snoc (bs : List Brd) {nms : List Str} {nm : Str} (h : nm ∉ nms) : (namedIn bs (nms ++ [nm])).length = (namedIn bs nms).length + (named bs nm).length := by
  unfold namedIn named
  rw [← List.countP_eq_length_filter, ← List.countP_eq_length_filter, ← List.countP_eq_length_filter]
  induction List.range bs.length with
  | nil => rfl
  | cons i l ih =>
    rw [List.countP_cons, List.countP_cons, List.countP_cons, ih]
    by_cases e : (bAt bs i).nm = nm
    · have : (bAt bs i).nm ∉ nms := fun z => h (e ▸ z)
      simp [e]; rw [e] at this; simp [this]; omega
    · by_cases e2 : (bAt bs i).nm ∈ nms <;> simp [e, e2] <;> omega
theorem namedIn_le (bs : List Brd) (nms : List Str) : (namedIn bs nms).length ≤ bs.length := by
  unfold namedIn
  have := List.length_filter_le (fun i => decide ((bAt bs i).nm ∈ nms)) (List.range bs.length)
  simpa using this
theorem prods_len_snoc (bs : List Brd) (nms : List Str) (nm : Str) : (prods bs (nms ++ [nm])).length = (prods bs nms).length * (own bs nm).length := by
  rw [prods_snoc]
  induction prods bs nms with
  | nil => simp
  | cons o l ih => rw [List.flatMap_cons, List.length_append, ih, List.length_map, List.length_cons, Nat.succ_mul]; omega
theorem prods_len (bs : List Brd) (h8 : bs.length ≤ 8) : ∀ (nms : List Str), nms.Nodup → (prods bs nms).length ≤ inv (namedIn bs nms).length := by
  refine rev_ind (fun _ => ?_) fun nms nm ih nd => ?_
  · have : (prods bs []).length = 1 := by simp [prods]
    rw [this]; exact inv_pos _
  · obtain ⟨nd1, _, nd2⟩ := List.nodup_append.mp nd
    have nin : nm ∉ nms := fun z => nd2 nm z nm (by simp) rfl
    have e := namedIn_snoc bs nin
    have le := namedIn_le bs (nms ++ [nm])
    rw [prods_len_snoc, e]
    refine Nat.le_trans (Nat.mul_le_mul (ih nd1) (own_len bs nm)) (inv_mul _ (by omega) _ (by omega) (by omega))
theorem inv8 : inv 8 = 764 := by decide
theorem prods_764 (bs : List Brd) (h8 : bs.length ≤ 8) {nms : List Str} (nd : nms.Nodup) : (prods bs nms).length ≤ 764 := by
  rw [← inv8]
  exact Nat.le_trans (prods_len bs h8 nms nd) (inv_le (Nat.le_trans (namedIn_le _ _) h8))
/-- a prefix of the names -/
theorem own_764 (bs : List Brd) (h8 : bs.length ≤ 8) (nm : Str) : (own bs nm).length ≤ 764 := by
  rw [← inv8]
  refine Nat.le_trans (own_len bs nm) (inv_le ?_)
  have := List.length_filter_le (fun i => decide ((bAt bs i).nm = nm)) (List.range bs.length)
  unfold named
  simp at this
  omega

/-! ### a pairing in order -/
structure Pg (bs : List Brd) (p : List (Nat × Nat)) : Prop where
  asc : (p.map (·.1)).Pairwise (· < ·)
  mem : ∀ q ∈ p, q ∈ allPairs bs
  nd : (brds p).Nodup
theorem brds_perm {p q : List (Nat × Nat)} (h : p.Perm q) : (brds p).Perm (brds q) := h.flatMap_right _
/-- pairs in Python's order, no board in two of them: the first boards rise -/
theorem asc_of_sorted : ∀ {p : List (Nat × Nat)}, (brds p).Nodup → p.Pairwise (fun a b => a.1 ≤ b.1) → (p.map (·.1)).Pairwise (· < ·)
  | [], _, _ => List.Pairwise.nil
  | a :: p, n, h => by
    obtain ⟨h1, h2⟩ := List.pairwise_cons.mp h
    have n' : (a.1 :: a.2 :: brds p).Nodup := n
    obtain ⟨n1, n2⟩ := List.nodup_cons.mp n'
    rw [List.map_cons]
    refine List.pairwise_cons.mpr ⟨fun k hk => ?_, asc_of_sorted (List.nodup_cons.mp n2).2 h2⟩
    obtain ⟨q, hq, rfl⟩ := List.mem_map.mp hk
    have l := h1 q hq
    have : q.1 ≠ a.1 := fun e => n1 (e ▸ List.mem_cons_of_mem _ (mem_brds.mpr ⟨q, hq, .inl rfl⟩))
    omega
theorem Whole.pg {bs : List Brd} {nms : List Str} {e p : List (Nat × Nat)} (w : Whole bs nms e) (h : p.Perm e) (s : p.Pairwise (fun a b => a.1 ≤ b.1)) : Pg bs p := by
  have nd : (brds p).Nodup := (brds_perm h).nodup_iff.mpr w.nd
  exact ⟨asc_of_sorted nd s, fun q hq => (w.mem q (h.mem_iff.mp hq)).1, nd⟩
/-- the list of all pairings, in some order, each in order -/
def Greatest (bs : List Brd) (nms : List Str) (L : List (List (Nat × Nat))) : Prop := ∃ M, L.Perm M ∧ Paired (fun p e => p.Perm e ∧ p.Pairwise (fun a b => a.1 ≤ b.1)) M (prods bs nms)
theorem forall2_left {α β : Type} {R : α → β → Prop} : ∀ {l : List α} {m : List β}, Paired R l m → ∀ a ∈ l, ∃ b ∈ m, R a b
  | _, _, .nil, a, h => by cases h
  | _, _, .cons r t, a, h => by
    rcases List.mem_cons.mp h with rfl | h
    · exact ⟨_, List.mem_cons_self, r⟩
    · obtain ⟨b, hb, q⟩ := forall2_left t a h
      exact ⟨b, List.mem_cons_of_mem _ hb, q⟩
theorem Greatest.pg {bs : List Brd} {nms : List Str} {L : List (List (Nat × Nat))} (nd : nms.Nodup) (g : Greatest bs nms L) : ∀ p ∈ L, Pg bs p := fun p hp => by
  obtain ⟨M, h1, h2⟩ := g
  obtain ⟨e, he, r1, r2⟩ := forall2_left h2 p (h1.mem_iff.mp hp)
  exact (prods_whole bs nms nd e he).pg r1 r2
theorem Greatest.len {bs : List Brd} {nms : List Str} {L : List (List (Nat × Nat))} (g : Greatest bs nms L) : L.length = (prods bs nms).length := by
  obtain ⟨M, h1, h2⟩ := g
  rw [h1.length_eq]; exact h2.length
theorem Greatest.some {bs : List Brd} {nms : List Str} {L : List (List (Nat × Nat))} (g : Greatest bs nms L) : L ≠ [] := fun e => by
  have := g.len
  rw [e] at this
  exact prods_some bs nms (List.length_eq_zero_iff.mp this.symm)
theorem forall2_same {bs : List Brd} {nms : List Str} (nd : nms.Nodup) : ∀ {E M N : List (List (Nat × Nat))}, (∀ e ∈ E, e ∈ prods bs nms) → Paired (fun p e => p.Perm e ∧ p.Pairwise (fun a b => a.1 ≤ b.1)) M E → Paired (fun p e => p.Perm e ∧ p.Pairwise (fun a b => a.1 ≤ b.1)) N E → M = N
  | [], [], [], _, .nil, .nil => rfl
  | e :: _, p :: _, q :: _, s, .cons r t, .cons r' t' => by
    have w := prods_whole bs nms nd e (s e List.mem_cons_self)
    rw [forall2_same nd (fun x hx => s x (List.mem_cons_of_mem _ hx)) t t', pairs_unique (w.pg r.1 r.2).asc (w.pg r'.1 r'.2).asc (r.1.trans r'.1.symm)]
/-- asked again: the same pairings -/
theorem Greatest.perm {bs : List Brd} {nms : List Str} {L L' : List (List (Nat × Nat))} (nd : nms.Nodup) (g : Greatest bs nms L) (g' : Greatest bs nms L') : L.Perm L' := by
  obtain ⟨M, h1, h2⟩ := g
  obtain ⟨M', h1', h2'⟩ := g'
  rw [forall2_same nd (fun _ h => h) h2 h2'] at h1
  exact h1.trans h1'.symm
theorem nodup_of_forall2 {bs : List Brd} {nms : List Str} : ∀ {M E : List (List (Nat × Nat))}, E.Nodup → (∀ x ∈ E, ∀ y ∈ E, x.Perm y → x = y) → Paired (fun p e => p.Perm e ∧ p.Pairwise (fun a b => a.1 ≤ b.1)) M E → M.Nodup
  | [], [], _, _, .nil => List.nodup_nil
  | p :: _, e :: _, n, u, .cons r t => by
    obtain ⟨n1, n2⟩ := List.nodup_cons.mp n
    refine List.nodup_cons.mpr ⟨fun z => ?_, nodup_of_forall2 (bs := bs) (nms := nms) n2 (fun x hx y hy => u x (List.mem_cons_of_mem _ hx) y (List.mem_cons_of_mem _ hy)) t⟩
    obtain ⟨e', he', r1, _⟩ := forall2_left t p z
    have := u e List.mem_cons_self e' (List.mem_cons_of_mem _ he') (r.1.symm.trans r1)
    exact n1 (this ▸ he')
theorem Greatest.nodup {bs : List Brd} {nms : List Str} {L : List (List (Nat × Nat))} (nd : nms.Nodup) (g : Greatest bs nms L) : L.Nodup := by
  obtain ⟨M, h1, h2⟩ := g
  exact h1.nodup_iff.mpr (nodup_of_forall2 (bs := bs) (nms := nms) (prods_nodup bs nms nd) (prods_perm bs nms nd) h2)
end Ug

namespace Ug
open PySem (Str Paired)

/-! ### one master at each side -/
def sideSum (bs : List Brd) (pts : List Nat) (nm : Str) (sd : Nat) : Nat := ((List.range bs.length).map fun k => if (bAt bs k).nm = nm ∧ (bAt bs k).sd = sd then pts.getD k 0 else 0).sum
def metOf (bs : List Brd) (pts : List Nat) (nms : List Str) : Nat := (nms.map fun nm => min (sideSum bs pts nm 0) (sideSum bs pts nm 1)).sum
def sits (bs : List Brd) (nm : Str) (sd : Nat) : Bool := bs.any fun b => decide (b.nm = nm ∧ b.sd = sd)
def two (bs : List Brd) (nms : List Str) : List Str := nms.filter fun nm => sits bs nm 0 && sits bs nm 1
def choices (nms : List Str) : List (List (Str × Nat)) := nms.foldl (fun found nm => found.flatMap fun one => [one ++ [(nm, 0)], one ++ [(nm, 1)]]) [[]]
def picked (c : List (Str × Nat)) (b : Brd) : Bool := c.any fun q => decide (q.1 = b.nm ∧ q.2 = b.sd)
def ChosenMask (bs : List Brd) (c : List (Str × Nat)) (m : Nat) : Prop := ∀ k, m.testBit k = true ↔ k < bs.length ∧ picked c (bAt bs k) = true

theorem bAt_mem {bs : List Brd} {k : Nat} (h : k < bs.length) : bAt bs k ∈ bs := by
  unfold bAt
  rw [List.getD_eq_getElem?_getD, List.getElem?_eq_getElem h]
  exact List.getElem_mem h
theorem sum_zero {α : Type} (f : α → Nat) : ∀ l : List α, (∀ x ∈ l, f x = 0) → (l.map f).sum = 0
  | [], _ => rfl
  | x :: l, h => by rw [List.map_cons, List.sum_cons, h x List.mem_cons_self, sum_zero f l fun y hy => h y (List.mem_cons_of_mem _ hy)]
theorem sideSum_none {bs : List Brd} {pts : List Nat} {nm : Str} {sd : Nat} (h : sits bs nm sd = false) : sideSum bs pts nm sd = 0 := by
  unfold sideSum
  refine sum_zero _ _ fun k hk => ?_
  have hk := List.mem_range.mp hk
  rw [if_neg]
  intro e
  unfold sits at h
  rw [List.any_eq_false] at h
  exact h _ (bAt_mem hk) (decide_eq_true e)
theorem metOf_two (bs : List Brd) (pts : List Nat) : ∀ nms : List Str, metOf bs pts (two bs nms) = metOf bs pts nms
  | [] => rfl
  | nm :: nms => by
    have ih := metOf_two bs pts nms
    unfold metOf two at ih ⊢
    rw [List.filter_cons]
    split
    · rw [List.map_cons, List.sum_cons, List.map_cons, List.sum_cons, ih]
    · rename_i h
      rw [List.map_cons, List.sum_cons, ih]
      have : min (sideSum bs pts nm 0) (sideSum bs pts nm 1) = 0 := by
        by_cases h0 : sits bs nm 0 = true
        · have h1 : sits bs nm 1 = false := by
            cases e : sits bs nm 1 with
            | false => rfl
            | true => rw [h0, e] at h; exact absurd rfl h
          rw [sideSum_none h1]; omega
        · rw [sideSum_none (by simpa using h0)]; omega
      omega
theorem sum_perm {l m : List Nat} (h : l.Perm m) : l.sum = m.sum := by
  induction h with
  | nil => rfl
  | cons x _ ih => rw [List.sum_cons, List.sum_cons, ih]
  | swap x y l => rw [List.sum_cons, List.sum_cons, List.sum_cons, List.sum_cons]; omega
  | trans _ _ a b => exact a.trans b
theorem metOf_perm {bs : List Brd} {pts : List Nat} {n m : List Str} (h : n.Perm m) : metOf bs pts n = metOf bs pts m := sum_perm (h.map _)
theorem mem_choices : ∀ (nms : List Str) (c : List (Str × Nat)), c ∈ choices nms ↔ c.map (·.1) = nms ∧ ∀ q ∈ c, q.2 = 0 ∨ q.2 = 1 := by
  refine rev_ind ?_ ?_
  · intro c
    constructor
    · intro h
      have : c = [] := by simpa [choices] using h
      subst this
      exact ⟨rfl, fun q hq => by cases hq⟩
    · rintro ⟨h, _⟩
      have : c = [] := List.map_eq_nil_iff.mp h
      subst this
      exact List.mem_singleton.mpr rfl
  · intro nms nm ih c
    have e : choices (nms ++ [nm]) = (choices nms).flatMap fun one => [one ++ [(nm, 0)], one ++ [(nm, 1)]] := by
      unfold choices; rw [List.foldl_append]; rfl
    rw [e, List.mem_flatMap]
    constructor
    · rintro ⟨one, h1, h⟩
      obtain ⟨a1, a2⟩ := (ih one).mp h1
      rcases List.mem_cons.mp h with rfl | h
      · exact ⟨by simp [a1], fun q hq => by
          rcases List.mem_append.mp hq with hq | hq
          · exact a2 q hq
          · rw [List.mem_singleton.mp hq]; exact .inl rfl⟩
      · rw [List.mem_singleton.mp h]
        exact ⟨by simp [a1], fun q hq => by
          rcases List.mem_append.mp hq with hq | hq
          · exact a2 q hq
          · rw [List.mem_singleton.mp hq]; exact .inr rfl⟩
    · rintro ⟨h1, h2⟩
      have ne : c ≠ [] := fun z => by rw [z] at h1; simp at h1
      rw [← List.dropLast_concat_getLast ne] at h1 h2 ⊢
      rw [List.map_append] at h1
      obtain ⟨b1, b2⟩ := List.append_inj' h1 rfl
      refine ⟨c.dropLast, (ih _).mpr ⟨b1, fun q hq => h2 q (List.mem_append.mpr (.inl hq))⟩, ?_⟩
      have b3 : (c.getLast ne).1 = nm := by simpa using b2
      rcases h2 (c.getLast ne) (by simp) with z | z
      · have : c.getLast ne = (nm, 0) := Prod.ext b3 z
        rw [this]; simp
      · have : c.getLast ne = (nm, 1) := Prod.ext b3 z
        rw [this]; simp
theorem sum_if {α : Type} (p : α → Bool) (f : α → Nat) : ∀ l : List α, ((l.filter p).map f).sum = (l.map fun x => if p x = true then f x else 0).sum
  | [] => rfl
  | x :: l => by
    rw [List.filter_cons, List.map_cons, List.sum_cons, ← sum_if p f l]
    by_cases h : p x = true
    · rw [if_pos h, if_pos h, List.map_cons, List.sum_cons]
    · rw [if_neg h, if_neg h]; omega
theorem sum_add {α : Type} (f g : α → Nat) : ∀ l : List α, (l.map fun x => f x + g x).sum = (l.map f).sum + (l.map g).sum
  | [] => rfl
  | x :: l => by rw [List.map_cons, List.sum_cons, List.map_cons, List.sum_cons, List.map_cons, List.sum_cons, sum_add f g l]; omega
theorem sum_congr {α : Type} {f g : α → Nat} : ∀ {l : List α}, (∀ x ∈ l, f x = g x) → (l.map f).sum = (l.map g).sum
  | [], _ => rfl
  | x :: l, h => by rw [List.map_cons, List.sum_cons, List.map_cons, List.sum_cons, h x List.mem_cons_self, sum_congr fun y hy => h y (List.mem_cons_of_mem _ hy)]
theorem picked_nm {c : List (Str × Nat)} {b : Brd} (h : picked c b = true) : b.nm ∈ c.map (·.1) := by
  unfold picked at h
  obtain ⟨q, hq, e⟩ := List.any_eq_true.mp h
  exact List.mem_map.mpr ⟨q, hq, (of_decide_eq_true e).1⟩
theorem sum_picked (bs : List Brd) (pts : List Nat) : ∀ c : List (Str × Nat), (c.map (·.1)).Nodup →
    ((List.range bs.length).map fun k => if picked c (bAt bs k) = true then pts.getD k 0 else 0).sum = (c.map fun q => sideSum bs pts q.1 q.2).sum
  | [], _ => sum_zero _ _ fun k _ => by simp [picked]
  | q :: c, h => by
    rw [List.map_cons] at h
    obtain ⟨h1, h2⟩ := List.nodup_cons.mp h
    rw [List.map_cons, List.sum_cons, ← sum_picked bs pts c h2]
    unfold sideSum
    rw [← sum_add]
    refine sum_congr fun k _ => ?_
    by_cases e : (bAt bs k).nm = q.1 ∧ (bAt bs k).sd = q.2
    · have n : ¬ picked c (bAt bs k) = true := fun z => h1 (e.1 ▸ picked_nm z)
      rw [if_pos e, if_neg n, if_pos (by unfold picked; rw [List.any_cons]; simp [e.1, e.2])]; omega
    · rw [if_neg e]
      have : picked (q :: c) (bAt bs k) = picked c (bAt bs k) := by
        unfold picked
        rw [List.any_cons]
        have : decide (q.1 = (bAt bs k).nm ∧ q.2 = (bAt bs k).sd) = false := decide_eq_false fun z => e ⟨z.1.symm, z.2.symm⟩
        rw [this, Bool.false_or]
      rw [this]; omega
theorem cntOf_chosen {bs : List Brd} {pts cnt : List Nat} {c : List (Str × Nat)} {m : Nat} (hc : ∀ k, cnt.count k = pts.getD k 0) (nd : (c.map (·.1)).Nodup) (hm : ChosenMask bs c m) : cntOf cnt m = (c.map fun q => sideSum bs pts q.1 q.2).sum := by
  have hs : ((List.range bs.length).filter fun k => picked c (bAt bs k)).Nodup := List.Pairwise.filter _ List.nodup_range
  have e : cntOf cnt m = cnt.countP fun b => decide (b ∈ (List.range bs.length).filter fun k => picked c (bAt bs k)) := by
    unfold cntOf
    congr 1
    funext b
    have := hm b
    rw [Bool.eq_iff_iff, this, decide_eq_true_eq, List.mem_filter, List.mem_range]
  rw [e, countP_sel cnt hs, sum_if, ← sum_picked bs pts c nd]
  exact sum_congr fun k _ => by rw [hc]
theorem choice_ge {bs : List Brd} {pts : List Nat} : ∀ {nms : List Str} {c : List (Str × Nat)}, c.map (·.1) = nms → (∀ q ∈ c, q.2 = 0 ∨ q.2 = 1) → metOf bs pts nms ≤ (c.map fun q => sideSum bs pts q.1 q.2).sum
  | _, [], rfl, _ => Nat.le_refl _
  | _, q :: c, rfl, h => by
    have ih := choice_ge (bs := bs) (pts := pts) (c := c) rfl fun x hx => h x (List.mem_cons_of_mem _ hx)
    unfold metOf at ih ⊢
    rw [List.map_cons, List.map_cons, List.sum_cons, List.map_cons, List.sum_cons]
    rcases h q List.mem_cons_self with e | e <;> rw [e] <;> omega
theorem choice_eq (bs : List Brd) (pts : List Nat) : ∀ nms : List Str, ∃ c : List (Str × Nat), c.map (·.1) = nms ∧ (∀ q ∈ c, q.2 = 0 ∨ q.2 = 1) ∧ (c.map fun q => sideSum bs pts q.1 q.2).sum = metOf bs pts nms
  | [] => ⟨[], rfl, (fun q hq => by cases hq), rfl⟩
  | nm :: nms => by
    obtain ⟨c, h1, h2, h3⟩ := choice_eq bs pts nms
    unfold metOf at h3 ⊢
    by_cases e : sideSum bs pts nm 0 ≤ sideSum bs pts nm 1
    · refine ⟨(nm, 0) :: c, by rw [List.map_cons, h1], fun q hq => ?_, ?_⟩
      · rcases List.mem_cons.mp hq with rfl | hq
        · exact .inl rfl
        · exact h2 q hq
      · rw [List.map_cons, List.sum_cons, List.map_cons, List.sum_cons, h3]; dsimp only; omega
    · refine ⟨(nm, 1) :: c, by rw [List.map_cons, h1], fun q hq => ?_, ?_⟩
      · rcases List.mem_cons.mp hq with rfl | hq
        · exact .inr rfl
        · exact h2 q hq
      · rw [List.map_cons, List.sum_cons, List.map_cons, List.sum_cons, h3]; dsimp only; omega
theorem sel_picked {bs : List Brd} {nms : List Str} {c : List (Str × Nat)} (hsd : ∀ b ∈ bs, b.sd = 0 ∨ b.sd = 1) (hn : ∀ b ∈ bs, b.nm ∈ nms) (hc : c.map (·.1) = two bs nms) (h01 : ∀ q ∈ c, q.2 = 0 ∨ q.2 = 1) :
    ∀ p : List (Nat × Nat), (∀ q ∈ p, q ∈ allPairs bs) → ∃ s, SelC p s ∧ ∀ k ∈ s, k < bs.length ∧ picked c (bAt bs k) = true
  | [], _ => ⟨[], rfl, fun k hk => by cases hk⟩
  | q :: p, h => by
    obtain ⟨s, hs, hk⟩ := sel_picked hsd hn hc h01 p fun x hx => h x (List.mem_cons_of_mem _ hx)
    obtain ⟨lt, l2, ap⟩ := mem_allPairs.mp (h q List.mem_cons_self)
    have m1 := bAt_mem (bs := bs) (k := q.1) (by omega)
    have m2 := bAt_mem (bs := bs) l2
    have e := arePair_nm ap
    have ne := arePair_sd ap
    have s1 := hsd _ m1
    have s2 := hsd _ m2
    have st : ∀ b ∈ bs, sits bs b.nm b.sd = true := fun b hb => List.any_eq_true.mpr ⟨b, hb, decide_eq_true ⟨rfl, rfl⟩⟩
    have t1 := st _ m1
    have t2 := st _ m2
    rw [← e] at t2
    have tw : (bAt bs q.1).nm ∈ two bs nms := by
      refine List.mem_filter.mpr ⟨hn _ m1, ?_⟩
      rcases s1 with z1 | z1 <;> rcases s2 with z2 | z2
      · omega
      · rw [z1] at t1; rw [z2] at t2; rw [t1, t2]; rfl
      · rw [z1] at t1; rw [z2] at t2; rw [t1, t2]; rfl
      · omega
    rw [← hc] at tw
    obtain ⟨x, hx, ex⟩ := List.mem_map.mp tw
    have hp : x.2 = (bAt bs q.1).sd ∨ x.2 = (bAt bs q.2).sd := by
      rcases h01 x hx with z | z <;> rcases s1 with z1 | z1 <;> rcases s2 with z2 | z2 <;> omega
    rcases hp with z | z
    · refine ⟨q.1 :: s, ⟨q.1, s, rfl, .inl rfl, hs⟩, fun k hk' => ?_⟩
      rcases List.mem_cons.mp hk' with rfl | hk'
      · exact ⟨by omega, List.any_eq_true.mpr ⟨x, hx, decide_eq_true ⟨ex, z⟩⟩⟩
      · exact hk k hk'
    · refine ⟨q.2 :: s, ⟨q.2, s, rfl, .inr rfl, hs⟩, fun k hk' => ?_⟩
      rcases List.mem_cons.mp hk' with rfl | hk'
      · exact ⟨l2, List.any_eq_true.mpr ⟨x, hx, decide_eq_true ⟨ex.trans e, z⟩⟩⟩
      · exact hk k hk'
theorem sum_le_chosen {bs : List Brd} {nms : List Str} {c : List (Str × Nat)} {cnt : List Nat} {m : Nat} {p : List (Nat × Nat)} (hsd : ∀ b ∈ bs, b.sd = 0 ∨ b.sd = 1) (hn : ∀ b ∈ bs, b.nm ∈ nms) (hc : c.map (·.1) = two bs nms) (h01 : ∀ q ∈ c, q.2 = 0 ∨ q.2 = 1)
    (hm : ChosenMask bs c m) (hp : Pg bs p) : sumMin (fun k => cnt.count k) p ≤ cntOf cnt m := by
  obtain ⟨s, hs, hk⟩ := sel_picked hsd hn hc h01 p hp.mem
  refine Nat.le_trans hs.min_le ?_
  rw [← cntOf_sel (hs.nodup hp.nd)]
  refine cntOf_mono fun b hb => (hm b).mpr (hk b ?_)
  rw [testBit_bitsOr] at hb
  simpa using hb
end Ug

/-! rules of our own: enumerate of a tuple, >= of tuples of ints, count of truth values, an item of a list by its place in an operator's store -/
namespace Ug
open PySem PySem.Spec PyProof.Rows L2

/-! ### enumerate(tuple) -/
/-- what it gives: the items of the tuple at a, each beside its place in a pair of its own -/
def IteT (K : PySem.W.Frag) (a : Addr) : It where
  go := fun i H => ∃ (xs : List V) (x : V), SqT K H a xs ∧ xs[i]? = some x
  yld := fun i H v H' => ∃ T x, v = .ref T ∧ H T = none ∧ H' = upd H T (.tup [.int (i : Nat), x]) ∧ ∀ xs, SqT K H a xs → xs[i]? = some x
  stop := fun i H => ∃ xs : List V, SqT K H a xs ∧ xs.length = i
def EnT (a e it : Addr) (i : Nat) (h : Heap) : Prop := (∃ old, IsEnum h e it ((i : Nat) : Int) old) ∧ h.IsTupleIter it a i ∧ e ≠ it
theorem EnT.there {a e it : Addr} {i : Nat} {h : Heap} (t : EnT a e it i h) : ∀ b ∈ [e, it], ∃ o, h.get? b = some o ∧ ∀ v, o.data ≠ .cell v := fun b hb => by
  obtain ⟨⟨old, he⟩, ⟨o, ho, _, hd⟩, _⟩ := t
  rcases List.mem_cons.mp hb with r | r
  · subst r; exact ⟨_, he, fun v q => nomatch q⟩
  · rw [List.mem_singleton.mp r]; exact ⟨o, ho, fun v q => by rw [hd] at q; cases q⟩
theorem turn_enumT {P : Program} {w : World} {K : PySem.W.Frag} {elts : List Expr} {kk : Nat} {tpos : Pos} (a e it : Addr) : Turn P w K (.Tuple elts kk tpos) (IteT K a) [e, it] e (EnT a e it) where
  mem := List.mem_cons_self
  obj := fun i h st => st.there
  keep := fun i h h' ⟨⟨old, he⟩, hi, ne⟩ k => ⟨⟨old, k e List.mem_cons_self _ he⟩, hi.at fun o q => k it (by simp) o q, ne⟩
  self := fun A i s Q E ⟨⟨_, he⟩, _⟩ h => wpAny_pyIter_enum he h
  item := by
    intro X hP hw hK hc i pins s σ H E I hf st hg
    subst hP hw hK
    have low := st.there
    obtain ⟨⟨old, he⟩, hit, hne⟩ := st
    obtain ⟨xs, x, hq, hx⟩ := hg
    obtain ⟨its, rv, p, hz⟩ := I.tuple hq
    obtain ⟨u, hu, ru⟩ := rv.get hx
    obtain ⟨ou, hou, _⟩ := id hit
    have hil : it < s.heap.objs.size := Heap.lt_size hou
    have hel : e < s.heap.objs.size := Heap.lt_size he
    have hai : a ≠ it := fun z => by
      have ha : s.heap.get? it = _ := hou
      obtain ⟨ot, hot, hct, _⟩ := id p
      rw [z, hou] at hot
      cases hot
      have hcu := hit.typeIs
      obtain ⟨o2, h2, h3⟩ := hcu
      rw [hou] at h2
      cases h2
      rw [hct] at h3
      exact absurd h3 (by decide)
    have D := Draws.tuple (prog := X.prog) (w := X.w) (A := X.A.in1) (I.ok.hd hc) it a hai its.toArray
    have hea : e ≠ a := fun z => by
      obtain ⟨ot, hot, hct, _⟩ := id p
      rw [← z, he] at hot
      cases hot
      injection hct with e1
      exact absurd e1 (by decide)
    have il : i < its.length := by
      rcases Nat.lt_or_ge i its.length with q | q
      · exact q
      · rw [List.getElem?_eq_none q] at hu; cases hu
    refine wpAny_pyNext_enum_itemC D he ⟨hit, p⟩ (by simpa using il) hne (by simp [hne, hea]) fun y h' tk hy ho hst hT hsz hk => ?_
    obtain rfl : y = u := by
      have e1 : its.toArray[i]? = some u := by simpa using hu
      rw [e1] at hy
      exact (Option.some.inj hy).symm
    refine ⟨_, rfl, wpAny_letOwnedTupleGo_enum (s := { s with heap := h', toks := tk + 1 }) ho fun h'' he' sb => ?_⟩
    have hT2 : h''.get? s.heap.objs.size = some { cls := .type "tuple", data := .seq #[.int i tk, y] } := (sb.2 _ (Nat.ne_of_gt hel)).trans hT
    have new : ObjOk X.prog X.w (upd H s.heap.objs.size (.tup [.int (i : Nat), x])) h'' s.heap.objs.size (.tup [.int (i : Nat), x]) :=
      ⟨(by show 2 ≤ sizeLine; decide), [.int i tk, y], .cons ⟨_, rfl⟩ (.cons ru .nil), ⟨_, hT2, rfl, _, rfl⟩⟩
    have I1 : Inv X pins σ (upd H s.heap.objs.size (.tup [.int (i : Nat), x])) { s with heap := h'', toks := tk + 1 } :=
      I.turnedNew (t' := tk + 1) (ch := [e, it]) (fun b ob hb q => by
        have b1 : b ≠ e := fun z => hb (by simp [z])
        have b2 : b ≠ it := fun z => hb (by simp [z])
        exact (sb.2 b b1).trans (hk b ob b1 b2 q)) hf (Nat.le_refl _) new
    refine ⟨.ref s.heap.objs.size, _, I1, rfl, ⟨_, x, rfl, I.hok.fresh (Nat.le_refl _), rfl, fun ys hy => by rw [I.tuple_inj hy hq]; exact hx⟩, ⟨⟨y, ?_⟩, hst.1.at fun o q => (sb.2 it (Ne.symm hne)).trans q, hne⟩, fun b hb => ?_⟩
    · have e1 : ((i + 1 : Nat) : Int) = (i : Int) + 1 := by omega
      rw [e1]; exact he'
    · obtain ⟨o, ho, _⟩ := low b hb
      rw [upd_ne (Nat.ne_of_lt (Heap.lt_size ho))]
      exact (hf b hb).1
  done := by
    intro X hP hw hK hc i pins s σ H E I hf st hg
    subst hP hw hK
    obtain ⟨⟨old, he⟩, hit, hne⟩ := st
    obtain ⟨xs, hq, hx⟩ := hg
    obtain ⟨its, rv, p, hz⟩ := I.tuple hq
    have hai : a ≠ it := fun z => by
      obtain ⟨ot, hot, hct, _⟩ := id p
      obtain ⟨o2, h2, h3⟩ := hit.typeIs
      rw [z, h2] at hot
      cases hot
      rw [hct] at h3
      exact absurd h3 (by decide)
    have D := Draws.tuple (prog := X.prog) (w := X.w) (A := X.A.in1) (I.ok.hd hc) it a hai its.toArray
    have en : i = its.toArray.size := by rw [List.size_toArray, ← rv.length, hx]
    obtain ⟨f0, f1, f2, f3, f4, f5⟩ := hf it (by simp)
    refine wpAny_pyNext_enum_endD D he (n := its.toArray.size) ⟨en ▸ hit, p⟩ fun h' eb => ⟨rfl, I.turned (t' := s.toks) (fun b o hb q => eb b o hb q) f0 f1 f3 f4 f5⟩
theorem meets_enumT {t : Addr} {items : Array Value} :
    Meets (Builtin.«enumerate.__new__» ⟨[.type "enumerate", .ref t], []⟩) (fun _ R s => s.heap.IsTuple t items ∧
      R (.ok (.ret (.ref (s.heap.push { cls := .type "tuple_iterator", data := .fields #[.ref t, .int 0 0] }).objs.size)))
        { s with heap := (s.heap.push { cls := .type "tuple_iterator", data := .fields #[.ref t, .int 0 0] }).push { cls := .type "enumerate", data := .fields #[.none, .bool false, .ref s.heap.objs.size, rawInt 0, .none, .none] } }) := by
  refine .of_wp fun prog w A R s hs => ?_
  obtain ⟨hp, g, d, tk, os⟩ := s
  obtain ⟨ht, h⟩ := hs
  have hsub := sub_enumerate
  have it0 : ∀ {B : Around} {E Q : Value → Shared → Prop}, Q (.ref hp.objs.size) ⟨hp.push { cls := .type "tuple_iterator", data := .fields #[.ref t, .int 0 0] }, g, d, tk, os⟩ → wpAny (model prog w) B (pyIter (.ref t)) Q E ⟨hp, g, d, tk, os⟩ := fun q => wpAny_pyIter_tuple ht q
  wp_walk using it0
  refine wpAny_stack_any fun fr => wpAny_pure ?_
  split
  · rename_i cc _ _ _ _ _
    cases cc == Value.type "enumerate" <;> (wp_walk using it0) <;> exact ⟨_, rfl, h⟩
  · wp_walk using it0
    exact ⟨_, rfl, h⟩
theorem call_enumT {prog : Program} {w : World} {A : Around} {E : Value → Shared → Prop} {s : Shared} {t : Addr} {items : Array Value} {Q : Value → Shared → Prop} (ht : s.heap.IsTuple t items)
    (h : ∀ h', IsEnum h' (s.heap.objs.size + 1) s.heap.objs.size 0 .none → h'.IsTupleIter s.heap.objs.size t 0 → (∀ b o, s.heap.get? b = some o → h'.get? b = some o) → Q (.ref (s.heap.objs.size + 1)) { s with heap := h' }) :
    wpAny (model prog w) A (call (.type "enumerate") [.ref t]) Q E s := by
  refine callType_new F.called_enumerate (by decide) (F.typeCall_enumerate_1 _) (F.newCall_enumerate_1 _) (fun obj => F.args_object_init_2 obj _) F.entry_enumerate_new meets_enumT ⟨ht, ?_⟩
  have e1 : (s.heap.push { cls := .type "tuple_iterator", data := .fields #[.ref t, .int 0 0] }).objs.size = s.heap.objs.size + 1 := Heap.size_push ..
  have g1 : (s.heap.push { cls := .type "tuple_iterator", data := .fields #[.ref t, .int 0 0] }).get? s.heap.objs.size = some { cls := .type "tuple_iterator", data := .fields #[.ref t, .int 0 0] } := Heap.get?_push_size _ rfl
  have g2 := Heap.get?_push_size (s.heap.push { cls := .type "tuple_iterator", data := .fields #[.ref t, .int 0 0] }) (o := { cls := .type "enumerate", data := .fields #[.none, .bool false, .ref s.heap.objs.size, rawInt 0, .none, .none] }) rfl
  show _ ∧ _
  rw [e1] at g2 ⊢
  exact ⟨⟨_, g2, rfl⟩, h _ g2 ⟨_, Heap.get?_push_of_some _ g1, rfl, rfl⟩ fun b o x => Heap.get?_push_of_some _ (Heap.get?_push_of_some _ x)⟩
def iEnT (K : PySem.W.Frag) (ta : TA) : TI := fun σ H R => ta σ H fun vs H1 => ∃ a xs, vs = [.ref a] ∧ SqT K H1 a xs ∧ R (IteT K a) H1
theorem pi_enumT {X : Cx} {e : Expr} {ta : TA} {p pos tpos : Pos} {elts : List Expr} {kk : Nat} (hg : Gl X "enumerate") (hm : X.mg "enumerate" = none) (ha : PA X [e] ta) (hs : starEach [e] X.env = [(false, eval e X.env)] := by rfl) :
    PI X (.Tuple elts kk tpos) (.Call (.Name "enumerate" p) [e] [] pos) (iEnT X.K ta) := by
  refine ⟨fun pins s σ H R I h => ?_⟩
  refine Call_ (ld_blt I hg hm boot_enumerate (PyProof.Rows.callWith_type1 (thn (ha.run pos pins s σ H _ I h) fun us s1 ⟨vs, H1, I1, r1, q1⟩ => ?_) hs rfl))
  obtain ⟨a, xs, ex, hq, q⟩ := q1
  subst ex
  obtain ⟨u, rfl, ru⟩ := vals1 r1
  cases ru
  obtain ⟨its, rv, p', hz⟩ := I1.tuple hq
  refine call_enumT (show s1.heap.IsTuple a its.toArray from p') fun h' he hit hk => wpAny_pyIter_enum he ?_
  have old : ∀ b ∈ [s1.heap.objs.size + 1, s1.heap.objs.size], s1.heap.objs.size ≤ b := fun b hb => by
    rcases List.mem_cons.mp hb with r | r
    · rw [r]; exact Nat.le_add_right _ _
    · rw [List.mem_singleton.mp r]; exact Nat.le_refl _
  exact ⟨s1.heap.objs.size + 1, [s1.heap.objs.size + 1, s1.heap.objs.size], _, _, H1, rfl, I1.kept (t' := s1.toks) hk, turn_enumT a (s1.heap.objs.size + 1) s1.heap.objs.size, ⟨⟨.none, he⟩, hit, Nat.succ_ne_self _⟩,
    fun b hb => I1.fpOk (old b hb) (I1.hok.fresh (old b hb)), q⟩
theorem walk_enumT {K : PySem.W.Frag} {a : Addr} {xs : List V} : Walk (IteT K a) xs.length (fun H => SqT K H a xs) (YPair (fun i => some (.int (i : Nat))) (fun i => xs[i]?)) :=
  ⟨fun i _ hi q => ⟨xs, xs[i], q, by simp [hi]⟩, fun _ q => ⟨xs, q, rfl⟩, fun i H v H' _ q ⟨T, x, h1, h2, h3, h4⟩ => ⟨T, .int (i : Nat), x, h1, h2, h3, rfl, h4 xs q⟩⟩
/-- zip of two tuples, walked -/
theorem walk_zipT {K : PySem.W.Frag} {a b : Addr} {xs ys : List V} {n : Nat} (hn : n = min xs.length ys.length) : Walk (RZ.ItzT K a b) n (fun H => SqT K H a xs ∧ SqT K H b ys) (YPair (fun i => xs[i]?) (fun i => ys[i]?)) := by
  subst hn
  refine ⟨fun i _ hi q => ⟨xs, ys, xs[i]'(by omega), ys[i]'(by omega), q.1, q.2, List.getElem?_eq_getElem _, List.getElem?_eq_getElem _⟩, fun _ q => ⟨xs, ys, q.1, q.2, by omega⟩, fun i H v H' _ q ⟨T, x, z, h1, h2, h3, h4, h5⟩ => ⟨T, x, z, h1, h2, h3, h4 xs q.1, h5 ys q.2⟩⟩

/-! ### >= of two tuples of ints -/
def geI (ns ms : List Int) : Bool := Ob.lexAt (fun j => decide (ns.getD j 0 = ms.getD j 0)) (fun j => decide (ms.getD j 0 ≤ ns.getD j 0)) (decide (ns.length ≥ ms.length)) 0 (min ns.length ms.length)
def rGeT (K : PySem.W.Frag) : R2 := fun x y H Q => ∃ (a b : Addr) (ns ms : List Int), x = .ref a ∧ y = .ref b ∧ SqT K H a (ns.map V.int) ∧ SqT K H b (ms.map V.int) ∧ Q (.bl (geI ns ms)) H
theorem op_geT {X : Cx} (hu : X.A.units < cLine) : OpR X (compareOp .GtE) (rGeT X.K) := by
  intro pins s σ H x y v u Q I rx ry h
  obtain ⟨a, b, ns, ms, rfl, rfl, ha, hb, q⟩ := h
  cases rx
  cases ry
  obtain ⟨its, r1, p1, _⟩ := I.tuple ha
  obtain ⟨its2, r2, p2, _⟩ := I.tuple hb
  have i1 := Vals.ints r1
  have i2 := Vals.ints r2
  have z1 : its.toArray.size = ns.length := by rw [List.size_toArray]; exact i1.length
  have z2 : its2.toArray.size = ms.length := by rw [List.size_toArray]; exact i2.length
  have g1 : ∀ j (h1 : j < its.toArray.size), ∃ t, its.toArray[j] = .int (ns.getD j 0) t := fun j h1 => PyProof.Rows.IntsAre.int_at i1 _ _ (by simp at h1; simp [h1])
  have g2 : ∀ j (h1 : j < its2.toArray.size), ∃ t, its2.toArray[j] = .int (ms.getD j 0) t := fun j h1 => PyProof.Rows.IntsAre.int_at i2 _ _ (by simp at h1; simp [h1])
  have R := Ob.RcOp.tuples_ge (A := X.A) (s := s) (e := fun j => decide (ns.getD j 0 = ms.getD j 0)) (r := fun j => decide (ms.getD j 0 ≤ ns.getD j 0)) p1 p2 hu (fun j h1 h2 => by
    obtain ⟨t, et⟩ := g1 j h1
    obtain ⟨t', et'⟩ := g2 j h2
    rw [et, et', show decide (ns.getD j 0 = ms.getD j 0) = (ns.getD j 0 == ms.getD j 0) from (Bool.beq_eq_decide_eq _ _).symm]
    exact SeqAt.EqAt.int_int _ _ _ _) (fun j h1 h2 _ => by
    obtain ⟨t, et⟩ := g1 j h1
    obtain ⟨t', et'⟩ := g2 j h2
    rw [et, et']
    exact Ob.RcOp.ge_int _ _ _ _)
  rw [z1, z2] at R
  have z : wpAny (model X.prog X.w) X.A (compareOp .GtE (.ref a) (.ref b)) (EP X pins σ Q) X.xe s := R X.prog X.w X.xe (EP X pins σ Q) ⟨.bl _, H, I, rfl, q⟩
  exact z
/-- two pairs of which the second one begins with the greater number -/
theorem geI_pair {a b c d : Int} (h : a < c) : geI [a, b] [c, d] = false := by
  have e1 : decide (a = c) = false := decide_eq_false (by omega)
  have e2 : decide (c ≤ a) = false := decide_eq_false (by omega)
  show (if decide (a = c) = true then _ else decide (c ≤ a)) = false
  rw [e1, e2]; rfl
theorem ltI_pair {a b c d : Int} (h : a < c) : HT.lexLt [a, b] [c, d] = true := by
  rw [HT.lexLt_cons, if_neg (by omega), decide_eq_true h]

/-! ### list.count(True) -/
def rCntB (K : PySem.W.Frag) : V → List V → Hp → VK → Prop := fun x xs H Q => ∃ (p : Addr) (bs : List Bool), x = .ref p ∧ xs = [.bl true] ∧ SqL K H p (bs.map V.bl) ∧ Q (.int (bs.countP id : Nat)) H
theorem mt_countB {X : Cx} : MtR X "list.count" (rCntB X.K) := by
  intro pins s σ H x xs v us Q I rx rxs h
  obtain ⟨p, bs, rfl, rfl, hs, q⟩ := h
  cases rx
  obtain ⟨u, rfl, ru⟩ := rxs.one
  cases ru
  obtain ⟨its, rv, ⟨⟨cls, dd, data, sl⟩, n, ho, hc, hdn, hd⟩, hlen⟩ := I.list hs
  simp only at hc hd
  subst hc hd
  have hi := Vals.bls rv
  subst hi
  refine call_meets PySem.F.slot_list_count ⟨_, ho, rfl⟩ PySem.F.entry_list_count (PySem.F.args_list_count_2 _ _)
    (SeqAt.list_countAt p (bs.map Value.bool).toArray n dd sl (.bool true) (fun y => match y with | .bool b => b == true | _ => false)) ⟨ho, fun y hy => ?_, ?_⟩
  · have hy : y ∈ bs.map Value.bool := by simpa using hy
    obtain ⟨b, _, rfl⟩ := List.mem_map.mp hy
    exact SeqAt.EqAt.bool_bool _ _
  · refine ⟨.int (bs.countP id : Nat), H, I.tok _, ⟨s.toks, ?_⟩, q⟩
    show Value.int (((bs.map Value.bool).toArray.toList.countP _ : Nat) : Int) s.toks = _
    rw [show ((bs.map Value.bool).toArray.toList.countP fun y => match y with | .bool b => b == true | _ => false) = bs.countP id by
      show (bs.map Value.bool).countP _ = _
      rw [List.countP_map]
      congr 1
      funext b
      cases b <;> rfl]
/-! ### xs[i] by values, for xs[i] op= e -/
def gL (K : PySem.W.Frag) : V → V → Hp → VK → Prop := fun o i H Q => ∃ p xs k v, o = .ref p ∧ i = .int k ∧ SqL K H p xs ∧ 0 ≤ k ∧ xs[k.toNat]? = some v ∧ Q v H
theorem pget_list {X : Cx} : PGet X (gL X.K) := by
  intro pins s σ H o i ov iv Q I ro ri h
  obtain ⟨p, xs, k, v, rfl, rfl, hq, h0, hv, q⟩ := h
  cases ro
  obtain ⟨t, rfl⟩ := ri
  obtain ⟨its, r, pl, hz⟩ := I.list hq
  obtain ⟨u, hu, ru⟩ := r.get hv
  have hlt : k.toNat < its.length := by
    rcases Nat.lt_or_ge k.toNat its.length with z | z
    · exact z
    · rw [List.getElem?_eq_none z] at hu; cases hu
  have hl := r.length
  have hn := line63
  exact wpAny_getItem_list pl.isList h0 (by omega) (by simpa using hu) ⟨v, H, I, ru, q⟩
end Ug

/-! what stands for what on the heap; sorted of a list or a tuple of data -/
namespace Ug
open PySem PySem.Spec PyProof.Rows L2

/-! ### tuples stay -/
def Tk (H H' : Hp) : Prop := ∀ b xs, H b = some (.tup xs) → H' b = some (.tup xs)
theorem Tk.refl (H : Hp) : Tk H H := fun _ _ h => h
theorem Tk.trans {H H1 H2 : Hp} (a : Tk H H1) (b : Tk H1 H2) : Tk H H2 := fun c o h => b c o (a c o h)
theorem Same.tk {H H' : Hp} (h : Same H H') : Tk H H' := fun b xs e => h b _ e
theorem Same.new {H : Hp} {p : Addr} {o : HO} (h : H p = none) : Same H (upd H p o) := fun a u e => by
  rw [upd_ne (ne_of_none e h)]; exact e
theorem Tk.upd {H : Hp} {a : Addr} {o u : HO} (h : H a = some o) (n : ∀ xs, o ≠ .tup xs) : Tk H (L2.upd H a u) := fun b xs e => by
  rw [upd_ne (fun z => by rw [z, h] at e; exact n xs (Option.some.inj e))]; exact e
theorem Tk.new {H : Hp} {p : Addr} {o : HO} (h : H p = none) : Tk H (L2.upd H p o) := Same.tk (Same.new h)
/-- a heap by a name, behind a new object -/
theorem new_by {H : Hp} {o : HO} {P : Addr → Hp → Prop} (h : ∀ p H', H p = none → Same H H' → H' p = some o → P p H') : ∀ p, H p = none → P p (upd H p o) :=
  fun p hp => h p _ hp (Same.new hp) upd_same

/-! ### what stands for what -/
def Tp (H : Hp) (v : V) (xs : List V) : Prop := ∃ a, v = .ref a ∧ H a = some (.tup xs)
theorem Tp.mono {H H' : Hp} {v : V} {xs : List V} (h : Tp H v xs) (k : Tk H H') : Tp H' v xs := let ⟨a, e, q⟩ := h; ⟨a, e, k a xs q⟩
theorem pimp {α β : Type} {F G : α → β → Prop} (f : ∀ a b, F a b → G a b) {l : List α} {m : List β} (h : Paired F l m) : Paired G l m := L2.Paired.mapP h f
def nats (l : List Nat) : List V := l.map fun (n : Nat) => V.int (n : Int)
theorem nats_length (l : List Nat) : (nats l).length = l.length := by unfold nats; rw [List.length_map]
theorem nats_eq (l : List Nat) : nats l = (l.map fun n : Nat => (n : Int)).map V.int := by unfold nats; rw [List.map_map]; rfl
def RPr (H : Hp) (v : V) (q : Nat × Nat) : Prop := Tp H v [.int q.1, .int q.2]
def RPg (H : Hp) (v : V) (p : List (Nat × Nat)) : Prop := ∃ xs, Tp H v xs ∧ Paired (RPr H) xs p
def RLot (H : Hp) (v : V) (l : List Nat) : Prop := Tp H v (nats l)
theorem RPr.mono {H H' : Hp} (k : Tk H H') {v : V} {q : Nat × Nat} (h : RPr H v q) : RPr H' v q := Tp.mono h k
theorem RPg.mono {H H' : Hp} (k : Tk H H') {v : V} {p : List (Nat × Nat)} (h : RPg H v p) : RPg H' v p := let ⟨xs, a, b⟩ := h; ⟨xs, a.mono k, pimp (fun _ _ => RPr.mono k) b⟩
theorem RLot.mono {H H' : Hp} (k : Tk H H') {v : V} {l : List Nat} (h : RLot H v l) : RLot H' v l := Tp.mono h k

/-! ### as data -/
def encQ (q : Nat × Nat) : PyData := .tuple [.int q.1, .int q.2]
def encP (p : List (Nat × Nat)) : PyData := .tuple (p.map encQ)
theorem RPr.dp {K : PySem.W.Frag} {H : Hp} {v : V} {q : Nat × Nat} (h : RPr H v q) : Dp K H v (encQ q) := by
  obtain ⟨a, rfl, e⟩ := h
  exact .tup (SqT.of e) (.cons (.int _) (.cons (.int _) .nil))
theorem dpAll_of {K : PySem.W.Frag} {H : Hp} {β : Type} {R : V → β → Prop} {enc : β → PyData} (f : ∀ v b, R v b → Dp K H v (enc b)) : ∀ {xs : List V} {bs : List β}, Paired R xs bs → DpAll K H xs (bs.map enc)
  | [], [], .nil => .nil
  | _ :: _, _ :: _, .cons r t => .cons (f _ _ r) (dpAll_of f t)
theorem RPg.dp {K : PySem.W.Frag} {H : Hp} {v : V} {p : List (Nat × Nat)} (h : RPg H v p) : Dp K H v (encP p) := by
  obtain ⟨xs, ⟨a, rfl, e⟩, r⟩ := h
  exact .tup (SqT.of e) (dpAll_of (R := RPr H) (enc := encQ) (fun _ _ => RPr.dp) r)

/-! ### sorted of a list or a tuple -/
section
variable {prog : Program} {w : World} {A : Around} {E : Value → Shared → Prop} {s : Shared}
theorem sorted_any {v : Value} {vs : List Value} {κ : Heap → PyProof.Rows.KeyKind} {Q : Value → Shared → Prop} (hL : vs.length ≤ sizeLine)
    (C : ∀ (E : Value → Shared → Prop) (Q : List Value → Shared → Prop), (∀ h', (∀ b o, s.heap.get? b = some o → h'.get? b = some o) → Q vs { s with heap := h' }) → wpAny (model prog w) A.in1 (collect v) Q E s)
    (S : ∀ h', (∀ b o, s.heap.get? b = some o → h'.get? b = some o) → PySem.W.SortsAt prog w A.in1.in1 { s with heap := h' } (κ h') vs)
    (h : ∀ (h1 h' h2 : Heap) (c : Nat), (∀ b o, s.heap.get? b = some o → h1.get? b = some o) → (∀ b o, s.heap.get? b = some o → h2.get? b = some o) → (∀ b o, h1.get? b = some o → h'.get? b = some o) → h'.get? h1.objs.size = some (seqObj "list" (PySem.W.sortVals (κ h2) false vs vs).toArray c) → Q (.ref h1.objs.size) { s with heap := h' }) :
    wpAny (model prog w) A (call (.builtin "sorted") [v]) Q E s := by
  refine Calls.call_function_entry kind_sorted plain_sorted entry_sorted (args_sorted1 _) ?_
  unfold Builtin.«sorted»
  refine wpAny_bind (m := checkCount "sorted" 1 1 _) (wpAny_pure ?_)
  refine wpAny_bind (C _ _ fun h1 k1 => ?_)
  refine wpAny_bind (wpAny_newList ?_ hL)
  have ho : (h1.push (seqObj "list" vs.toArray 0)).get? h1.objs.size = some (seqObj "list" vs.toArray 0) := Heap.get?_push_size _ rfl
  have k2 : ∀ b o, s.heap.get? b = some o → (PySem.W.sortingHeap (h1.push (seqObj "list" vs.toArray 0)) h1.objs.size vs).get? b = some o := fun b o e => by
    have e1 := k1 b o e
    exact PySem.W.sortingHeap_old (Nat.ne_of_lt (Heap.lt_size e1)) (Heap.get?_push_of_some _ e1)
  generalize hh2 : PySem.W.sortingHeap (h1.push (seqObj "list" vs.toArray 0)) h1.objs.size vs = h2 at k2
  have S2 := S h2 k2
  subst hh2
  obtain ⟨c, hc⟩ := sortedHeap_at (vs := vs) (out := (PySem.W.sortVals (κ (PySem.W.sortingHeap (h1.push (seqObj "list" vs.toArray 0)) h1.objs.size vs)) false vs vs).toArray) ho
  refine wpAny_bind (wpAny_holding (wpAny_call_entry slot_list_sort ⟨_, ho, rfl⟩ entry_list_sort (PySem.W.list_sort_vals (κ := κ (PySem.W.sortingHeap (h1.push (seqObj "list" vs.toArray 0)) h1.objs.size vs)) (s := { s with heap := h1.push (seqObj "list" vs.toArray 0) }) ho S2 hL ⟨_, rfl, ?_⟩) (args_list_sort _)))
  · refine wpAny_pure ⟨_, rfl, h h1 _ _ c k1 k2 (fun b o e => ?_) hc⟩
    have hlt := Heap.lt_size e
    show (sortedHeap (h1.push (seqObj "list" vs.toArray 0)) h1.objs.size vs _).get? b = some o
    rw [sortedHeap_old (Nat.ne_of_lt hlt) (by rw [size_push']; exact Nat.lt_succ_of_lt hlt)]
    exact Heap.get?_push_of_some _ e
end
section
variable {X : Cx} {pins : List (Addr × Obj)} {σ : L2.St} {H : Hp} {s : Shared}
/-- what is sorted: a list or a tuple -/
def Seq2 (K : PySem.W.Frag) (H : Hp) (a : Addr) (xs : List V) : Prop := SqL K H a xs ∨ SqT K H a xs
theorem seq2_collect (I : Inv X pins σ H s) {a : Addr} {xs : List V} (h : Seq2 X.K H a xs) : ∃ vs : List Value, Vals xs vs ∧ xs.length ≤ sizeLine ∧
    ∀ (A : Around) (E : Value → Shared → Prop) (Q : List Value → Shared → Prop), (∀ h', (∀ b o, s.heap.get? b = some o → h'.get? b = some o) → Q vs { s with heap := h' }) → wpAny (model X.prog X.w) A (collect (.ref a)) Q E s := by
  rcases h with h | h
  · obtain ⟨its, r, ⟨o, n, ho, hc, _, hd⟩, hz⟩ := I.list h
    refine ⟨its, r, hz, fun A E Q q => ?_⟩
    exact wpAny_collect_seq a (.inl rfl) ho hc hd (fun h' k => by simpa using q h' k) (by rw [List.size_toArray, ← r.length]; exact hz)
  · obtain ⟨its, r, ⟨o, ho, hc, n, hd⟩, hz⟩ := I.tuple h
    refine ⟨its, r, hz, fun A E Q q => ?_⟩
    exact wpAny_collect_seq a (.inr rfl) ho hc hd (fun h' k => by simpa using q h' k) (by rw [List.size_toArray, ← r.length]; exact hz)
/-- the value stands for b by a V that stands for b -/
def StV {β : Type} (R : V → β → Prop) (u : Value) (b : β) : Prop := ∃ x, RelV x u ∧ R x b
theorem each_of {β : Type} {R : V → β → Prop} : ∀ {xs : List V} {us : List Value} {bs : List β}, Vals xs us → Paired R xs bs → PySem.W.EachIs (StV R) us bs
  | _, _, _, .nil, .nil => .nil
  | _, _, _, .cons r t, .cons r' t' => .cons ⟨_, r, r'⟩ (each_of t t')
theorem of_each {β : Type} {R : V → β → Prop} : ∀ {us : List Value} {bs : List β}, PySem.W.EachIs (StV R) us bs → ∃ xs, Vals xs us ∧ Paired R xs bs
  | _, _, .nil => ⟨[], .nil, .nil⟩
  | _, _, .cons ⟨x, r, q⟩ t => let ⟨xs, a, b⟩ := of_each t; ⟨x :: xs, .cons r a, .cons q b⟩
theorem each_fill {β : Type} {us : List Value} {bs : List β} {F G : Value → β → Prop} (h : PySem.W.EachIs F us bs) (f : ∀ u b, F u b → G u b) : PySem.W.EachIs G us bs := h.mono f
/-- sorted(xs): items that stand for alike data -/
def rSortD {β : Type} (K : PySem.W.Frag) (R : Hp → V → β → Prop) (enc : β → PyData) (d : Nat) : List V → Hp → VK → Prop := fun vs H Q => ∃ (a : Addr) (xs : List V) (bs : List β), vs = [.ref a] ∧ Seq2 K H a xs ∧ Paired (R H) xs bs ∧
  PySem.W.AllAlike (bs.map enc) ∧ (∀ b ∈ bs, ∃ x r, enc b = .tuple (x :: r)) ∧ (∀ b ∈ bs, (enc b).depth ≤ d) ∧
  ∀ ys p, Paired (R H) ys (bs.mergeSort (PySem.W.dataLe false enc)) → H p = none → Q (.ref p) (upd H p (.lst ys))
theorem cr_sortD {β : Type} {R : Hp → V → β → Prop} {enc : β → PyData} {d : Nat} (hd : ∀ H v b, R H v b → Dp X.K H v (enc b)) (hu : X.A.units + 2 + d < cLine) : CallR X (.builtin "sorted") (rSortD X.K R enc d) := by
  intro pins s σ H vs us Q I r h
  obtain ⟨a, xs, bs, rfl, hs, hR, hal, hk, hdp, q⟩ := h
  obtain ⟨u, rfl, ru⟩ := vals1 r
  cases ru
  obtain ⟨vs, rv, hz, C⟩ := seq2_collect I hs
  have ev : PySem.W.EachIs (StV (R H)) vs bs := each_of rv hR
  have er : PySem.W.EachIs (fun u b => ∃ as, Reads s.heap u (enc b) as) vs bs := each_fill ev fun u b ⟨x, r1, r2⟩ => Dp.reads I _ _ _ (hd H x b r2) r1
  have hzv : vs.length ≤ sizeLine := by rw [← rv.length]; exact hz
  have hsrt : PySem.W.Sortable (bs.map enc) := .inl fun e he => by
    obtain ⟨b, hb, rfl⟩ := List.mem_map.mp he
    exact hk b hb
  have reads : ∀ h' : Heap, (∀ b o, s.heap.get? b = some o → h'.get? b = some o) → PySem.W.EachIs (fun u b => ∃ as, Reads h' u (enc b) as) vs bs := fun h' k => each_fill er fun u b ⟨as, z⟩ => ⟨as, PyProof.Rows.Reads.keeps k z⟩
  have em : ∀ h' : Heap, (∀ b o, s.heap.get? b = some o → h'.get? b = some o) → PySem.W.EachIs (fun u d => ∃ as, Reads h' u d as) vs (bs.map enc) := fun h' k => PySem.W.each_map (R := fun u d => ∃ as, Reads h' u d as) enc (reads h' k)
  refine sorted_any (κ := fun h' => PySem.W.dataKind h' (bs.map enc)) hzv (fun E Q => C _ E Q) (fun h' k => ?_) fun h1 h' h2 c k1 k3 k2 hc => ?_
  · refine PySem.W.SortsAt.data (s := { s with heap := h' }) (em h' k) hal hsrt fun e he => ?_
    obtain ⟨b, hb, rfl⟩ := List.mem_map.mp he
    have e2 : X.A.in1.in1.units = X.A.units + 2 := rfl
    have := hdp b hb
    omega
  · have es := PySem.W.sortVals_data (R := StV (R H)) (h' := h2) false ev (reads h2 k3) hal
    obtain ⟨ys, ry, rR⟩ := of_each es
    have I1 : Inv X pins σ H { s with heap := h1 } := I.kept (t' := s.toks) k1
    have hl : ys.length ≤ sizeLine := by
      rw [rR.length, List.length_mergeSort, ← hR.length]; exact hz
    refine ⟨.ref h1.objs.size, upd H h1.objs.size (.lst ys), I1.laid (t' := s.toks) k2 (Nat.le_refl _) ⟨hl, _, c, ry, hc⟩, rfl, q ys _ rR (I1.hok.fresh (Nat.le_refl _))⟩
/-- one empty tuple alone -/
def rSort1 (K : PySem.W.Frag) : List V → Hp → VK → Prop := fun vs H Q => ∃ (a t : Addr), vs = [.ref a] ∧ Seq2 K H a [.ref t] ∧ SqT K H t [] ∧ ∀ p, H p = none → Q (.ref p) (upd H p (.lst [.ref t]))
theorem keyLt_general (x y : Value) : keyLt' general' x y = oneLt' false x y := rfl
theorem cr_sort1 (hu : X.A.units + 3 < cLine) : CallR X (.builtin "sorted") (rSort1 X.K) := by
  intro pins s σ H vs us Q I r h
  obtain ⟨a, t, rfl, hs, ht, q⟩ := h
  obtain ⟨u, rfl, ru⟩ := vals1 r
  cases ru
  obtain ⟨vs, rv, hz, C⟩ := seq2_collect I hs
  obtain ⟨v, rfl, rt⟩ := vals1 rv
  cases rt
  obtain ⟨its, rt, pt, _⟩ := I.tuple ht
  cases rt
  let κ : PyProof.Rows.KeyKind := { toKeyOrd := listOrd itemOrd, keyOf := fun x => if x == Value.ref t then some [] else none, dflt := ([] : List (Int ⊕ List Nat)) }
  refine sorted_any (κ := fun _ => κ) (by show 1 ≤ sizeLine; decide) (fun E Q => C _ E Q) (fun h' k => ⟨fun x hx => ⟨[], ?_⟩, general', fun E x y a b Q hx hy hq => ?_, fun h2 => absurd h2 (by simp)⟩) fun h1 h' h2 c k1 k3 k2 hc => ?_
  · rw [List.mem_singleton.mp hx]
    show (if (Value.ref t == Value.ref t) = true then _ else _) = _
    rw [if_pos (by simp)]
  · have is : ∀ {z : Value} {d : κ.α}, κ.keyOf z = some d → z = .ref t ∧ d = ([] : List (Int ⊕ List Nat)) := fun {z d} e => by
      have e' : (if (z == Value.ref t) = true then some ([] : List (Int ⊕ List Nat)) else none) = some d := e
      by_cases hz : (z == Value.ref t) = true
      · rw [if_pos hz] at e'
        exact ⟨by simpa using hz, (Option.some.inj e').symm⟩
      · rw [if_neg hz] at e'; cases e'
    obtain ⟨rfl, rfl⟩ := is hx
    obtain ⟨rfl, rfl⟩ := is hy
    have p' : h'.IsTuple t #[] := by
      obtain ⟨o, ho, hc, n, hd⟩ := pt
      exact ⟨o, k t o ho, hc, n, hd⟩
    rw [keyLt_general, oneLt'_eq, if_neg (by decide)]
    have eu : X.A.in1.in1.units = X.A.units + 2 := rfl
    have R := Ob.RcOp.tuples_lt (A := X.A.in1.in1) (s := { s with heap := h' }) (e := fun _ => true) (r := fun _ => true) p' p' (by omega) (fun j h1 _ => absurd h1 (by simp)) (fun j h1 _ _ => absurd h1 (by simp))
    refine wpAny_bind (R X.prog X.w _ _ ?_)
    show wpAny _ _ (truthOfDropped (.bool false)) _ _ _
    unfold truthOfDropped
    exact wpAny_truthy_bool hq
  · have I1 : Inv X pins σ H { s with heap := h1 } := I.kept (t' := s.toks) k1
    have e : PySem.W.sortVals κ false [Value.ref t] [Value.ref t] = [Value.ref t] := by
      unfold PySem.W.sortVals
      simp
    rw [e] at hc
    exact ⟨.ref h1.objs.size, upd H h1.objs.size (.lst [.ref t]), I1.laid (t' := s.toks) k2 (Nat.le_refl _) ⟨by show 1 ≤ sizeLine; decide, _, c, .cons rfl .nil, hc⟩, rfl, q _ (I1.hok.fresh (Nat.le_refl _))⟩
/-! ### the two that we meet -/
theorem alike_encQ (q q' : Nat × Nat) : PySem.W.alike (encQ q) (encQ q') = true := by simp [encQ, PySem.W.alike, PySem.W.alikeAll]
theorem alikeAll_map : ∀ p p' : List (Nat × Nat), PySem.W.alikeAll (p.map encQ) (p'.map encQ) = true
  | [], _ => by simp [PySem.W.alikeAll]
  | _ :: _, [] => by simp [PySem.W.alikeAll]
  | q :: p, q' :: p' => by
    rw [List.map_cons, List.map_cons, PySem.W.alikeAll, alike_encQ, alikeAll_map p p']; rfl
theorem alike_encP (p p' : List (Nat × Nat)) : PySem.W.alike (encP p) (encP p') = true := by
  unfold encP
  rw [PySem.W.alike]
  exact alikeAll_map p p'
theorem depthAll_Q : ∀ p : List (Nat × Nat), PyData.depthAll (p.map encQ) ≤ 1
  | [] => by simp [PyData.depthAll]
  | q :: p => by
    rw [List.map_cons, PyData.depthAll]
    have := depthAll_Q p
    have : PyData.depth (encQ q) = 1 := by simp [encQ, PyData.depth, PyData.depthAll]
    omega
theorem depth_Q (q : Nat × Nat) : (encQ q).depth ≤ 1 := by simp [encQ, PyData.depth, PyData.depthAll]
theorem depth_P (p : List (Nat × Nat)) : (encP p).depth ≤ 2 := by
  have := depthAll_Q p
  unfold encP
  rw [PyData.depth]; omega
theorem leQ : PySem.W.dataLe false encQ = fun p q => decide ((p.1 : Int) < q.1 ∨ ((p.1 : Int) = q.1 ∧ (p.2 : Int) ≤ q.2)) := PySem.W.dataLe_ii (fun p : Nat × Nat => (p.1 : Int)) fun p => (p.2 : Int)
theorem sortQ_perm (p : List (Nat × Nat)) : (p.mergeSort (PySem.W.dataLe false encQ)).Perm p := List.mergeSort_perm _ _
theorem sortQ_asc (p : List (Nat × Nat)) : (p.mergeSort (PySem.W.dataLe false encQ)).Pairwise (fun a b => a.1 ≤ b.1) := by
  have h : (p.mergeSort (PySem.W.dataLe false encQ)).Pairwise (fun a b => PySem.W.dataLe false encQ a b = true) := by
    refine List.pairwise_mergeSort (fun a b c h1 h2 => ?_) (fun a b => ?_) p
    · rw [leQ] at h1 h2 ⊢
      simp only [decide_eq_true_eq] at h1 h2 ⊢
      omega
    · rw [leQ]
      simp only [Bool.or_eq_true, decide_eq_true_eq]
      omega
  refine h.imp fun {a b} e => ?_
  rw [leQ] at e
  simp only [decide_eq_true_eq] at e
  omega
/-- sorted(pairing) -/
def rSortQ (K : PySem.W.Frag) : List V → Hp → VK → Prop := fun vs H Q => ∃ (v : V) (p : List (Nat × Nat)), vs = [v] ∧ RPg H v p ∧
  ∀ ys q b, Paired (RPr H) ys q → q.Perm p → q.Pairwise (fun a b => a.1 ≤ b.1) → H b = none → Q (.ref b) (upd H b (.lst ys))
theorem cr_sortQ (hu : X.A.units + 3 < cLine) : CallR X (.builtin "sorted") (rSortQ X.K) := by
  intro pins s σ H vs us Q I r h
  obtain ⟨v, p, rfl, ⟨xs, ⟨a, rfl, ha⟩, hp⟩, q⟩ := h
  exact cr_sortD (R := RPr) (enc := encQ) (d := 1) (fun H v b h => h.dp) (by omega) pins s σ H _ us Q I r ⟨a, xs, p, rfl, .inr (SqT.of ha), hp, PySem.W.AllAlike.of alike_encQ, fun b _ => ⟨_, _, rfl⟩, fun b _ => depth_Q b,
    fun ys b hy hb => q ys _ b hy (sortQ_perm p) (sortQ_asc p) hb⟩
/-- sorted(pairings): none is empty, or there is just the empty one -/
def rSortP (K : PySem.W.Frag) : List V → Hp → VK → Prop := fun vs H Q => ∃ (a : Addr) (xs : List V) (L : List (List (Nat × Nat))), vs = [.ref a] ∧ H a = some (.lst xs) ∧ Paired (RPg H) xs L ∧ ((∀ p ∈ L, p ≠ []) ∨ L = [[]]) ∧
  ∀ ys M b, Paired (RPg H) ys M → M.Perm L → H b = none → Q (.ref b) (upd H b (.lst ys))
theorem cr_sortP (hu : X.A.units + 4 < cLine) : CallR X (.builtin "sorted") (rSortP X.K) := by
  intro pins s σ H vs us Q I r h
  obtain ⟨a, xs, L, rfl, ha, hL, hc, q⟩ := h
  rcases hc with hc | rfl
  · refine cr_sortD (R := RPg) (enc := encP) (d := 2) (fun H v b h => h.dp) (by omega) pins s σ H _ us Q I r ⟨a, xs, L, rfl, .inl (SqL.of ha), hL, PySem.W.AllAlike.of alike_encP, fun b hb => ?_, fun b _ => depth_P b,
      fun ys b hy hb => q ys _ b hy (List.mergeSort_perm _ _) hb⟩
    cases b with
    | nil => exact absurd rfl (hc _ hb)
    | cons x r => exact ⟨encQ x, r.map encQ, rfl⟩
  · cases xs with
    | nil => cases hL
    | cons x xs =>
      cases hL with
      | cons h1 h2 =>
        cases h2
        obtain ⟨zs, ⟨t, rfl, ht⟩, hz⟩ := id h1
        cases hz
        exact cr_sort1 (by omega) pins s σ H _ us Q I r ⟨a, t, rfl, .inl (SqL.of ha), SqT.of ht, fun b hb => q _ _ b (.cons h1 .nil) (List.Perm.refl _) hb⟩
end
end Ug

/-! a dict whose keys are pairings -/
namespace Ug
open PySem PySem.Spec PyProof.Rows L2

def NDo (d : Addr) (es : Array DictEntry) (ep : Nat) : HO := .ext fun h => h.DictRaw d es ep ∧ (d == sysModules) = false
def keyP (p : List (Nat × Nat)) : NestedKey := .tup (p.map fun q => .tup [.num q.1, .num q.2])
theorem keyP_inj : ∀ {p p' : List (Nat × Nat)}, keyP p = keyP p' → p = p' := by
  have go : ∀ {p p' : List (Nat × Nat)}, (p.map fun q : Nat × Nat => NestedKey.tup [.num q.1, .num q.2]) = (p'.map fun q : Nat × Nat => NestedKey.tup [.num q.1, .num q.2]) → p = p' := by
    intro p
    induction p with
    | nil => intro p' h; cases p' with
      | nil => rfl
      | cons _ _ => cases h
    | cons q p ih =>
      intro p' h
      cases p' with
      | nil => cases h
      | cons q' p' =>
        rw [List.map_cons, List.map_cons] at h
        injection h with h1 h2
        injection h1 with h3
        injection h3 with h4 h5
        injection h4 with h6
        injection h5 with h7 _
        injection h7 with h8
        rw [ih h2, show q = q' from Prod.ext (Int.ofNat.inj h6) (Int.ofNat.inj h8)]
  intro p p' h
  injection h with h1
  exact go h1
section
variable {X : Cx} {pins : List (Addr × Obj)} {σ : L2.St} {H : Hp} {s : Shared}
theorem RPr.key (I : Inv X pins σ H s) {v : V} {u : Value} {q : Nat × Nat} (h : RPr H v q) (r : RelV v u) : NestedIs s.heap (.tup [.num q.1, .num q.2]) u := by
  obtain ⟨a, rfl, e⟩ := h
  cases r
  obtain ⟨its, rv, ⟨o, ho, hc, n, hd⟩, _⟩ := I.tuple (SqT.of e)
  obtain ⟨t, t', rfl⟩ := Vals.int2 rv
  exact .tup ho hc hd (.cons (.int _ _) (.cons (.int _ _) .nil))
theorem keys_all (I : Inv X pins σ H s) : ∀ {xs : List V} {us : List Value} {p : List (Nat × Nat)}, Paired (RPr H) xs p → Vals xs us → NestedAll s.heap (p.map fun q => .tup [.num q.1, .num q.2]) us
  | _, _, _, .nil, .nil => .nil
  | _, _, _, .cons h t, .cons r t' => .cons (h.key I r) (keys_all I t t')
theorem depthAll_key : ∀ p : List (Nat × Nat), NestedKey.depthAll (p.map fun q => .tup [.num q.1, .num q.2]) ≤ 1
  | [] => by simp [NestedKey.depthAll]
  | q :: p => by
    rw [List.map_cons, NestedKey.depthAll]
    have := depthAll_key p
    have : NestedKey.depth (.tup [.num (q.1 : Int), .num (q.2 : Int)]) = 1 := by simp [NestedKey.depth, NestedKey.depthAll]
    omega
theorem RPg.key (I : Inv X pins σ H s) {a : Addr} {p : List (Nat × Nat)} (h : RPg H (.ref a) p) : (nestedKind X.prog X.w).is s.heap (keyP p) a := by
  obtain ⟨xs, ⟨b, e1, e⟩, hp⟩ := h
  cases e1
  obtain ⟨its, rv, ⟨o, ho, hc, n, hd⟩, _⟩ := I.tuple (SqT.of e)
  refine ⟨.tup ho hc hd (by simpa using keys_all I hp rv), ?_⟩
  unfold keyP
  rw [NestedKey.depth]
  have := depthAll_key p
  omega
/-- the book: pairings to lots -/
def entB (P : Program) (w : World) (k : List (Nat × Nat) × Addr × Addr) : NestedKey × Addr × Value := (keyP k.1, k.2.1, .ref k.2.2)
def Ents (P : Program) (w : World) (es : Array DictEntry) (ks : List (List (Nat × Nat) × Addr × Addr)) : Prop := es.toList = (ks.map (entB P w)).map (entryOfKey (nestedKind P w)) ∧ (ks.map (·.1)).Nodup
def KeysIn (H : Hp) (ks : List (List (Nat × Nat) × Addr × Addr)) : Prop := ∀ k ∈ ks, RPg H (.ref k.2.1) k.1
theorem KeysIn.mono {H H' : Hp} (k : Tk H H') {ks : List (List (Nat × Nat) × Addr × Addr)} (h : KeysIn H ks) : KeysIn H' ks := fun x hx => RPg.mono k (h x hx)
theorem nd_at (I : Inv X pins σ H s) {d : Addr} {es : Array DictEntry} {ep : Nat} (e : H d = some (NDo d es ep)) : s.heap.DictRaw d es ep ∧ (d == sysModules) = false := (I.hok d _ e).1
theorem nd_new {P : Program} {w : World} {H : Hp} {h : Heap} {d : Addr} {es : Array DictEntry} {ep : Nat} (r : h.DictRaw d es ep) (n : (d == sysModules) = false) : ObjOk P w H h d (NDo d es ep) :=
  ⟨⟨r, n⟩, (let ⟨o, ho, _⟩ := r; ⟨o, ho⟩), fun h1 h2 ⟨a, b⟩ k => ⟨a.at k, b⟩⟩
theorem nd_H (I : Inv X pins σ H s) {d : Addr} {es : Array DictEntry} {ep : Nat} {ks : List (List (Nat × Nat) × Addr × Addr)} (e : H d = some (NDo d es ep)) (E : Ents X.prog X.w es ks) (K : KeysIn H ks) :
    s.heap.DictOfH (nestedKind X.prog X.w) d (ks.map (entB X.prog X.w)) := by
  obtain ⟨o, ho, hx, hd⟩ := (nd_at I e).1
  refine ⟨o, es, ep, ho, hx, hd, E.1, fun x hx => ?_, ?_⟩
  · obtain ⟨k, hk, rfl⟩ := List.mem_map.mp hx
    exact (K k hk).key I
  · rw [List.map_map]
    have : ((fun x : NestedKey × Addr × Value => x.1) ∘ entB X.prog X.w) = keyP ∘ (·.1) := rfl
    rw [this, ← List.map_map]
    exact List.Pairwise.map keyP (fun a b h e => h (keyP_inj e)) E.2
theorem atKey_map (P : Program) (w : World) (p : List (Nat × Nat)) : ∀ ks : List (List (Nat × Nat) × Addr × Addr), atKey (ks.map (entB P w)) (keyP p) = (ks.find? fun k => decide (k.1 = p)).map fun k => (k.2.1, Value.ref k.2.2)
  | [] => rfl
  | k :: ks => by
    unfold atKey
    rw [List.map_cons, List.find?_cons, List.find?_cons]
    by_cases h : k.1 = p
    · have h2 : decide ((entB P w k).1 = keyP p) = true := decide_eq_true (by show keyP k.1 = keyP p; rw [h])
      rw [decide_eq_true h, h2]; rfl
    · have h2 : decide ((entB P w k).1 = keyP p) = false := decide_eq_false fun e => h (keyP_inj e)
      rw [decide_eq_false h, h2]
      exact atKey_map P w p ks
/-- {} -/
def tNew : TE := fun _ H Q => ∀ d, H d = none → Q (.ref d) (upd H d (NDo d #[] 0))
theorem pe_ndnew {pos : Pos} : PE X (.Dict [] [] pos) tNew := ⟨fun pins s σ H Q I h => by
  have hb := I.big
  have hn : (s.heap.objs.size == sysModules) = false := by
    rw [beq_eq_false_iff_ne]
    exact Nat.ne_of_gt hb
  exact wpAny_Dict_empty ⟨.ref s.heap.objs.size, _, I.laid (a := s.heap.objs.size) (o := NDo s.heap.objs.size #[] 0) (t' := s.toks) (fun _ _ q => Heap.get?_push_of_some _ q) (Nat.le_refl _)
    (nd_new ⟨_, Heap.get?_push_size _ rfl, ⟨rfl, rfl, rfl⟩, rfl⟩ hn), rfl, h _ (I.hok.fresh (Nat.le_refl _))⟩⟩
/-- d[p] = lot, p not there before -/
def sND (P : Program) (w : World) : V → V → V → Hp → (Hp → Prop) → Prop := fun o i v H Q => ∃ d es ep ks a p b, o = .ref d ∧ H d = some (NDo d es ep) ∧ Ents P w es ks ∧ KeysIn H ks ∧ i = .ref a ∧ RPg H (.ref a) p ∧ (∀ k ∈ ks, k.1 ≠ p) ∧ v = .ref b ∧ ks.length ≤ 10000 ∧
  ∀ es' ep', Ents P w es' (ks ++ [(p, a, b)]) → Q (upd H d (NDo d es' ep'))
theorem set_nd (hu : X.A.units + 9 < cLine) : PSet X (sND X.prog X.w) := by
  intro pins s σ H o i v ov iv u Q I ro ri rv h
  obtain ⟨d, es, ep, ks, a, p, b, rfl, hd, E, K, rfl, hp, hn, rfl, hz, q⟩ := h
  cases ro
  cases ri
  cases rv
  have hroom : (nestedKind X.prog X.w).room X.A.in1 := by
    show X.A.units + 1 + 8 < cLine
    omega
  have none_ : atKey (ks.map (entB X.prog X.w)) (keyP p) = none := by
    rw [atKey_map, Option.map_eq_none_iff, List.find?_eq_none]
    intro k hk
    rw [decide_eq_true_eq]
    exact hn k hk
  refine wpAny_setItem_heap hroom (hp.key I) (nd_H I hd E K) (fun h' hm sb => ?_) (by rw [List.length_map, sizeLine_eq]; omega)
  rw [storedH_new none_] at hm
  obtain ⟨o', es', ep', ho', hx', hd', he', _, hnd⟩ := hm
  have E' : Ents X.prog X.w es' (ks ++ [(p, a, b)]) := by
    refine ⟨by rw [he']; simp [entB], ?_⟩
    rw [List.map_append]
    refine List.nodup_append.mpr ⟨E.2, by simp, fun x hx y hy e => ?_⟩
    obtain ⟨k, hk, rfl⟩ := List.mem_map.mp hx
    rw [List.map_singleton, List.mem_singleton] at hy
    exact hn k hk (e.trans hy)
  exact ⟨_, I.write (e := d) (t' := s.toks + (nestedKind X.prog X.w).draws (keyP p)) (by rw [hd]; trivial) (.inl rfl) (fun c z hc hz => (sb.2 c hc).trans hz) ⟨o', ho'⟩ (nd_new ⟨o', ho', hx', hd'⟩ (nd_at I hd).2), q es' ep' E'⟩
/-- p in d, p there -/
def rInND (P : Program) (w : World) : R2 := fun x y H Q => ∃ d es ep ks a k, y = .ref d ∧ H d = some (NDo d es ep) ∧ Ents P w es ks ∧ KeysIn H ks ∧ x = .ref a ∧ k ∈ ks ∧ RPg H (.ref a) k.1 ∧ Q (.bl true) H
theorem find_key {ks : List (List (Nat × Nat) × Addr × Addr)} (n : (ks.map (·.1)).Nodup) {k : List (Nat × Nat) × Addr × Addr} (hk : k ∈ ks) : (ks.find? fun x => decide (x.1 = k.1)) = some k := by
  induction ks with
  | nil => cases hk
  | cons a ks ih =>
    rw [List.map_cons] at n
    obtain ⟨n1, n2⟩ := List.nodup_cons.mp n
    rw [List.find?_cons]
    rcases List.mem_cons.mp hk with rfl | hk
    · simp
    · have : ¬ a.1 = k.1 := fun e => n1 (e ▸ List.mem_map.mpr ⟨k, hk, rfl⟩)
      rw [decide_eq_false this]
      exact ih n2 hk
theorem op_inND (hu : X.A.units + 9 < cLine) : OpR X (compareOp .In) (rInND X.prog X.w) := by
  intro pins s σ H x y v u Q I rx ry h
  obtain ⟨d, es, ep, ks, a, k, rfl, hd, E, K, rfl, hk, hp, q⟩ := h
  cases rx
  cases ry
  have hroom : (nestedKind X.prog X.w).room X.A.in1 := by
    show X.A.units + 1 + 8 < cLine
    omega
  refine wpAny_in_heap hroom (hp.key I) (nd_at I hd).2 (nd_H I hd E K) ?_
  rw [atKey_map, find_key E.2 hk]
  exact ⟨.bl true, H, I.tok _, rfl, q⟩
/-- d[p] -/
def rIxND (P : Program) (w : World) : R2 := fun x y H Q => ∃ d es ep ks a k, x = .ref d ∧ H d = some (NDo d es ep) ∧ Ents P w es ks ∧ KeysIn H ks ∧ y = .ref a ∧ k ∈ ks ∧ RPg H (.ref a) k.1 ∧ Q (.ref k.2.2) H
theorem ix_nd (hu : X.A.units + 9 < cLine) : IxR X (rIxND X.prog X.w) := by
  intro value slice pins s σ H x y v u Q I rx ry h hs
  obtain ⟨d, es, ep, ks, a, k, rfl, hd, E, K, rfl, hk, hp, q⟩ := h
  cases rx
  cases ry
  have hroom : (nestedKind X.prog X.w).room X.A.in1 := by
    show X.A.units + 1 + 8 < cLine
    omega
  refine subscriptTail_builtinR (x := .ref k.2.2) (nd_at I hd).1.typeIs slot_dict_getitem.lookup
    (wpAny_getItem_heap (Q := fun r s' => r = .ref k.2.2 ∧ EP X pins σ Q r s') hroom (hp.key I) (nd_H I hd E K) (p := (k.2.1, .ref k.2.2)) ?_ ⟨rfl, .ref k.2.2, H, I.tok _, rfl, q⟩) hs
  rw [atKey_map, find_key E.2 hk]; rfl
/-- len(d) -/
theorem call_lenND : CallR X (.builtin "len") (fun xs H Q => ∃ d es ep, xs = [V.ref d] ∧ H d = some (NDo d es ep) ∧ es.size ≤ 10000 ∧ Q (.int (es.size : Nat)) H) := by
  intro pins s σ H xs us Q I r h
  obtain ⟨d, es, ep, rfl, hd, hz, q⟩ := h
  obtain ⟨u, rfl, ru⟩ := vals1 r
  cases ru
  obtain ⟨hr, hn⟩ := nd_at I hd
  refine PyProof.Rows.call_len_slot (n := (es.size : Nat)) hr.typeIs F.slot_dict_len (fun Q' hq => call_len_raw hn hr hq) (by omega) (by omega) ?_
  exact ⟨.int (es.size : Nat), H, I.tok _, ⟨_, rfl⟩, q⟩
/-- isinstance(d, dict) -/
theorem call_isiND : CallR X (.builtin "isinstance") (fun xs H Q => ∃ d es ep, xs = [V.ref d, .ty "dict"] ∧ H d = some (NDo d es ep) ∧ Q (.bl true) H) := by
  intro pins s σ H xs us Q I r h
  obtain ⟨d, es, ep, rfl, hd, q⟩ := h
  obtain ⟨u1, u2, rfl, r1, r2⟩ := vals2 r
  cases r1
  cases r2
  obtain ⟨⟨o, ho, hx, _⟩, _⟩ := nd_at I hd
  exact PySem.W.kia_one PySem.W.kitx_dict I.kIn ⟨o, ho, hx.1⟩ (by rfl) (fun z => nomatch z) fun tk => ⟨.bl true, H, I.tok tk, rfl, q⟩
/-- for p in d: the keys' own tuples, in the order in which they were stored -/
def ItND (d : Addr) (es : Array DictEntry) (ep : Nat) : It where
  go := fun i H => H d = some (NDo d es ep) ∧ i < es.size
  yld := fun i H x H' => H' = H ∧ ∃ a, x = .ref a ∧ (es[i]?).map (·.key) = some (.ref a)
  stop := fun i H => H d = some (NDo d es ep) ∧ es.size ≤ i
theorem turn_nd {P : Program} {w : World} {K : PySem.W.Frag} {tg : Expr} {d : Addr} {es : Array DictEntry} {ep : Nat} (hr : ∀ e ∈ es.toList, ∃ a, e.key = .ref a) (it : Addr) :
    Turn P w K tg (ItND d es ep) [it] it (fun i h => h.IsKeyIter it d i es.size ep) where
  mem := List.mem_cons_self
  obj := fun i h st b hb => by
    rw [List.mem_singleton.mp hb]
    obtain ⟨o, ho, hc, hd⟩ := st
    exact ⟨o, ho, fun v z => by rw [hd] at z; cases z⟩
  keep := fun i h h' st k => st.at fun o e => k it List.mem_cons_self o e
  self := fun A i s Q E st h => wpAny_pyIter_keyiter st h
  item := by
    intro X hP hw hK hc i pins s σ H E I hf st hg
    subst hP hw hK
    obtain ⟨hd, hi⟩ := hg
    obtain ⟨f0, f1, f2, f3, f4, f5⟩ := hf it List.mem_cons_self
    obtain ⟨a, ha⟩ := hr es[i] (by simp)
    refine wpAny_pyNext_keys_item_raw st (nd_at I hd).1 hi fun h' st' sb => ⟨_, rfl, ?_⟩
    obtain ⟨o, ho, hcl, hdt⟩ := id st'
    refine go_of (s := { s with heap := h' }) (n := "dict_keyiterator") ho hcl hdt (by decide) ⟨.ref a, H, I.turned (t' := s.toks) (fun b o hb e => (sb.2 b hb).trans e) f0 f1 f3 f4 f5, ha, ⟨rfl, a, rfl, ?_⟩, st', fun b hb => (hf b hb).1⟩
    rw [Array.getElem?_eq_getElem hi]
    show some es[i].key = some (Value.ref a)
    rw [ha]
  done := by
    intro X hP hw hK hc i pins s σ H E I hf st hg
    subst hP hw hK
    obtain ⟨hd, hi⟩ := hg
    obtain ⟨f0, f1, f2, f3, f4, f5⟩ := hf it List.mem_cons_self
    exact wpAny_pyNext_keys_end_raw (I.ok.hd hc) st (nd_at I hd).1 hi fun h' eb => ⟨rfl, I.turned (t' := s.toks) (fun b o hb e => eb b o hb e) f0 f1 f3 f4 f5⟩
def iND (P : Program) (w : World) (te : TE) : TI := fun σ H R => te σ H fun v H1 => ∃ d es ep ks, v = .ref d ∧ H1 d = some (NDo d es ep) ∧ Ents P w es ks ∧ R (ItND d es ep) H1
theorem ents_key {P : Program} {w : World} {es : Array DictEntry} {ks : List (List (Nat × Nat) × Addr × Addr)} (E : Ents P w es ks) (i : Nat) : (es[i]?).map (·.key) = (ks[i]?).map fun k => Value.ref k.2.1 := by
  rw [← Array.getElem?_toList, E.1, List.getElem?_map, List.getElem?_map]
  cases ks[i]? <;> rfl
theorem ents_size {P : Program} {w : World} {es : Array DictEntry} {ks : List (List (Nat × Nat) × Addr × Addr)} (E : Ents P w es ks) : es.size = ks.length := by
  rw [← Array.length_toList, E.1, List.length_map, List.length_map]
theorem pi_nd {tg e : Expr} {te : TE} (he : PE X e te) : PI X tg e (iND X.prog X.w te) := by
  refine ⟨fun pins s σ H R I h => ?_⟩
  refine thn (he.run pins s σ H _ I h) fun u s1 ⟨x, H1, I1, rx, d, es, ep, ks, ex, hd, E, q⟩ => ?_
  subst ex
  cases rx
  obtain ⟨hr, hn⟩ := nd_at I1 hd
  refine wpAny_pyIter_dict_raw hn hr (pi_one (tk := s1.toks) I1 _ (turn_nd (fun e he => ?_) _) ⟨_, Heap.get?_push_size _ rfl, rfl, rfl⟩ q)
  rw [E.1] at he
  obtain ⟨y, hy, rfl⟩ := List.mem_map.mp he
  obtain ⟨k, _, rfl⟩ := List.mem_map.mp hy
  exact ⟨k.2.1, rfl⟩
theorem walk_nd {P : Program} {w : World} {d : Addr} {es : Array DictEntry} {ep : Nat} {ks : List (List (Nat × Nat) × Addr × Addr)} (E : Ents P w es ks) :
    Walk (ItND d es ep) ks.length (fun H => H d = some (NDo d es ep)) (fun i H x H' => H' = H ∧ ∃ k, ks[i]? = some k ∧ x = .ref k.2.1) := by
  have hz := ents_size E
  refine ⟨fun i H hi q => ⟨q, by omega⟩, fun H q => ⟨q, by omega⟩, fun i H x H' hi q ⟨e, a, ex, ea⟩ => ⟨e, ?_⟩⟩
  rw [ents_key E, List.getElem?_eq_getElem hi] at ea
  exact ⟨ks[i], List.getElem?_eq_getElem hi, by rw [ex]; injection ea with ea; injection ea with ea; rw [ea]⟩
end
end Ug

/-! a set of texts that is made by a comprehension and sorted -/
namespace Ug
open PySem PySem.Spec PyProof.Rows L2

def strOf (e : Int × Value) : Str := match e.2 with
  | .str x _ => x
  | _ => Str.empty
def TxtE (w : World) (e : Int × Value) : Prop := ∃ x tk, e = (hashStr w x, Value.str x tk)
/-- the table of a set: sound, and walked from the first slot on -/
structure TabOk (w : World) (es : Array (Int × Value)) (t : SetTable) : Prop where
  few : es.size < scanBound
  fit : t.fits es.size = true
  ris : Ris t.place.toList
  led : w.params.followText "set-order" = true ∨ t.led = true
/-- the texts xs, each once, make up the set at a -/
def SetS (w : World) (h : Heap) (a : Addr) (xs : List Str) : Prop :=
  ∃ o es ep t, h.get? a = some o ∧ o.ExactSet ∧ o.data = .set es ep t ∧ (∀ e ∈ es.toList, TxtE w e) ∧ (es.toList.map strOf).Perm xs ∧ xs.Nodup ∧ TabOk w es t
def insS (xs : List Str) (x : Str) : List Str := if x ∈ xs then xs else xs ++ [x]
section
variable {P : Program} {w : World} {A : Around} {E : Value → Shared → Prop} {s : Shared} {a : Addr} {xs : List Str}
theorem TxtE.is {e : Int × Value} (t : TxtE w e) (x : Str) : (strKind P w).is x e.2 = true ↔ strOf e = x := by
  obtain ⟨y, tk, rfl⟩ := t
  constructor
  · intro h
    obtain ⟨t, q⟩ := Value.isStrOf_shape (x := x) (v := .str y tk) h
    injection q with q1 _
  · rintro rfl
    exact strKind_is P w _ tk
theorem elems_txt {es : List (Int × Value)} (g : ∀ e ∈ es, TxtE w e) : ElemsOf (strKind P w) es := fun e he => by
  obtain ⟨x, tk, rfl⟩ := g e he
  exact ⟨⟨x, strKind_is P w x tk, rfl⟩, rfl⟩
theorem SetS.typeIs (h : SetS w s.heap a xs) : s.TypeIs (.ref a) "set" := let ⟨o, _, _, _, ho, hx, _⟩ := h; ⟨o, ho, hx.1⟩
/-- what is left behind the new entry is laid: it is stored, the table grows where it must -/
theorem lay_end {g : Bool → Sem Unit} (hg : ∀ (b : Bool) (s₁ : Shared) (Q' : Unit → Shared → Prop), Q' () s₁ → wpAny (model P w) A (g b) Q' E s₁) {o : Obj} {es es1 : Array (Int × Value)} {ep : Nat} {t t1 : SetTable} {wd : Bool} {R : Option Bool → Shared → Prop}
    (ho : s.heap.get? a = some o) (hx : o.ExactSet) (hd : o.data = .set es ep t) (g1 : ∀ e ∈ es1.toList, TxtE w e) (p1 : (es1.toList.map strOf).Perm xs) (n1 : xs.Nodup) (T : TabOk w es1 t1)
    (hR : ∀ h', Heap.SameBut a s.heap h' → SetS w h' a xs → R (some true) { s with heap := h' }) :
    wpAny (model P w) A (do
      storeSet a es1 t1
      if (!wd && t1.tooFull) = true then do
        g (relayAll t1 es1 (SetTable.grown es1.size)).2.2
        storeSet a (relayAll t1 es1 (SetTable.grown es1.size)).1 (relayAll t1 es1 (SetTable.grown es1.size)).2.1
        pure (some true)
      else pure (some true)) R E s := by
  have o1 := store_at (es' := es1) (t' := t1) ho hd
  have sb := Heap.SameBut.update s.heap a (Obj.putSet es1 t1)
  refine wpAny_bind (wpAny_storeSet_of ho hd ?_ (fits_of_scanBound T.few))
  by_cases hc : (!wd && t1.tooFull) = true
  · rw [if_pos hc]
    have pm := relayAll_perm t1 es1 (SetTable.grown es1.size)
    have ff := relayAll_fits t1 es1 (SetTable.grown es1.size)
    have rr := relayAll_ris t1 es1 (SetTable.grown es1.size)
    have ll := relayAll_led t1 es1 (SetTable.grown es1.size)
    cases hZ : relayAll t1 es1 (SetTable.grown es1.size) with
    | mk es2 Z =>
      obtain ⟨t2, gave⟩ := Z
      rw [hZ] at pm ff rr ll
      dsimp only at pm ff rr ll ⊢
      have z : es2.size = es1.size := by rw [← Array.length_toList, pm.length_eq, Array.length_toList]
      have T2 : TabOk w es2 t2 := ⟨by rw [z]; exact T.few, ff, rr, T.led.imp id fun q => by rw [ll]; exact q⟩
      refine wpAny_bind (hg _ _ _ (wpAny_bind (wpAny_storeSet_of o1 rfl ?_ (fits_of_scanBound T2.few))))
      exact wpAny_pure (hR _ (sb.trans (Heap.SameBut.update _ a _)) ⟨_, es2, _, t2, store_at (es' := es2) (t' := t2) o1 rfl, hx, rfl, fun e he => g1 e (pm.mem_iff.mp he), (pm.map strOf).trans p1, n1, T2⟩)
  · rw [if_neg hc]
    exact wpAny_pure (hR _ sb ⟨_, es1, _, t1, o1, hx, rfl, g1, p1, n1, T⟩)
theorem setS_hashed {x : Str} {tk : Tok} {Q : Bool → Shared → Prop} (h : SetS w s.heap a xs) (room : xs.length + 1 < scanBound) (hQ : ∀ h' b, Heap.SameBut a s.heap h' → SetS w h' a (insS xs x) → Q b { s with heap := h' }) :
    wpAny (model P w) A (setAddHashed a (.str x tk) ((strKind P w).hash x)) Q E s := by
  obtain ⟨o, es, ep, t, ho, hx, hd, g, pm, nd, T⟩ := h
  have is0 : (strKind P w).is x (.str x tk) = true := strKind_is P w x tk
  have scn : (Value.str x tk).scannable = true := rfl
  have els : ElemsOf (strKind P w) es.toList := elems_txt g
  unfold setAddHashed setAddHashedIn
  refine wpAny_holding (wpAny_bind (wpAny_setState_of ho hd T.fit ?_))
  dsimp only
  rw [byScan_of scn T.few els]
  simp only [↓reduceIte]
  unfold setAddByScan
  refine wpAny_bind (wpAny_bind (wpAny_rule (wpAny_bind (wpAny_setScan_of is0 ho hd T.fit els ?_))))
  cases hf : List.findIdx? (fun e => (strKind P w).is x e.2) es.toList with
  | some j =>
    dsimp only
    obtain ⟨hj, pj, _⟩ := List.findIdx?_eq_some_iff_getElem.mp hf
    have hm : x ∈ xs := pm.mem_iff.mp (List.mem_map.mpr ⟨es.toList[j], List.getElem_mem hj, ((g _ (List.getElem_mem hj)).is x).mp pj⟩)
    refine wpAny_pure (wpAny_pure (hQ s.heap _ (Heap.SameBut.refl a s.heap) ?_))
    unfold insS
    rw [if_pos hm]
    exact ⟨o, es, ep, t, ho, hx, hd, g, pm, nd, T⟩
  | none =>
    dsimp only
    have hm : x ∉ xs := fun z => by
      obtain ⟨e, he, q⟩ := List.mem_map.mp (pm.mem_iff.mpr z)
      have c := List.findIdx?_eq_none_iff.mp hf e he
      rw [((g e he).is x).mpr q] at c
      cases c
    have way : ∀ (b : Bool) {s₁ : Shared} {Q' : Unit → Shared → Prop}, Q' () s₁ → wpAny (model P w) A (match b with | true => rule "set.scan.the-table-gave-way" | false => pure ()) Q' E s₁ := fun b s₁ Q' q => by
      cases b
      · exact wpAny_pure q
      · exact wpAny_rule q
    have p1 := layNew_perm t es ((strKind P w).hash x) (.str x tk)
    have f1 := layNew_fits t es ((strKind P w).hash x) (.str x tk)
    have r1 := layNew_ris t es ((strKind P w).hash x) (.str x tk) T.ris
    have l1 := layNew_led t es ((strKind P w).hash x) (.str x tk)
    cases hZ : layNew t es ((strKind P w).hash x) (.str x tk) with
    | mk es1 Z =>
      obtain ⟨t1, wd, gave⟩ := Z
      rw [hZ] at p1 f1 r1 l1
      dsimp only at p1 f1 r1 l1 ⊢
      rw [Array.toList_push] at p1
      have pc : (es1.toList.map strOf).Perm (insS xs x) := by
        unfold insS
        rw [if_neg hm]
        have q := p1.map strOf
        rw [List.map_append] at q
        exact q.trans (pm.append_right _)
      have g1 : ∀ e ∈ es1.toList, TxtE w e := fun e he => by
        rcases List.mem_append.mp (p1.mem_iff.mp he) with z | z
        · exact g e z
        · rw [List.mem_singleton.mp z]; exact ⟨x, tk, rfl⟩
      have n1 : (insS xs x).Nodup := by
        unfold insS
        rw [if_neg hm]
        refine List.nodup_append.mpr ⟨nd, by simp, fun y hy z hz e => ?_⟩
        rw [List.mem_singleton.mp hz] at e
        exact hm (e ▸ hy)
      have zz : es.size = xs.length := by rw [← Array.length_toList, ← List.length_map (f := strOf), pm.length_eq]
      have z1 : es1.size = es.size + 1 := by rw [← Array.length_toList, p1.length_eq, List.length_append, Array.length_toList]; rfl
      have T1 : TabOk w es1 t1 := ⟨by rw [z1, zz]; exact room, f1, r1, T.led.imp id fun q => by rw [l1]; exact q⟩
      refine wpAny_bind (way _ ?_)
      split
      · refine wpAny_bind ?_
        rw [hashByValue_scannable 8 scn]
        refine wpAny_pure ?_
        refine lay_end ?_ ho hx hd g1 pc n1 ⟨T1.few, ?_, ?_, ?_⟩ ?_
        · intro b s₁ Q' q
          cases b
          · exact wpAny_pure q
          · exact wpAny_rule q
        · first | (split <;> first | exact f1 | exact SetTable.fits_plain_off f1) | exact f1
        · first | (split <;> exact r1) | exact r1
        · first | (split <;> exact T1.led) | exact T1.led
        · intro h' sb r
          dsimp only
          exact wpAny_pure (hQ h' _ sb r)
      · refine wpAny_bind (wpAny_pure ?_)
        simp only [↓reduceIte]
        refine lay_end ?_ ho hx hd g1 pc n1 T1 ?_
        · intro b s₁ Q' q
          cases b
          · exact wpAny_pure q
          · exact wpAny_rule q
        · intro h' sb r
          dsimp only
          exact wpAny_pure (hQ h' _ sb r)
/-- a.add(x) -/
theorem setS_add {x : Str} {tk : Tok} {Q : Value → Shared → Prop} (h : SetS w s.heap a xs) (room : xs.length + 1 < scanBound) (hQ : ∀ h' t', Heap.SameBut a s.heap h' → SetS w h' a (insS xs x) → Q .none { s with heap := h', toks := t' }) :
    wpAny (model P w) A (call (.builtin "set.add") [.ref a, .str x tk]) Q E s := by
  refine wpAny_call_entry F.slot_set_add h.typeIs F.entry_set_add ?_ (F.args_set_add_2 _ _)
  unfold Builtin.«set.add» Builtin.Frozenset.oneOther
  simp only [List.isEmpty_nil, bind_assoc]
  unfold Builtin.Frozenset.addrOf setAdd
  refine wpAny_bind (wpAny_pure ?_)
  try dsimp only
  refine wpAny_bind (wpAny_pure ?_)
  try dsimp only
  refine wpAny_bind (wpAny_holding (wpAny_bind ((strKind P w).pyHash (strKind_is P w x tk) ?_)))
  refine setS_hashed (s := { s with toks := s.toks + 1 }) h room fun h' b sb r => ?_
  show wpAny _ _ (ret Value.none) _ _ _
  exact wpAny_pure ⟨_, rfl, hQ h' _ sb r⟩
theorem setS_fresh (h : Heap) (w : World) : SetS w (h.push { cls := .type "set", dict := none, data := .set #[] 0 (.fresh 0 0 (!w.params.followText "set-order")) }) h.objs.size [] := by
  refine ⟨_, #[], 0, _, Heap.get?_push_size _ rfl, ⟨rfl, rfl, rfl⟩, rfl, (fun e he => by simp at he), (by simp), List.nodup_nil, ⟨by decide, by rfl, List.Pairwise.nil, ?_⟩⟩
  show _ ∨ (!w.params.followText "set-order") = true
  cases w.params.followText "set-order" <;> simp
/-- sorted(v) of whatever is gathered into values of which G is known -/
theorem sorted_from {v : Value} {G : List Value → Prop} {κ : Heap → List Value → PyProof.Rows.KeyKind} {Q : Value → Shared → Prop} (hG : ∀ vs, G vs → vs.length ≤ sizeLine)
    (C : ∀ (E : Value → Shared → Prop) (Q : List Value → Shared → Prop), (∀ s1 vs, (∀ b o, s.heap.get? b = some o → s1.heap.get? b = some o) → s1.gens = s.gens → s1.os = s.os → G vs → Q vs s1) → wpAny (model P w) A.in1 (collect v) Q E s)
    (S : ∀ (s2 : Shared) vs, G vs → PySem.W.SortsAt P w A.in1.in1 s2 (κ s2.heap vs) vs)
    (h : ∀ (s1 : Shared) (h' h2 : Heap) (vs : List Value) (c : Nat), (∀ b o, s.heap.get? b = some o → s1.heap.get? b = some o) → s1.gens = s.gens → s1.os = s.os → G vs → (∀ b o, s1.heap.get? b = some o → h'.get? b = some o) →
      h'.get? s1.heap.objs.size = some (seqObj "list" (PySem.W.sortVals (κ h2 vs) false vs vs).toArray c) → Q (.ref s1.heap.objs.size) { s1 with heap := h' }) :
    wpAny (model P w) A (call (.builtin "sorted") [v]) Q E s := by
  refine Calls.call_function_entry kind_sorted plain_sorted entry_sorted (args_sorted1 _) ?_
  unfold Builtin.«sorted»
  refine wpAny_bind (m := checkCount "sorted" 1 1 _) (wpAny_pure ?_)
  refine wpAny_bind (C _ _ fun s1 vs k1 g1 o1 hv => ?_)
  have hL := hG vs hv
  refine wpAny_bind (wpAny_newList ?_ hL)
  have ho : (s1.heap.push (seqObj "list" vs.toArray 0)).get? s1.heap.objs.size = some (seqObj "list" vs.toArray 0) := Heap.get?_push_size _ rfl
  have S2 := S { s1 with heap := PySem.W.sortingHeap (s1.heap.push (seqObj "list" vs.toArray 0)) s1.heap.objs.size vs } vs hv
  obtain ⟨c, hc⟩ := sortedHeap_at (vs := vs) (out := (PySem.W.sortVals (κ (PySem.W.sortingHeap (s1.heap.push (seqObj "list" vs.toArray 0)) s1.heap.objs.size vs) vs) false vs vs).toArray) ho
  refine wpAny_bind (wpAny_holding (wpAny_call_entry slot_list_sort ⟨_, ho, rfl⟩ entry_list_sort (PySem.W.list_sort_vals (s := { s1 with heap := s1.heap.push (seqObj "list" vs.toArray 0) }) ho S2 hL ⟨_, rfl, ?_⟩) (args_list_sort _)))
  refine wpAny_pure ⟨_, rfl, h s1 _ _ vs c k1 g1 o1 hv (fun b o e => ?_) hc⟩
  have hlt := Heap.lt_size e
  show (sortedHeap (s1.heap.push (seqObj "list" vs.toArray 0)) s1.heap.objs.size vs _).get? b = some o
  rw [sortedHeap_old (Nat.ne_of_lt hlt) (by rw [size_push']; exact Nat.lt_succ_of_lt hlt)]
  exact Heap.get?_push_of_some _ e
end
/-- the set at a -/
def SetSO (w : World) (a : Addr) (xs : List Str) : HO := .ext fun h => SetS w h a xs
theorem SetS.at {w : World} {h h' : Heap} {a : Addr} {xs : List Str} (R : SetS w h a xs) (k : ∀ o, h.get? a = some o → h'.get? a = some o) : SetS w h' a xs := let ⟨o, es, ep, t, ho, r⟩ := R; ⟨o, es, ep, t, k o ho, r⟩
theorem setSO_new {P : Program} {w : World} {H : Hp} {h : Heap} {a : Addr} {xs : List Str} (R : SetS w h a xs) : ObjOk P w H h a (SetSO w a xs) := ⟨R, (let ⟨o, _, _, _, ho, _⟩ := R; ⟨o, ho⟩), fun _ _ p k => p.at k⟩
section
variable {X : Cx} {pins : List (Addr × Obj)} {σ : L2.St} {H : Hp} {s : Shared}
theorem setSO_get (I : Inv X pins σ H s) {a : Addr} {xs : List Str} (e : H a = some (SetSO X.w a xs)) : SetS X.w s.heap a xs := (I.hok a _ e).1
theorem addS_ok {E : Value → Shared → Prop} {D : Addr} {xs : List Str} {x : Str} {v : Value} {Q : Value → Shared → Prop} (I : Inv X pins σ H s) (hD : H D = some (SetSO X.w D xs)) (hz : xs.length ≤ 1000) (r : RelV (.str x) v)
    (h : ∀ s', Inv X pins σ (upd H D (SetSO X.w D (insS xs x))) s' → Q .none s') : wpAny (model X.prog X.w) X.A (call (.builtin "set.add") [.ref D, v]) Q E s := by
  obtain ⟨t, rfl⟩ := r
  refine setS_add (setSO_get I hD) (Nat.lt_of_le_of_lt (Nat.add_le_add_right hz 1) (by decide)) fun h' t' sb new => h _ ?_
  exact I.write (e := D) (t' := t') (by rw [hD]; trivial) (.inl rfl) (fun b u hb hu => (sb.2 b hb).trans hu) (let ⟨o, _, _, _, ho, _⟩ := new; ⟨o, ho⟩) (setSO_new new)
/-- sorted(set of texts) -/
def rSortS (w : World) : List V → Hp → VK → Prop := fun vs H Q => ∃ (a : Addr) (xs : List Str), vs = [.ref a] ∧ H a = some (SetSO w a xs) ∧ xs.length ≤ 1000 ∧ ∀ (ys : List Str) (p : Addr), ys.Perm xs → H p = none → Q (.ref p) (upd H p (.lst (ys.map V.str)))
theorem cr_sortS (hc : X.calm = true) (hu : X.A.units + 3 < cLine) : CallR X (.builtin "sorted") (rSortS X.w) := by
  intro pins s σ H vs us Q I r h
  obtain ⟨a, xs, rfl, hs, hz, q⟩ := h
  obtain ⟨u, rfl, ru⟩ := vals1 r
  cases ru
  obtain ⟨o, es, ep, t, ho, hx, hd, g, pm, nd, T⟩ := setSO_get I hs
  let R : V → Str → Prop := fun v x => v = .str x
  have back : ∀ {l : List (Int × Value)}, (∀ e ∈ l, TxtE X.w e) → PySem.W.EachIs (StV R) (l.map (·.2)) (l.map strOf) := by
    intro l
    induction l with
    | nil => intro _; exact .nil
    | cons e l ih =>
      intro gl
      obtain ⟨x, tk, rfl⟩ := gl e List.mem_cons_self
      exact .cons ⟨.str x, ⟨tk, rfl⟩, rfl⟩ (ih fun y hy => gl y (List.mem_cons_of_mem _ hy))
  have perm_each : ∀ {vs us : List Value}, vs.Perm us → ∀ {ss : List Str}, PySem.W.EachIs (StV R) us ss → ∃ ts, ts.Perm ss ∧ PySem.W.EachIs (StV R) vs ts := by
    intro vs us p
    induction p with
    | nil => intro ss h; cases h; exact ⟨[], List.Perm.refl _, .nil⟩
    | cons x _ ih =>
      intro ss h
      cases h with
      | cons h1 h2 =>
        obtain ⟨ts, a, b⟩ := ih h2
        exact ⟨_ :: ts, a.cons _, .cons h1 b⟩
    | swap x y l =>
      intro ss h
      cases h with
      | cons h1 h2 =>
        cases h2 with
        | cons h3 h4 => exact ⟨_, List.Perm.swap _ _ _, .cons h3 (.cons h1 h4)⟩
    | trans _ _ i1 i2 =>
      intro ss h
      obtain ⟨ts, a, b⟩ := i2 h
      obtain ⟨rs, c, d⟩ := i1 b
      exact ⟨rs, c.trans a, d⟩
  let G : List Value → Prop := fun vs => ∃ ss : List Str, ss.Perm xs ∧ PySem.W.EachIs (StV R) vs ss
  have reads : ∀ (h' : Heap) {vs : List Value} {ss : List Str}, PySem.W.EachIs (StV R) vs ss → PySem.W.EachIs (fun u b => ∃ as, Reads h' u (.str b) as) vs ss := fun h' {vs ss} e => e.mono fun u b ⟨x, r1, r2⟩ => by
    cases r2
    obtain ⟨tk, rfl⟩ := r1
    exact ⟨_, Reads.str b tk⟩
  have alk : ∀ ss : List Str, PySem.W.AllAlike (ss.map PyData.str) := fun ss => PySem.W.AllAlike.of fun b b' => by simp [PySem.W.alike]
  refine sorted_from (G := G) (κ := fun h' vs => open Classical in if e : G vs then PySem.W.dataKind h' (e.choose.map PyData.str) else PySem.W.dataKind h' []) (fun vs ⟨ss, a, b⟩ => by rw [b.length, a.length_eq, sizeLine_eq]; omega)
    (fun E Q k => ?_) (fun s2 vs hv => ?_) fun s1 h' h2 vs c k1 g1 o1 hv k2 hc' => ?_
  · refine collect_set (A := X.A.in1) (I.ok.hd hc) ⟨o, ho, hx.1, hd⟩ T.fit T.few T.ris T.led fun s' out k1 _ g1 o1 p => ?_
    obtain ⟨ts, a, b⟩ := perm_each p (back g)
    exact k s' out k1 g1 o1 ⟨ts, a.trans pm, b⟩
  · rw [dif_pos hv]
    have hv' := hv.choose_spec
    refine PySem.W.SortsAt.data (PySem.W.each_map (R := fun u d => ∃ as, Reads s2.heap u d as) PyData.str (reads s2.heap hv'.2)) (alk _) (.inr fun d hd => ?_) fun d hd => ?_
    · obtain ⟨b, _, rfl⟩ := List.mem_map.mp hd
      exact ⟨(fun z => nomatch z), fun xs z => nomatch z⟩
    · obtain ⟨b, _, rfl⟩ := List.mem_map.mp hd
      have e2 : X.A.in1.in1.units = X.A.units + 2 := rfl
      have : (PyData.str b).depth = 0 := by simp [PyData.depth]
      omega
  · rw [dif_pos hv] at hc'
    have hv' := hv.choose_spec
    have es := PySem.W.sortVals_data (R := StV R) (h' := h2) false hv'.2 (reads h2 hv'.2) (alk _)
    obtain ⟨ys, ry, rR⟩ := of_each es
    have ey : ys = (hv.choose.mergeSort (PySem.W.dataLe false PyData.str)).map V.str := by
      generalize hv.choose.mergeSort (PySem.W.dataLe false PyData.str) = l at rR
      clear ry es hc'
      induction rR with
      | nil => rfl
      | cons h _ ih => rw [List.map_cons, ← ih, h]
    subst ey
    have I1 : Inv X pins σ H s1 := I.call' (ch := []) o1 (Un.kept k1) (I.hok.kept k1) (by rw [g1]; exact I.bare) (fun _ z => nomatch z)
    have hl : ((hv.choose.mergeSort (PySem.W.dataLe false PyData.str)).map V.str).length ≤ sizeLine := by
      rw [List.length_map, List.length_mergeSort, hv'.1.length_eq, sizeLine_eq]; omega
    exact ⟨.ref s1.heap.objs.size, _, I1.laid (o := .lst ((hv.choose.mergeSort (PySem.W.dataLe false PyData.str)).map V.str)) (t' := s1.toks) k2 (Nat.le_refl _) ⟨hl, _, c, ry, hc'⟩, rfl, q _ _ ((List.mergeSort_perm _ _).trans hv'.1) (I1.hok.fresh (Nat.le_refl _))⟩
/-! ### {elt for target in iter}, elt a text -/
def tScS (w : World) (wi : TI) (g : TG) (te : TE) (vs : List Nat) : TE := fun σ H Q => wi σ H fun J H1 => ∀ D, H1 D = none → ∃ W : Nat → Nat → Hp → Prop, (∃ m, W 0 m (upd H1 D (SetSO w D []))) ∧ ∀ i m H, W i m H →
  (J.stop i H ∧ Q (.ref D) H) ∨ (J.go i H ∧ ∃ Nx : Hp → Prop, (∀ H', Nx H' → ∃ m', m' < m ∧ W (i + 1) m' H') ∧ ∀ x H', J.yld i H x H' → g x (wipe σ vs) H' fun σ2 H2 => wipe σ2 vs = wipe σ vs ∧
    te σ2 H2 fun y H4 => ∃ (c : Str) (xs : List Str), y = .str c ∧ H4 D = some (SetSO w D xs) ∧ xs.length ≤ 1000 ∧ Nx (upd H4 D (SetSO w D (insS xs c))))
/-- what the block's start leaves, the new set at D tracked -/
theorem scS_start {s2 s3 : Shared} {H2 : Hp} {fp : List Addr} {scope : Scope} {own : List (Str × Nat)} (hs : s3 = { s2 with heap := s2.heap.push { cls := .type "set", dict := none, data := .set #[] 0 (.fresh 0 0 (!X.w.params.followText "set-order")) } })
    (I2 : Inv X pins σ H2 s2) (hN : X.N.Nodup) (ok : BlkOk X.N X.env.scope scope own) (f2 : ∀ b ∈ fp, FpOk X pins H2 b) (lt : ∀ b ∈ fp, b < s2.heap.objs.size) :
    Inv X pins σ (upd H2 s2.heap.objs.size (SetSO X.w s2.heap.objs.size [])) s3 ∧ ∀ b ∈ fp, FpOk X pins (upd H2 s2.heap.objs.size (SetSO X.w s2.heap.objs.size [])) b ∧ b < s3.heap.objs.size := by
  subst hs
  refine ⟨I2.laid (t' := s2.toks) (fun b o e => Heap.get?_push_of_some _ e) (Nat.le_refl _) (setSO_new (setS_fresh s2.heap X.w)), fun b hb => ⟨⟨?_, (f2 b hb).2⟩, ?_⟩⟩
  · rw [upd_ne (Nat.ne_of_lt (lt b hb))]
    exact (f2 b hb).1
  · show b < (s2.heap.push _).objs.size
    rw [Heap.size_push]
    exact Nat.lt_succ_of_lt (lt b hb)
/-- the loop over the block, from its first turn on -/
theorem scS_loop {elt tg iter : Expr} {scope : Scope} {pos : Pos} {s3 s4 : Shared} {H3 : Hp} {fp : List Addr} {it D : Addr} {ce : Env} {tn : Nat → Heap → Prop} {J : It} {g : TG} {te : TE} {vs : List Nat} {W : Nat → Nat → Hp → Prop} {m0 : Nat} {Qd : Hp → Prop} {R : Result → Shared → Prop}
    (hc : X.calm = true) (I3 : Inv X pins σ H3 s3) (f3 : ∀ b ∈ fp, FpOk X pins H3 b ∧ b < s3.heap.objs.size) (hL : s3.heap.objs.size ≤ ce.locals) (I4 : Inv (X.blk s3 H3 scope ce fp) [] (wipe σ vs) H3 s4) (T : Turn X.prog X.w X.K tg J fp it tn) (st4 : tn 0 s4.heap)
    (pg : PG (X.blk s3 H3 scope ce fp) tg g) (pe : PE (X.blk s3 H3 scope ce fp) elt te) (w0 : W 0 m0 H3)
    (turn : ∀ i m H, W i m H → (J.stop i H ∧ Qd H) ∨ (J.go i H ∧ ∃ Nx : Hp → Prop, (∀ H', Nx H' → ∃ m', m' < m ∧ W (i + 1) m' H') ∧ ∀ x H', J.yld i H x H' → g x (wipe σ vs) H' fun σ2 H2 => wipe σ2 vs = wipe σ vs ∧
      te σ2 H2 fun y H4 => ∃ (c : Str) (xs : List Str), y = .str c ∧ H4 D = some (SetSO X.w D xs) ∧ xs.length ≤ 1000 ∧ Nx (upd H4 D (SetSO X.w D (insS xs c)))))
    (fin : ∀ (s' : Shared) (m : Str → Option Value) (H' : Hp), Inv X pins σ H' s' → Qd H' → s'.heap.Ns ce.locals m → FpOk X pins H' ce.locals → R (.ok .next) s') :
    codeAny (model X.prog X.w) X.A (.compLoop (.SetComp elt [⟨tg, iter, [], 0⟩] scope pos) 0 (.ref it) (.ref D) ce) R s4 := by
  -- the records that are walked are still ours
  have mine : ∀ {σ' : L2.St} {H' : Hp} {s' : Shared}, Inv (X.blk s3 H3 scope ce fp) [] σ' H' s' → (∀ b ∈ fp, H' b = none) → ∀ b ∈ fp, FpOk (X.blk s3 H3 scope ce fp) [] H' b := fun {σ' H' s'} I' hn b hb =>
    ⟨hn b hb, (I'.ok.exf b hb).1, I'.ok.exfs b hb, .inl hb, fun x c e => (I'.ok.exf b hb).2 x c e, fun p hp => absurd (show p ∈ ([] : List (Addr × Obj)) ++ [] from hp) (by simp)⟩
  refine PpSet.compLoopS_any (fun n s' => ∃ i H', Inv (X.blk s3 H3 scope ce fp) [] (wipe σ vs) H' s' ∧ tn i s'.heap ∧ (∀ b ∈ fp, H' b = none) ∧ W i n H') (fun n s5 hI => ?_) m0 ⟨0, H3, I4, st4, fun b hb => (f3 b hb).1.1, w0⟩
  obtain ⟨i, H5, I5, st5, n5, w5⟩ := hI
  rcases turn i n H5 w5 with ⟨stop, qq⟩ | ⟨go, Nx, hNx, step⟩
  · refine thnF (T.done (X.blk s3 H3 scope ce fp) rfl rfl rfl hc i [] s5 _ H5 (fun _ _ => False) I5 (mine I5 n5) st5 stop) fun r s6 ⟨hr, I6⟩ => ?_
    subst hr
    have I7 : Inv X pins σ H5 s6 := I3.call' (ch := fp) I6.os I6.base I6.hok I6.bare fun b hb => let z := (f3 b hb).1; ⟨z.2.2.2.1, z.2.1, z.2.2.2.2.1, z.2.2.2.2.2⟩
    obtain ⟨m, hn, _⟩ := I6.loc
    exact fin s6 m H5 I7 qq hn (I3.fpOk hL I6.free)
  · refine thnF (T.item (X.blk s3 H3 scope ce fp) rfl rfl rfl hc i [] s5 _ H5 (fun _ _ => False) I5 (mine I5 n5) st5 go) fun r s6 ⟨u, hr, h6⟩ => ?_
    subst hr
    refine thnF h6 fun _ s7 ⟨x, H7, I7, r7, y7, st7, n7⟩ => ?_
    have I8 := I7.pinned (mine I7 n7) (T.obj _ _ st7)
    refine thnF (pg.run _ s7 _ H7 x u _ I8 r7 (step x H7 y7)) fun _ s8 ⟨σ8, H8, I9, hw8, q8⟩ => ?_
    refine wpAny_tests_nil ?_
    simp only [if_true]
    refine thnF (pe.run _ s8 σ8 H8 _ I9 q8) fun z s9 ⟨y, H9, I10, ry, c, xs, ey, hD, hz, nx⟩ => ?_
    subst ey
    refine addS_ok (X := X.blk s3 H3 scope ce fp) I10 hD hz ry fun s10 I11 => ?_
    obtain ⟨m', hm, w'⟩ := hNx _ nx
    have pin : ∀ b ∈ fp, ∀ o, s7.heap.get? b = some o → s10.heap.get? b = some o ∧ (upd H9 D (SetSO X.w D (insS xs c))) b = none := fun b hb o e =>
      let z := I11.pin (b, o) (List.mem_append_right _ (List.mem_append_right _ (mem_pinsAt hb e)))
      ⟨z.1, z.2.1⟩
    have hl : (wipe σ vs).length = σ8.length := by rw [← hw8, wipe_length]
    refine ⟨m', hm, i + 1, _, (I11.unpinned (pins := [])).weak hl (fun j v e => ?_), T.keep _ _ _ st7 fun b hb o e => (pin b hb o e).1, fun b hb => ?_, w'⟩
    · rw [← hw8] at e
      exact (wipe_some e).1
    · obtain ⟨o, e, _⟩ := T.obj _ _ st7 b hb
      exact (pin b hb o e).2
theorem pe_scS {elt tg iter : Expr} {scope : Scope} {own : List (Str × Nat)} {pos : Pos} {wi : TI} {g : TG} {te : TE} (hc : X.calm = true) (hN : X.N.Nodup) (hi : PI X tg iter wi) (ok : BlkOk X.N X.env.scope scope own)
    (hg : ∀ (s : Shared) (H : Hp) (C : Addr) (cl : List (Str × Addr)) (fp : List Addr), PG (X.blk s H scope (compEnvC scope cl C X.env) fp) tg g)
    (he : ∀ (s : Shared) (H : Hp) (C : Addr) (cl : List (Str × Addr)) (fp : List Addr), PE (X.blk s H scope (compEnvC scope cl C X.env) fp) elt te) (hs : ∀ x, foldedSetIterable iter X.env x = pure x := by intro _; rfl) :
    PE X (.SetComp elt [⟨tg, iter, [], 0⟩] scope pos) (tScS X.w wi g te (own.map (·.2))) := by
  refine ⟨fun pins s σ H Q I h => ?_⟩
  rw [PpSet.eval_SetComp]
  have hfree : ∀ y ∈ scope.names, y.2 = .free → ∃ c, X.env.cells.lookup y.1 = some c := fun y hy e => (ok.free y hy e).elim (fun k => I.ok.has _ (.inl k)) fun k => I.ok.has _ (.inr k)
  refine wpAny_comprehension_free (use := none) rfl hs (closure_ok hfree) ok.kind (fun y hy e => by rw [ok.uniq y hy, e]) (thn (hi.run pins s σ H _ I h) fun xv s1 hx => thn hx fun itv s2 h2 => ?_)
  obtain ⟨it, fp, tn, J, H2, rfl, I2, T, st2, f2, q⟩ := h2
  have lt : ∀ b ∈ fp, b < s2.heap.objs.size := fun b hb => let ⟨o, e, _⟩ := T.obj _ _ st2 b hb; Heap.lt_size e
  refine PpSet.newSet_ok (newEnv_comp ?_)
  generalize hs3 : ({ s2 with heap := s2.heap.push { cls := .type "set", dict := none, data := .set #[] 0 (.fresh 0 0 (!X.w.params.followText "set-order")) } } : Shared) = s3
  obtain ⟨I3, f3⟩ := scS_start hs3.symm I2 hN ok f2 lt
  obtain ⟨W, ⟨m0, w0⟩, turn⟩ := q s2.heap.objs.size (I2.hok.fresh (Nat.le_refl _))
  have keep3 : ∀ b o, s2.heap.get? b = some o → s3.heap.get? b = some o := fun b o e => by
    rw [← hs3]
    exact Heap.get?_push_of_some _ e
  generalize s2.heap.objs.size = D at I3 f3 w0 turn ⊢
  generalize upd H2 D (SetSO X.w D []) = H3 at I3 f3 w0
  have I4 := block_start I3 ok hN f3
  have pg := hg s3 H3 s3.heap.objs.size (cellsFrom (s3.heap.objs.size + 1) scope.names (cloFrom X.env.cells scope.names [])) fp
  have pe := he s3 H3 s3.heap.objs.size (cellsFrom (s3.heap.objs.size + 1) scope.names (cloFrom X.env.cells scope.names [])) fp
  have st3 : tn 0 s3.heap := T.keep _ _ _ st2 fun b _ o e => keep3 b o e
  show codeAny _ _ (.compStart (.SetComp elt [⟨tg, iter, [], 0⟩] scope pos) 0 (.ref it) (.ref D) (compEnvC scope (cellsFrom (s3.heap.objs.size + 1) scope.names (cloFrom X.env.cells scope.names [])) s3.heap.objs.size X.env)) (compPost (model X.prog X.w) X.A X.xe none _ (.ref D) s3.heap.objs.size) { s3 with heap := pushCells (s3.heap.push { cls := .type "dict", data := .dict #[] }) scope.names }
  have st4 : tn 0 (pushCells (s3.heap.push { cls := .type "dict", data := .dict #[] }) scope.names) := T.keep _ _ _ st3 fun b _ o e => pushCells_keeps _ _ _ _ (Heap.get?_push_of_some _ e)
  have loop := scS_loop (elt := elt) (iter := iter) (pos := pos) (D := D) (R := compPost (model X.prog X.w) X.A X.xe none (EP X pins σ Q) (.ref D) s3.heap.objs.size) hc I3 f3 (Nat.le_refl _) I4 T st4 pg pe w0 turn fun s' m H' I' qq hn f => ⟨m, hn, fun h'' sb => by
    obtain ⟨f0, f1, f2, f3, f4, f5⟩ := f
    exact ⟨.ref D, H', I'.turned (t' := s'.toks) (fun b o hb e => (sb.2 b hb).trans e) f0 f1 f3 f4 f5, rfl, qq⟩⟩
  exact PpSet.codeAny_compStart_set loop (T.self X.A 0 _ _ _ st4 loop)
end
end Ug

namespace Ug
open PySem PySem.Spec PyProof.Rows L2
/-! the text by places (printed by wip/genhead.py) -/
def top (i : Nat) : Stmt := PySem.Challenge.pw_untoldgames_k72_whole_points_are_least_a.main.body.getD i (.Pass ⟨0, 0, 0, 0⟩)
abbrev s_is_integer : Stmt := top 12
abbrev s_is_within : Stmt := top 13
abbrev s_is_letters : Stmt := top 14
abbrev s_is_word : Stmt := top 15
abbrev s_is_name : Stmt := top 16
abbrev s_is_words : Stmt := top 17
abbrev s_is_ascending : Stmt := top 18
abbrev s_is_lot : Stmt := top 19
abbrev s_mask_of : Stmt := top 20
abbrev s_lot_of : Stmt := top 21
abbrev s_mover_of : Stmt := top 23
abbrev s_is_board : Stmt := top 26
abbrev s_begun_rows : Stmt := top 28
abbrev s_is_fresh : Stmt := top 29
abbrev s_is_ahead : Stmt := top 33
abbrev s_are_pair : Stmt := top 34
abbrev s_all_pairs : Stmt := top 35
abbrev s_is_pairing : Stmt := top 36
abbrev s_partners : Stmt := top 37
abbrev s_greatest_of : Stmt := top 39
abbrev s_check_size : Stmt := top 40
abbrev s_greatest : Stmt := top 41
abbrev s_pairings : Stmt := top 42
abbrev s_outcomes : Stmt := top 43
abbrev s_check_points : Stmt := top 46
abbrev s_sum_of : Stmt := top 47
abbrev s_most_points : Stmt := top 48
abbrev s_met_points : Stmt := top 49
abbrev s_met_of : Stmt := top 50
abbrev s_names_of : Stmt := top 51
abbrev s_aims_in : Stmt := top 57
abbrev s_parts_of : Stmt := top 58
abbrev s_is_any_aim : Stmt := top 59
abbrev s_is_aim : Stmt := top 60
abbrev s_check_aim : Stmt := top 61
abbrev s_holds : Stmt := top 62
abbrev s_check_fresh : Stmt := top 65
abbrev s_two_sided_names : Stmt := top 66
abbrev s_is_choice : Stmt := top 67
abbrev s_choices : Stmt := top 68
abbrev s_chosen : Stmt := top 69
abbrev s_met_spoiler : Stmt := top 70
abbrev s_is_met_spoiler : Stmt := top 71
abbrev s_spoiling : Stmt := top 73
abbrev s_sure_of : Stmt := top 74
abbrev s_sure : Stmt := top 75
abbrev s_is_sure : Stmt := top 76
abbrev s_spoilers : Stmt := top 77
abbrev s_is_outcome : Stmt := top 78
abbrev s_are_spoilers : Stmt := top 79
abbrev s__law_is_int : Stmt := top 81
abbrev s__law_source : Stmt := top 82
abbrev s__law_take : Stmt := top 83
abbrev s__law_is_ahead : Stmt := top 84
abbrev s__law_are_pair : Stmt := top 85
abbrev s__law_pairs : Stmt := top 86
abbrev s__law_is_pairing : Stmt := top 87
abbrev s__law_boards : Stmt := top 88
abbrev s__law_names : Stmt := top 89
abbrev s__law_points : Stmt := top 90
abbrev s__law_counted : Stmt := top 91
abbrev s__law_is_edge : Stmt := top 92
abbrev s__law_is_met_edge : Stmt := top 93
abbrev s_law : Stmt := top 94
abbrev s_Hall_init : Stmt := inClass (top 27) 0
abbrev s_Hall_keep : Stmt := inClass (top 27) 1
abbrev s_Search_init : Stmt := inClass (top 38) 0
abbrev s_Search_is_stuck : Stmt := inClass (top 38) 1
abbrev s_Search_go : Stmt := inClass (top 38) 2
def d_is_integer : He.DefD := ⟨("is_integer", none), "is_integer", "is_integer", defArgs s_is_integer, defBody s_is_integer, defScope s_is_integer, [], []⟩
def d_is_within : He.DefD := ⟨("is_within", none), "is_within", "is_within", defArgs s_is_within, defBody s_is_within, defScope s_is_within, [], []⟩
def d_is_letters : He.DefD := ⟨("is_letters", none), "is_letters", "is_letters", defArgs s_is_letters, defBody s_is_letters, defScope s_is_letters, [], []⟩
def d_is_word : He.DefD := ⟨("is_word", none), "is_word", "is_word", defArgs s_is_word, defBody s_is_word, defScope s_is_word, [], []⟩
def d_is_name : He.DefD := ⟨("is_name", none), "is_name", "is_name", defArgs s_is_name, defBody s_is_name, defScope s_is_name, [], []⟩
def d_is_words : He.DefD := ⟨("is_words", none), "is_words", "is_words", defArgs s_is_words, defBody s_is_words, defScope s_is_words, [], []⟩
def d_is_ascending : He.DefD := ⟨("is_ascending", none), "is_ascending", "is_ascending", defArgs s_is_ascending, defBody s_is_ascending, defScope s_is_ascending, [], []⟩
def d_is_lot : He.DefD := ⟨("is_lot", none), "is_lot", "is_lot", defArgs s_is_lot, defBody s_is_lot, defScope s_is_lot, [], []⟩
def d_mask_of : He.DefD := ⟨("mask_of", none), "mask_of", "mask_of", defArgs s_mask_of, defBody s_mask_of, defScope s_mask_of, [], []⟩
def d_lot_of : He.DefD := ⟨("lot_of", none), "lot_of", "lot_of", defArgs s_lot_of, defBody s_lot_of, defScope s_lot_of, [], []⟩
def d_mover_of : He.DefD := ⟨("mover_of", none), "mover_of", "mover_of", defArgs s_mover_of, defBody s_mover_of, defScope s_mover_of, [], []⟩
def d_is_board : He.DefD := ⟨("is_board", none), "is_board", "is_board", defArgs s_is_board, defBody s_is_board, defScope s_is_board, [], []⟩
def d_begun_rows : He.DefD := ⟨("begun_rows", none), "begun_rows", "begun_rows", defArgs s_begun_rows, defBody s_begun_rows, defScope s_begun_rows, [], []⟩
def d_is_fresh : He.DefD := ⟨("is_fresh", none), "is_fresh", "is_fresh", defArgs s_is_fresh, defBody s_is_fresh, defScope s_is_fresh, [], []⟩
def d_is_ahead : He.DefD := ⟨("is_ahead", none), "is_ahead", "is_ahead", defArgs s_is_ahead, defBody s_is_ahead, defScope s_is_ahead, [], []⟩
def d_are_pair : He.DefD := ⟨("are_pair", none), "are_pair", "are_pair", defArgs s_are_pair, defBody s_are_pair, defScope s_are_pair, [], []⟩
def d_all_pairs : He.DefD := ⟨("all_pairs", none), "all_pairs", "all_pairs", defArgs s_all_pairs, defBody s_all_pairs, defScope s_all_pairs, [], []⟩
def d_is_pairing : He.DefD := ⟨("is_pairing", none), "is_pairing", "is_pairing", defArgs s_is_pairing, defBody s_is_pairing, defScope s_is_pairing, [], []⟩
def d_partners : He.DefD := ⟨("partners", none), "partners", "partners", defArgs s_partners, defBody s_partners, defScope s_partners, [], []⟩
def d_greatest_of : He.DefD := ⟨("greatest_of", none), "greatest_of", "greatest_of", defArgs s_greatest_of, defBody s_greatest_of, defScope s_greatest_of, [], []⟩
def d_check_size : He.DefD := ⟨("check_size", none), "check_size", "check_size", defArgs s_check_size, defBody s_check_size, defScope s_check_size, [], []⟩
def d_greatest : He.DefD := ⟨("greatest", none), "greatest", "greatest", defArgs s_greatest, defBody s_greatest, defScope s_greatest, [], []⟩
def d_pairings : He.DefD := ⟨("pairings", none), "pairings", "pairings", defArgs s_pairings, defBody s_pairings, defScope s_pairings, [], []⟩
def d_outcomes : He.DefD := ⟨("outcomes", none), "outcomes", "outcomes", defArgs s_outcomes, defBody s_outcomes, defScope s_outcomes, [], []⟩
def d_check_points : He.DefD := ⟨("check_points", none), "check_points", "check_points", defArgs s_check_points, defBody s_check_points, defScope s_check_points, [], []⟩
def d_sum_of : He.DefD := ⟨("sum_of", none), "sum_of", "sum_of", defArgs s_sum_of, defBody s_sum_of, defScope s_sum_of, [], []⟩
def d_most_points : He.DefD := ⟨("most_points", none), "most_points", "most_points", defArgs s_most_points, defBody s_most_points, defScope s_most_points, [], []⟩
def d_met_points : He.DefD := ⟨("met_points", none), "met_points", "met_points", defArgs s_met_points, defBody s_met_points, defScope s_met_points, [], []⟩
def d_met_of : He.DefD := ⟨("met_of", none), "met_of", "met_of", defArgs s_met_of, defBody s_met_of, defScope s_met_of, [], []⟩
def d_names_of : He.DefD := ⟨("names_of", none), "names_of", "names_of", defArgs s_names_of, defBody s_names_of, defScope s_names_of, [], []⟩
def d_aims_in : He.DefD := ⟨("aims_in", none), "aims_in", "aims_in", defArgs s_aims_in, defBody s_aims_in, defScope s_aims_in, [], []⟩
def d_parts_of : He.DefD := ⟨("parts_of", none), "parts_of", "parts_of", defArgs s_parts_of, defBody s_parts_of, defScope s_parts_of, [], []⟩
def d_is_any_aim : He.DefD := ⟨("is_any_aim", none), "is_any_aim", "is_any_aim", defArgs s_is_any_aim, defBody s_is_any_aim, defScope s_is_any_aim, [], []⟩
def d_is_aim : He.DefD := ⟨("is_aim", none), "is_aim", "is_aim", defArgs s_is_aim, defBody s_is_aim, defScope s_is_aim, [], []⟩
def d_check_aim : He.DefD := ⟨("check_aim", none), "check_aim", "check_aim", defArgs s_check_aim, defBody s_check_aim, defScope s_check_aim, [], []⟩
def d_holds : He.DefD := ⟨("holds", none), "holds", "holds", defArgs s_holds, defBody s_holds, defScope s_holds, [], []⟩
def d_check_fresh : He.DefD := ⟨("check_fresh", none), "check_fresh", "check_fresh", defArgs s_check_fresh, defBody s_check_fresh, defScope s_check_fresh, [], []⟩
def d_two_sided_names : He.DefD := ⟨("two_sided_names", none), "two_sided_names", "two_sided_names", defArgs s_two_sided_names, defBody s_two_sided_names, defScope s_two_sided_names, [], []⟩
def d_is_choice : He.DefD := ⟨("is_choice", none), "is_choice", "is_choice", defArgs s_is_choice, defBody s_is_choice, defScope s_is_choice, [], []⟩
def d_choices : He.DefD := ⟨("choices", none), "choices", "choices", defArgs s_choices, defBody s_choices, defScope s_choices, [], []⟩
def d_chosen : He.DefD := ⟨("chosen", none), "chosen", "chosen", defArgs s_chosen, defBody s_chosen, defScope s_chosen, [], []⟩
def d_met_spoiler : He.DefD := ⟨("met_spoiler", none), "met_spoiler", "met_spoiler", defArgs s_met_spoiler, defBody s_met_spoiler, defScope s_met_spoiler, [], []⟩
def d_is_met_spoiler : He.DefD := ⟨("is_met_spoiler", none), "is_met_spoiler", "is_met_spoiler", defArgs s_is_met_spoiler, defBody s_is_met_spoiler, defScope s_is_met_spoiler, [], []⟩
def d_spoiling : He.DefD := ⟨("spoiling", none), "spoiling", "spoiling", defArgs s_spoiling, defBody s_spoiling, defScope s_spoiling, [], []⟩
def d_sure_of : He.DefD := ⟨("sure_of", none), "sure_of", "sure_of", defArgs s_sure_of, defBody s_sure_of, defScope s_sure_of, [], []⟩
def d_sure : He.DefD := ⟨("sure", none), "sure", "sure", defArgs s_sure, defBody s_sure, defScope s_sure, [], []⟩
def d_is_sure : He.DefD := ⟨("is_sure", none), "is_sure", "is_sure", defArgs s_is_sure, defBody s_is_sure, defScope s_is_sure, [], []⟩
def d_spoilers : He.DefD := ⟨("spoilers", none), "spoilers", "spoilers", defArgs s_spoilers, defBody s_spoilers, defScope s_spoilers, [], []⟩
def d_is_outcome : He.DefD := ⟨("is_outcome", none), "is_outcome", "is_outcome", defArgs s_is_outcome, defBody s_is_outcome, defScope s_is_outcome, [], []⟩
def d_are_spoilers : He.DefD := ⟨("are_spoilers", none), "are_spoilers", "are_spoilers", defArgs s_are_spoilers, defBody s_are_spoilers, defScope s_are_spoilers, [], []⟩
def d__law_is_int : He.DefD := ⟨("_law_is_int", none), "_law_is_int", "_law_is_int", defArgs s__law_is_int, defBody s__law_is_int, defScope s__law_is_int, [], []⟩
def d__law_source : He.DefD := ⟨("_law_source", none), "_law_source", "_law_source", defArgs s__law_source, defBody s__law_source, defScope s__law_source, [], []⟩
def d__law_take : He.DefD := ⟨("_law_take", none), "_law_take", "_law_take", defArgs s__law_take, defBody s__law_take, defScope s__law_take, [], []⟩
def d__law_is_ahead : He.DefD := ⟨("_law_is_ahead", none), "_law_is_ahead", "_law_is_ahead", defArgs s__law_is_ahead, defBody s__law_is_ahead, defScope s__law_is_ahead, [], []⟩
def d__law_are_pair : He.DefD := ⟨("_law_are_pair", none), "_law_are_pair", "_law_are_pair", defArgs s__law_are_pair, defBody s__law_are_pair, defScope s__law_are_pair, [], []⟩
def d__law_pairs : He.DefD := ⟨("_law_pairs", none), "_law_pairs", "_law_pairs", defArgs s__law_pairs, defBody s__law_pairs, defScope s__law_pairs, [], []⟩
def d__law_is_pairing : He.DefD := ⟨("_law_is_pairing", none), "_law_is_pairing", "_law_is_pairing", defArgs s__law_is_pairing, defBody s__law_is_pairing, defScope s__law_is_pairing, [], []⟩
def d__law_boards : He.DefD := ⟨("_law_boards", none), "_law_boards", "_law_boards", defArgs s__law_boards, defBody s__law_boards, defScope s__law_boards, [], []⟩
def d__law_names : He.DefD := ⟨("_law_names", none), "_law_names", "_law_names", defArgs s__law_names, defBody s__law_names, defScope s__law_names, [], []⟩
def d__law_points : He.DefD := ⟨("_law_points", none), "_law_points", "_law_points", defArgs s__law_points, defBody s__law_points, defScope s__law_points, [], []⟩
def d__law_counted : He.DefD := ⟨("_law_counted", none), "_law_counted", "_law_counted", defArgs s__law_counted, defBody s__law_counted, defScope s__law_counted, [], []⟩
def d__law_is_edge : He.DefD := ⟨("_law_is_edge", none), "_law_is_edge", "_law_is_edge", defArgs s__law_is_edge, defBody s__law_is_edge, defScope s__law_is_edge, [], []⟩
def d__law_is_met_edge : He.DefD := ⟨("_law_is_met_edge", none), "_law_is_met_edge", "_law_is_met_edge", defArgs s__law_is_met_edge, defBody s__law_is_met_edge, defScope s__law_is_met_edge, [], []⟩
def d_law : He.DefD := ⟨("law", none), "law", "law", defArgs s_law, defBody s_law, defScope s_law, [], []⟩
def d_Hall_init : He.DefD := ⟨("Hall", some "__init__"), "__init__", "Hall.__init__", defArgs s_Hall_init, defBody s_Hall_init, defScope s_Hall_init, [], []⟩
def d_Hall_keep : He.DefD := ⟨("Hall", some "keep"), "keep", "Hall.keep", defArgs s_Hall_keep, defBody s_Hall_keep, defScope s_Hall_keep, [], []⟩
def d_Search_init : He.DefD := ⟨("Search", some "__init__"), "__init__", "Search.__init__", defArgs s_Search_init, defBody s_Search_init, defScope s_Search_init, [], []⟩
def d_Search_is_stuck : He.DefD := ⟨("Search", some "is_stuck"), "is_stuck", "Search.is_stuck", defArgs s_Search_is_stuck, defBody s_Search_is_stuck, defScope s_Search_is_stuck, [], []⟩
def d_Search_go : He.DefD := ⟨("Search", some "go"), "go", "Search.go", defArgs s_Search_go, defBody s_Search_go, defScope s_Search_go, [], []⟩
def fn0 : List He.DefD := [d_is_integer, d_is_within, d_is_letters, d_is_word, d_is_name, d_is_words, d_is_ascending, d_is_lot, d_mask_of, d_lot_of, d_mover_of, d_is_board, d_begun_rows, d_is_fresh, d_is_ahead, d_are_pair, d_all_pairs, d_is_pairing, d_partners, d_greatest_of]
def fn1 : List He.DefD := [d_check_size, d_greatest, d_pairings, d_outcomes, d_check_points, d_sum_of, d_most_points, d_met_points, d_met_of, d_names_of, d_aims_in, d_parts_of, d_is_any_aim, d_is_aim, d_check_aim, d_holds, d_check_fresh, d_two_sided_names, d_is_choice, d_choices]
def fn2 : List He.DefD := [d_chosen, d_met_spoiler, d_is_met_spoiler, d_spoiling, d_sure_of, d_sure, d_is_sure, d_spoilers, d_is_outcome, d_are_spoilers, d__law_is_int, d__law_source, d__law_take, d__law_is_ahead, d__law_are_pair, d__law_pairs, d__law_is_pairing, d__law_boards, d__law_names, d__law_points]
def fn3 : List He.DefD := [d__law_counted, d__law_is_edge, d__law_is_met_edge, d_law, d_Hall_init, d_Hall_keep, d_Search_init, d_Search_is_stuck, d_Search_go]
def fn : List He.DefD := fn0 ++ (fn1 ++ (fn2 ++ (fn3)))
def fa0 : List He.Fa := [.glo "is_integer", .glo "is_within", .glo "is_letters", .glo "is_word", .glo "is_name", .glo "is_words", .glo "is_ascending", .glo "is_lot", .glo "mask_of", .glo "lot_of", .glo "mover_of", .glo "is_board", .glo "begun_rows", .glo "is_fresh", .glo "is_ahead", .glo "are_pair", .glo "all_pairs", .glo "is_pairing", .glo "partners", .glo "greatest_of"]
def fa1 : List He.Fa := [.glo "check_size", .glo "greatest", .glo "pairings", .glo "outcomes", .glo "check_points", .glo "sum_of", .glo "most_points", .glo "met_points", .glo "met_of", .glo "names_of", .glo "aims_in", .glo "parts_of", .glo "is_any_aim", .glo "is_aim", .glo "check_aim", .glo "holds", .glo "check_fresh", .glo "two_sided_names", .glo "is_choice", .glo "choices"]
def fa2 : List He.Fa := [.glo "chosen", .glo "met_spoiler", .glo "is_met_spoiler", .glo "spoiling", .glo "sure_of", .glo "sure", .glo "is_sure", .glo "spoilers", .glo "is_outcome", .glo "are_spoilers", .glo "_law_is_int", .glo "_law_source", .glo "_law_take", .glo "_law_is_ahead", .glo "_law_are_pair", .glo "_law_pairs", .glo "_law_is_pairing", .glo "_law_boards", .glo "_law_names", .glo "_law_points"]
def fa3 : List He.Fa := [.glo "_law_counted", .glo "_law_is_edge", .glo "_law_is_met_edge", .glo "law", .glo "Hall", .glo "Search", .free "all", .free "any", .free "bool", .free "dict", .free "enumerate", .free "int", .free "isinstance", .free "len", .free "max", .free "min", .free "range", .free "sorted", .free "str", .free "sum"]
def fa4 : List He.Fa := [.free "tuple", .free "zip", .int "MOST_LETTERS" 20, .int "MOST_NAME" 8, .int "MOST_BEGUN" 20, .int "MOST_BOARDS_halls" 12, .int "MOST_BOARDS_pairs" 24, .int "MOST_PAIRINGS" 2000, .int "MOST_POINTS" 1000000000, .int "MOST_AIMS" 24, .int "MOST_LEAST" 25, .int "MOST_DEEP" 8, .int "MOST_PARTS" 200, .int "MOST_CHOSEN" 12, .str "LETTERS" "abcdefghijklmnopqrstuvwxyz", .cls "Hall", .mkr "Hall", .keep "Hall", .cls "Search", .mkr "Search"]
def fa5 : List He.Fa := [.keep "Search", .noat "Hall" "boards", .noat "Hall" "names", .noat "Search" "near", .noat "Search" "boards", .noat "Search" "most", .noat "Search" "found", .meth "Hall" "keep", .meth "Search" "is_stuck", .meth "Search" "go"]
def fa : List He.Fa := fa0 ++ (fa1 ++ (fa2 ++ (fa3 ++ (fa4 ++ (fa5)))))
abbrev FnP (K : PySem.W.Frag) (x q : Str) (st : Stmt) (f : Addr) (fd : FuncData) : Prop := FunD K x q (defArgs st) (defBody st) (defScope st) [] [] f fd
/-- what the top has left -/
structure Txt (K : PySem.W.Frag) (mg : Str → Option Value) : Prop where
  g_is_integer : mg "is_integer" = some (.ref (He.ga K "is_integer"))
  g_is_within : mg "is_within" = some (.ref (He.ga K "is_within"))
  g_is_letters : mg "is_letters" = some (.ref (He.ga K "is_letters"))
  g_is_word : mg "is_word" = some (.ref (He.ga K "is_word"))
  g_is_name : mg "is_name" = some (.ref (He.ga K "is_name"))
  g_is_words : mg "is_words" = some (.ref (He.ga K "is_words"))
  g_is_ascending : mg "is_ascending" = some (.ref (He.ga K "is_ascending"))
  g_is_lot : mg "is_lot" = some (.ref (He.ga K "is_lot"))
  g_mask_of : mg "mask_of" = some (.ref (He.ga K "mask_of"))
  g_lot_of : mg "lot_of" = some (.ref (He.ga K "lot_of"))
  g_mover_of : mg "mover_of" = some (.ref (He.ga K "mover_of"))
  g_is_board : mg "is_board" = some (.ref (He.ga K "is_board"))
  g_begun_rows : mg "begun_rows" = some (.ref (He.ga K "begun_rows"))
  g_is_fresh : mg "is_fresh" = some (.ref (He.ga K "is_fresh"))
  g_is_ahead : mg "is_ahead" = some (.ref (He.ga K "is_ahead"))
  g_are_pair : mg "are_pair" = some (.ref (He.ga K "are_pair"))
  g_all_pairs : mg "all_pairs" = some (.ref (He.ga K "all_pairs"))
  g_is_pairing : mg "is_pairing" = some (.ref (He.ga K "is_pairing"))
  g_partners : mg "partners" = some (.ref (He.ga K "partners"))
  g_greatest_of : mg "greatest_of" = some (.ref (He.ga K "greatest_of"))
  g_check_size : mg "check_size" = some (.ref (He.ga K "check_size"))
  g_greatest : mg "greatest" = some (.ref (He.ga K "greatest"))
  g_pairings : mg "pairings" = some (.ref (He.ga K "pairings"))
  g_outcomes : mg "outcomes" = some (.ref (He.ga K "outcomes"))
  g_check_points : mg "check_points" = some (.ref (He.ga K "check_points"))
  g_sum_of : mg "sum_of" = some (.ref (He.ga K "sum_of"))
  g_most_points : mg "most_points" = some (.ref (He.ga K "most_points"))
  g_met_points : mg "met_points" = some (.ref (He.ga K "met_points"))
  g_met_of : mg "met_of" = some (.ref (He.ga K "met_of"))
  g_names_of : mg "names_of" = some (.ref (He.ga K "names_of"))
  g_aims_in : mg "aims_in" = some (.ref (He.ga K "aims_in"))
  g_parts_of : mg "parts_of" = some (.ref (He.ga K "parts_of"))
  g_is_any_aim : mg "is_any_aim" = some (.ref (He.ga K "is_any_aim"))
  g_is_aim : mg "is_aim" = some (.ref (He.ga K "is_aim"))
  g_check_aim : mg "check_aim" = some (.ref (He.ga K "check_aim"))
  g_holds : mg "holds" = some (.ref (He.ga K "holds"))
  g_check_fresh : mg "check_fresh" = some (.ref (He.ga K "check_fresh"))
  g_two_sided_names : mg "two_sided_names" = some (.ref (He.ga K "two_sided_names"))
  g_is_choice : mg "is_choice" = some (.ref (He.ga K "is_choice"))
  g_choices : mg "choices" = some (.ref (He.ga K "choices"))
  g_chosen : mg "chosen" = some (.ref (He.ga K "chosen"))
  g_met_spoiler : mg "met_spoiler" = some (.ref (He.ga K "met_spoiler"))
  g_is_met_spoiler : mg "is_met_spoiler" = some (.ref (He.ga K "is_met_spoiler"))
  g_spoiling : mg "spoiling" = some (.ref (He.ga K "spoiling"))
  g_sure_of : mg "sure_of" = some (.ref (He.ga K "sure_of"))
  g_sure : mg "sure" = some (.ref (He.ga K "sure"))
  g_is_sure : mg "is_sure" = some (.ref (He.ga K "is_sure"))
  g_spoilers : mg "spoilers" = some (.ref (He.ga K "spoilers"))
  g_is_outcome : mg "is_outcome" = some (.ref (He.ga K "is_outcome"))
  g_are_spoilers : mg "are_spoilers" = some (.ref (He.ga K "are_spoilers"))
  g__law_is_int : mg "_law_is_int" = some (.ref (He.ga K "_law_is_int"))
  g__law_source : mg "_law_source" = some (.ref (He.ga K "_law_source"))
  g__law_take : mg "_law_take" = some (.ref (He.ga K "_law_take"))
  g__law_is_ahead : mg "_law_is_ahead" = some (.ref (He.ga K "_law_is_ahead"))
  g__law_are_pair : mg "_law_are_pair" = some (.ref (He.ga K "_law_are_pair"))
  g__law_pairs : mg "_law_pairs" = some (.ref (He.ga K "_law_pairs"))
  g__law_is_pairing : mg "_law_is_pairing" = some (.ref (He.ga K "_law_is_pairing"))
  g__law_boards : mg "_law_boards" = some (.ref (He.ga K "_law_boards"))
  g__law_names : mg "_law_names" = some (.ref (He.ga K "_law_names"))
  g__law_points : mg "_law_points" = some (.ref (He.ga K "_law_points"))
  g__law_counted : mg "_law_counted" = some (.ref (He.ga K "_law_counted"))
  g__law_is_edge : mg "_law_is_edge" = some (.ref (He.ga K "_law_is_edge"))
  g__law_is_met_edge : mg "_law_is_met_edge" = some (.ref (He.ga K "_law_is_met_edge"))
  g_law : mg "law" = some (.ref (He.ga K "law"))
  g_Hall : mg "Hall" = some (.ref (He.ga K "Hall"))
  g_Search : mg "Search" = some (.ref (He.ga K "Search"))
  b_all : mg "all" = none
  b_any : mg "any" = none
  b_bool : mg "bool" = none
  b_dict : mg "dict" = none
  b_enumerate : mg "enumerate" = none
  b_int : mg "int" = none
  b_isinstance : mg "isinstance" = none
  b_len : mg "len" = none
  b_max : mg "max" = none
  b_min : mg "min" = none
  b_range : mg "range" = none
  b_sorted : mg "sorted" = none
  b_str : mg "str" = none
  b_sum : mg "sum" = none
  b_tuple : mg "tuple" = none
  b_zip : mg "zip" = none
  c_MOST_LETTERS : ∃ t, mg "MOST_LETTERS" = some (.int 20 t)
  c_MOST_NAME : ∃ t, mg "MOST_NAME" = some (.int 8 t)
  c_MOST_BEGUN : ∃ t, mg "MOST_BEGUN" = some (.int 20 t)
  c_MOST_BOARDS_halls : ∃ t, mg "MOST_BOARDS_halls" = some (.int 12 t)
  c_MOST_BOARDS_pairs : ∃ t, mg "MOST_BOARDS_pairs" = some (.int 24 t)
  c_MOST_PAIRINGS : ∃ t, mg "MOST_PAIRINGS" = some (.int 2000 t)
  c_MOST_POINTS : ∃ t, mg "MOST_POINTS" = some (.int 1000000000 t)
  c_MOST_AIMS : ∃ t, mg "MOST_AIMS" = some (.int 24 t)
  c_MOST_LEAST : ∃ t, mg "MOST_LEAST" = some (.int 25 t)
  c_MOST_DEEP : ∃ t, mg "MOST_DEEP" = some (.int 8 t)
  c_MOST_PARTS : ∃ t, mg "MOST_PARTS" = some (.int 200 t)
  c_MOST_CHOSEN : ∃ t, mg "MOST_CHOSEN" = some (.int 12 t)
  c_LETTERS : ∃ t, mg "LETTERS" = some (.str "abcdefghijklmnopqrstuvwxyz" t)
  cl_Hall : Cls K (He.ga K "Hall")
  mk_Hall : Mk K (He.ga K "Hall") (He.ma K (He.ga K "Hall") "__init__")
  kp_Hall : PySem.W.keepIn K (.ref (He.ga K "Hall")) = true
  cl_Search : Cls K (He.ga K "Search")
  mk_Search : Mk K (He.ga K "Search") (He.ma K (He.ga K "Search") "__init__")
  kp_Search : PySem.W.keepIn K (.ref (He.ga K "Search")) = true
  na_Hall_boards : NoAttr K (He.ga K "Hall") "boards"
  na_Hall_names : NoAttr K (He.ga K "Hall") "names"
  na_Search_near : NoAttr K (He.ga K "Search") "near"
  na_Search_boards : NoAttr K (He.ga K "Search") "boards"
  na_Search_most : NoAttr K (He.ga K "Search") "most"
  na_Search_found : NoAttr K (He.ga K "Search") "found"
  me_Hall_keep : Meth K (He.ga K "Hall") "keep" (He.ma K (He.ga K "Hall") "keep")
  me_Search_is_stuck : Meth K (He.ga K "Search") "is_stuck" (He.ma K (He.ga K "Search") "is_stuck")
  me_Search_go : Meth K (He.ga K "Search") "go" (He.ma K (He.ga K "Search") "go")
  f_is_integer : ∃ fd, FnP K "is_integer" "is_integer" s_is_integer (He.ga K "is_integer") fd
  f_is_within : ∃ fd, FnP K "is_within" "is_within" s_is_within (He.ga K "is_within") fd
  f_is_letters : ∃ fd, FnP K "is_letters" "is_letters" s_is_letters (He.ga K "is_letters") fd
  f_is_word : ∃ fd, FnP K "is_word" "is_word" s_is_word (He.ga K "is_word") fd
  f_is_name : ∃ fd, FnP K "is_name" "is_name" s_is_name (He.ga K "is_name") fd
  f_is_words : ∃ fd, FnP K "is_words" "is_words" s_is_words (He.ga K "is_words") fd
  f_is_ascending : ∃ fd, FnP K "is_ascending" "is_ascending" s_is_ascending (He.ga K "is_ascending") fd
  f_is_lot : ∃ fd, FnP K "is_lot" "is_lot" s_is_lot (He.ga K "is_lot") fd
  f_mask_of : ∃ fd, FnP K "mask_of" "mask_of" s_mask_of (He.ga K "mask_of") fd
  f_lot_of : ∃ fd, FnP K "lot_of" "lot_of" s_lot_of (He.ga K "lot_of") fd
  f_mover_of : ∃ fd, FnP K "mover_of" "mover_of" s_mover_of (He.ga K "mover_of") fd
  f_is_board : ∃ fd, FnP K "is_board" "is_board" s_is_board (He.ga K "is_board") fd
  f_begun_rows : ∃ fd, FnP K "begun_rows" "begun_rows" s_begun_rows (He.ga K "begun_rows") fd
  f_is_fresh : ∃ fd, FnP K "is_fresh" "is_fresh" s_is_fresh (He.ga K "is_fresh") fd
  f_is_ahead : ∃ fd, FnP K "is_ahead" "is_ahead" s_is_ahead (He.ga K "is_ahead") fd
  f_are_pair : ∃ fd, FnP K "are_pair" "are_pair" s_are_pair (He.ga K "are_pair") fd
  f_all_pairs : ∃ fd, FnP K "all_pairs" "all_pairs" s_all_pairs (He.ga K "all_pairs") fd
  f_is_pairing : ∃ fd, FnP K "is_pairing" "is_pairing" s_is_pairing (He.ga K "is_pairing") fd
  f_partners : ∃ fd, FnP K "partners" "partners" s_partners (He.ga K "partners") fd
  f_greatest_of : ∃ fd, FnP K "greatest_of" "greatest_of" s_greatest_of (He.ga K "greatest_of") fd
  f_check_size : ∃ fd, FnP K "check_size" "check_size" s_check_size (He.ga K "check_size") fd
  f_greatest : ∃ fd, FnP K "greatest" "greatest" s_greatest (He.ga K "greatest") fd
  f_pairings : ∃ fd, FnP K "pairings" "pairings" s_pairings (He.ga K "pairings") fd
  f_outcomes : ∃ fd, FnP K "outcomes" "outcomes" s_outcomes (He.ga K "outcomes") fd
  f_check_points : ∃ fd, FnP K "check_points" "check_points" s_check_points (He.ga K "check_points") fd
  f_sum_of : ∃ fd, FnP K "sum_of" "sum_of" s_sum_of (He.ga K "sum_of") fd
  f_most_points : ∃ fd, FnP K "most_points" "most_points" s_most_points (He.ga K "most_points") fd
  f_met_points : ∃ fd, FnP K "met_points" "met_points" s_met_points (He.ga K "met_points") fd
  f_met_of : ∃ fd, FnP K "met_of" "met_of" s_met_of (He.ga K "met_of") fd
  f_names_of : ∃ fd, FnP K "names_of" "names_of" s_names_of (He.ga K "names_of") fd
  f_aims_in : ∃ fd, FnP K "aims_in" "aims_in" s_aims_in (He.ga K "aims_in") fd
  f_parts_of : ∃ fd, FnP K "parts_of" "parts_of" s_parts_of (He.ga K "parts_of") fd
  f_is_any_aim : ∃ fd, FnP K "is_any_aim" "is_any_aim" s_is_any_aim (He.ga K "is_any_aim") fd
  f_is_aim : ∃ fd, FnP K "is_aim" "is_aim" s_is_aim (He.ga K "is_aim") fd
  f_check_aim : ∃ fd, FnP K "check_aim" "check_aim" s_check_aim (He.ga K "check_aim") fd
  f_holds : ∃ fd, FnP K "holds" "holds" s_holds (He.ga K "holds") fd
  f_check_fresh : ∃ fd, FnP K "check_fresh" "check_fresh" s_check_fresh (He.ga K "check_fresh") fd
  f_two_sided_names : ∃ fd, FnP K "two_sided_names" "two_sided_names" s_two_sided_names (He.ga K "two_sided_names") fd
  f_is_choice : ∃ fd, FnP K "is_choice" "is_choice" s_is_choice (He.ga K "is_choice") fd
  f_choices : ∃ fd, FnP K "choices" "choices" s_choices (He.ga K "choices") fd
  f_chosen : ∃ fd, FnP K "chosen" "chosen" s_chosen (He.ga K "chosen") fd
  f_met_spoiler : ∃ fd, FnP K "met_spoiler" "met_spoiler" s_met_spoiler (He.ga K "met_spoiler") fd
  f_is_met_spoiler : ∃ fd, FnP K "is_met_spoiler" "is_met_spoiler" s_is_met_spoiler (He.ga K "is_met_spoiler") fd
  f_spoiling : ∃ fd, FnP K "spoiling" "spoiling" s_spoiling (He.ga K "spoiling") fd
  f_sure_of : ∃ fd, FnP K "sure_of" "sure_of" s_sure_of (He.ga K "sure_of") fd
  f_sure : ∃ fd, FnP K "sure" "sure" s_sure (He.ga K "sure") fd
  f_is_sure : ∃ fd, FnP K "is_sure" "is_sure" s_is_sure (He.ga K "is_sure") fd
  f_spoilers : ∃ fd, FnP K "spoilers" "spoilers" s_spoilers (He.ga K "spoilers") fd
  f_is_outcome : ∃ fd, FnP K "is_outcome" "is_outcome" s_is_outcome (He.ga K "is_outcome") fd
  f_are_spoilers : ∃ fd, FnP K "are_spoilers" "are_spoilers" s_are_spoilers (He.ga K "are_spoilers") fd
  f__law_is_int : ∃ fd, FnP K "_law_is_int" "_law_is_int" s__law_is_int (He.ga K "_law_is_int") fd
  f__law_source : ∃ fd, FnP K "_law_source" "_law_source" s__law_source (He.ga K "_law_source") fd
  f__law_take : ∃ fd, FnP K "_law_take" "_law_take" s__law_take (He.ga K "_law_take") fd
  f__law_is_ahead : ∃ fd, FnP K "_law_is_ahead" "_law_is_ahead" s__law_is_ahead (He.ga K "_law_is_ahead") fd
  f__law_are_pair : ∃ fd, FnP K "_law_are_pair" "_law_are_pair" s__law_are_pair (He.ga K "_law_are_pair") fd
  f__law_pairs : ∃ fd, FnP K "_law_pairs" "_law_pairs" s__law_pairs (He.ga K "_law_pairs") fd
  f__law_is_pairing : ∃ fd, FnP K "_law_is_pairing" "_law_is_pairing" s__law_is_pairing (He.ga K "_law_is_pairing") fd
  f__law_boards : ∃ fd, FnP K "_law_boards" "_law_boards" s__law_boards (He.ga K "_law_boards") fd
  f__law_names : ∃ fd, FnP K "_law_names" "_law_names" s__law_names (He.ga K "_law_names") fd
  f__law_points : ∃ fd, FnP K "_law_points" "_law_points" s__law_points (He.ga K "_law_points") fd
  f__law_counted : ∃ fd, FnP K "_law_counted" "_law_counted" s__law_counted (He.ga K "_law_counted") fd
  f__law_is_edge : ∃ fd, FnP K "_law_is_edge" "_law_is_edge" s__law_is_edge (He.ga K "_law_is_edge") fd
  f__law_is_met_edge : ∃ fd, FnP K "_law_is_met_edge" "_law_is_met_edge" s__law_is_met_edge (He.ga K "_law_is_met_edge") fd
  f_law : ∃ fd, FnP K "law" "law" s_law (He.ga K "law") fd
  f_Hall_init : ∃ fd, FnP K "__init__" "Hall.__init__" s_Hall_init (He.ma K (He.ga K "Hall") "__init__") fd
  f_Hall_keep : ∃ fd, FnP K "keep" "Hall.keep" s_Hall_keep (He.ma K (He.ga K "Hall") "keep") fd
  f_Search_init : ∃ fd, FnP K "__init__" "Search.__init__" s_Search_init (He.ma K (He.ga K "Search") "__init__") fd
  f_Search_is_stuck : ∃ fd, FnP K "is_stuck" "Search.is_stuck" s_Search_is_stuck (He.ma K (He.ga K "Search") "is_stuck") fd
  f_Search_go : ∃ fd, FnP K "go" "Search.go" s_Search_go (He.ma K (He.ga K "Search") "go") fd
theorem txt_of {K : PySem.W.Frag} {h : Heap} {mg : Str → Option Value} (X : K.In h) (G : h.Ns mainGlobals mg) (c : He.SaysD fa fn K) : Txt K mg where
  g_is_integer := He.glo_ok X G (c.fact 0 rfl)
  g_is_within := He.glo_ok X G (c.fact 1 rfl)
  g_is_letters := He.glo_ok X G (c.fact 2 rfl)
  g_is_word := He.glo_ok X G (c.fact 3 rfl)
  g_is_name := He.glo_ok X G (c.fact 4 rfl)
  g_is_words := He.glo_ok X G (c.fact 5 rfl)
  g_is_ascending := He.glo_ok X G (c.fact 6 rfl)
  g_is_lot := He.glo_ok X G (c.fact 7 rfl)
  g_mask_of := He.glo_ok X G (c.fact 8 rfl)
  g_lot_of := He.glo_ok X G (c.fact 9 rfl)
  g_mover_of := He.glo_ok X G (c.fact 10 rfl)
  g_is_board := He.glo_ok X G (c.fact 11 rfl)
  g_begun_rows := He.glo_ok X G (c.fact 12 rfl)
  g_is_fresh := He.glo_ok X G (c.fact 13 rfl)
  g_is_ahead := He.glo_ok X G (c.fact 14 rfl)
  g_are_pair := He.glo_ok X G (c.fact 15 rfl)
  g_all_pairs := He.glo_ok X G (c.fact 16 rfl)
  g_is_pairing := He.glo_ok X G (c.fact 17 rfl)
  g_partners := He.glo_ok X G (c.fact 18 rfl)
  g_greatest_of := He.glo_ok X G (c.fact 19 rfl)
  g_check_size := He.glo_ok X G (c.fact 20 rfl)
  g_greatest := He.glo_ok X G (c.fact 21 rfl)
  g_pairings := He.glo_ok X G (c.fact 22 rfl)
  g_outcomes := He.glo_ok X G (c.fact 23 rfl)
  g_check_points := He.glo_ok X G (c.fact 24 rfl)
  g_sum_of := He.glo_ok X G (c.fact 25 rfl)
  g_most_points := He.glo_ok X G (c.fact 26 rfl)
  g_met_points := He.glo_ok X G (c.fact 27 rfl)
  g_met_of := He.glo_ok X G (c.fact 28 rfl)
  g_names_of := He.glo_ok X G (c.fact 29 rfl)
  g_aims_in := He.glo_ok X G (c.fact 30 rfl)
  g_parts_of := He.glo_ok X G (c.fact 31 rfl)
  g_is_any_aim := He.glo_ok X G (c.fact 32 rfl)
  g_is_aim := He.glo_ok X G (c.fact 33 rfl)
  g_check_aim := He.glo_ok X G (c.fact 34 rfl)
  g_holds := He.glo_ok X G (c.fact 35 rfl)
  g_check_fresh := He.glo_ok X G (c.fact 36 rfl)
  g_two_sided_names := He.glo_ok X G (c.fact 37 rfl)
  g_is_choice := He.glo_ok X G (c.fact 38 rfl)
  g_choices := He.glo_ok X G (c.fact 39 rfl)
  g_chosen := He.glo_ok X G (c.fact 40 rfl)
  g_met_spoiler := He.glo_ok X G (c.fact 41 rfl)
  g_is_met_spoiler := He.glo_ok X G (c.fact 42 rfl)
  g_spoiling := He.glo_ok X G (c.fact 43 rfl)
  g_sure_of := He.glo_ok X G (c.fact 44 rfl)
  g_sure := He.glo_ok X G (c.fact 45 rfl)
  g_is_sure := He.glo_ok X G (c.fact 46 rfl)
  g_spoilers := He.glo_ok X G (c.fact 47 rfl)
  g_is_outcome := He.glo_ok X G (c.fact 48 rfl)
  g_are_spoilers := He.glo_ok X G (c.fact 49 rfl)
  g__law_is_int := He.glo_ok X G (c.fact 50 rfl)
  g__law_source := He.glo_ok X G (c.fact 51 rfl)
  g__law_take := He.glo_ok X G (c.fact 52 rfl)
  g__law_is_ahead := He.glo_ok X G (c.fact 53 rfl)
  g__law_are_pair := He.glo_ok X G (c.fact 54 rfl)
  g__law_pairs := He.glo_ok X G (c.fact 55 rfl)
  g__law_is_pairing := He.glo_ok X G (c.fact 56 rfl)
  g__law_boards := He.glo_ok X G (c.fact 57 rfl)
  g__law_names := He.glo_ok X G (c.fact 58 rfl)
  g__law_points := He.glo_ok X G (c.fact 59 rfl)
  g__law_counted := He.glo_ok X G (c.fact 60 rfl)
  g__law_is_edge := He.glo_ok X G (c.fact 61 rfl)
  g__law_is_met_edge := He.glo_ok X G (c.fact 62 rfl)
  g_law := He.glo_ok X G (c.fact 63 rfl)
  g_Hall := He.glo_ok X G (c.fact 64 rfl)
  g_Search := He.glo_ok X G (c.fact 65 rfl)
  b_all := He.free_ok X G (c.fact 66 rfl)
  b_any := He.free_ok X G (c.fact 67 rfl)
  b_bool := He.free_ok X G (c.fact 68 rfl)
  b_dict := He.free_ok X G (c.fact 69 rfl)
  b_enumerate := He.free_ok X G (c.fact 70 rfl)
  b_int := He.free_ok X G (c.fact 71 rfl)
  b_isinstance := He.free_ok X G (c.fact 72 rfl)
  b_len := He.free_ok X G (c.fact 73 rfl)
  b_max := He.free_ok X G (c.fact 74 rfl)
  b_min := He.free_ok X G (c.fact 75 rfl)
  b_range := He.free_ok X G (c.fact 76 rfl)
  b_sorted := He.free_ok X G (c.fact 77 rfl)
  b_str := He.free_ok X G (c.fact 78 rfl)
  b_sum := He.free_ok X G (c.fact 79 rfl)
  b_tuple := He.free_ok X G (c.fact 80 rfl)
  b_zip := He.free_ok X G (c.fact 81 rfl)
  c_MOST_LETTERS := He.int_ok X G (c.fact 82 rfl)
  c_MOST_NAME := He.int_ok X G (c.fact 83 rfl)
  c_MOST_BEGUN := He.int_ok X G (c.fact 84 rfl)
  c_MOST_BOARDS_halls := He.int_ok X G (c.fact 85 rfl)
  c_MOST_BOARDS_pairs := He.int_ok X G (c.fact 86 rfl)
  c_MOST_PAIRINGS := He.int_ok X G (c.fact 87 rfl)
  c_MOST_POINTS := He.int_ok X G (c.fact 88 rfl)
  c_MOST_AIMS := He.int_ok X G (c.fact 89 rfl)
  c_MOST_LEAST := He.int_ok X G (c.fact 90 rfl)
  c_MOST_DEEP := He.int_ok X G (c.fact 91 rfl)
  c_MOST_PARTS := He.int_ok X G (c.fact 92 rfl)
  c_MOST_CHOSEN := He.int_ok X G (c.fact 93 rfl)
  c_LETTERS := He.str_ok X G (c.fact 94 rfl)
  cl_Hall := He.cls_ok (c.fact 95 rfl)
  mk_Hall := He.mkr_ok (c.fact 96 rfl)
  kp_Hall := He.keep_ok (c.fact 97 rfl)
  cl_Search := He.cls_ok (c.fact 98 rfl)
  mk_Search := He.mkr_ok (c.fact 99 rfl)
  kp_Search := He.keep_ok (c.fact 100 rfl)
  na_Hall_boards := He.noat_ok (c.fact 101 rfl)
  na_Hall_names := He.noat_ok (c.fact 102 rfl)
  na_Search_near := He.noat_ok (c.fact 103 rfl)
  na_Search_boards := He.noat_ok (c.fact 104 rfl)
  na_Search_most := He.noat_ok (c.fact 105 rfl)
  na_Search_found := He.noat_ok (c.fact 106 rfl)
  me_Hall_keep := He.meth_ok (c.fact 107 rfl)
  me_Search_is_stuck := He.meth_ok (c.fact 108 rfl)
  me_Search_go := He.meth_ok (c.fact 109 rfl)
  f_is_integer := c.def_ 0 (d := d_is_integer) rfl
  f_is_within := c.def_ 1 (d := d_is_within) rfl
  f_is_letters := c.def_ 2 (d := d_is_letters) rfl
  f_is_word := c.def_ 3 (d := d_is_word) rfl
  f_is_name := c.def_ 4 (d := d_is_name) rfl
  f_is_words := c.def_ 5 (d := d_is_words) rfl
  f_is_ascending := c.def_ 6 (d := d_is_ascending) rfl
  f_is_lot := c.def_ 7 (d := d_is_lot) rfl
  f_mask_of := c.def_ 8 (d := d_mask_of) rfl
  f_lot_of := c.def_ 9 (d := d_lot_of) rfl
  f_mover_of := c.def_ 10 (d := d_mover_of) rfl
  f_is_board := c.def_ 11 (d := d_is_board) rfl
  f_begun_rows := c.def_ 12 (d := d_begun_rows) rfl
  f_is_fresh := c.def_ 13 (d := d_is_fresh) rfl
  f_is_ahead := c.def_ 14 (d := d_is_ahead) rfl
  f_are_pair := c.def_ 15 (d := d_are_pair) rfl
  f_all_pairs := c.def_ 16 (d := d_all_pairs) rfl
  f_is_pairing := c.def_ 17 (d := d_is_pairing) rfl
  f_partners := c.def_ 18 (d := d_partners) rfl
  f_greatest_of := c.def_ 19 (d := d_greatest_of) rfl
  f_check_size := c.def_ 20 (d := d_check_size) rfl
  f_greatest := c.def_ 21 (d := d_greatest) rfl
  f_pairings := c.def_ 22 (d := d_pairings) rfl
  f_outcomes := c.def_ 23 (d := d_outcomes) rfl
  f_check_points := c.def_ 24 (d := d_check_points) rfl
  f_sum_of := c.def_ 25 (d := d_sum_of) rfl
  f_most_points := c.def_ 26 (d := d_most_points) rfl
  f_met_points := c.def_ 27 (d := d_met_points) rfl
  f_met_of := c.def_ 28 (d := d_met_of) rfl
  f_names_of := c.def_ 29 (d := d_names_of) rfl
  f_aims_in := c.def_ 30 (d := d_aims_in) rfl
  f_parts_of := c.def_ 31 (d := d_parts_of) rfl
  f_is_any_aim := c.def_ 32 (d := d_is_any_aim) rfl
  f_is_aim := c.def_ 33 (d := d_is_aim) rfl
  f_check_aim := c.def_ 34 (d := d_check_aim) rfl
  f_holds := c.def_ 35 (d := d_holds) rfl
  f_check_fresh := c.def_ 36 (d := d_check_fresh) rfl
  f_two_sided_names := c.def_ 37 (d := d_two_sided_names) rfl
  f_is_choice := c.def_ 38 (d := d_is_choice) rfl
  f_choices := c.def_ 39 (d := d_choices) rfl
  f_chosen := c.def_ 40 (d := d_chosen) rfl
  f_met_spoiler := c.def_ 41 (d := d_met_spoiler) rfl
  f_is_met_spoiler := c.def_ 42 (d := d_is_met_spoiler) rfl
  f_spoiling := c.def_ 43 (d := d_spoiling) rfl
  f_sure_of := c.def_ 44 (d := d_sure_of) rfl
  f_sure := c.def_ 45 (d := d_sure) rfl
  f_is_sure := c.def_ 46 (d := d_is_sure) rfl
  f_spoilers := c.def_ 47 (d := d_spoilers) rfl
  f_is_outcome := c.def_ 48 (d := d_is_outcome) rfl
  f_are_spoilers := c.def_ 49 (d := d_are_spoilers) rfl
  f__law_is_int := c.def_ 50 (d := d__law_is_int) rfl
  f__law_source := c.def_ 51 (d := d__law_source) rfl
  f__law_take := c.def_ 52 (d := d__law_take) rfl
  f__law_is_ahead := c.def_ 53 (d := d__law_is_ahead) rfl
  f__law_are_pair := c.def_ 54 (d := d__law_are_pair) rfl
  f__law_pairs := c.def_ 55 (d := d__law_pairs) rfl
  f__law_is_pairing := c.def_ 56 (d := d__law_is_pairing) rfl
  f__law_boards := c.def_ 57 (d := d__law_boards) rfl
  f__law_names := c.def_ 58 (d := d__law_names) rfl
  f__law_points := c.def_ 59 (d := d__law_points) rfl
  f__law_counted := c.def_ 60 (d := d__law_counted) rfl
  f__law_is_edge := c.def_ 61 (d := d__law_is_edge) rfl
  f__law_is_met_edge := c.def_ 62 (d := d__law_is_met_edge) rfl
  f_law := c.def_ 63 (d := d_law) rfl
  f_Hall_init := c.def_ 64 (d := d_Hall_init) rfl
  f_Hall_keep := c.def_ 65 (d := d_Hall_keep) rfl
  f_Search_init := c.def_ 66 (d := d_Search_init) rfl
  f_Search_is_stuck := c.def_ 67 (d := d_Search_is_stuck) rfl
  f_Search_go := c.def_ 68 (d := d_Search_go) rfl
end Ug

/-! a def that is called by its name; loops and comprehensions that leave what stands as it stands -/
namespace Ug
open PySem PySem.Spec PyProof.Rows L2

/-- a promise: what is handed over, the heap, what is wanted -/
abbrev Prm := List V → Hp → VK → Prop
abbrev Prm.sp (p : Prm) : Sp := fun vs H Q _ => p vs H Q
/-- the def called x keeps the promise p -/
def Dfn (P : Program) (w : World) (K : PySem.W.Frag) (mg : Str → Option Value) (base : Heap) (k : Nat) (x : Str) (ps : List Str) (p : Prm) : Prop :=
  ∃ (f : Addr) (fd : FuncData), FnOk P w K mg base CX0 k f fd ps p.sp ∧ mg x = some (.ref f) ∧ PySem.W.keepIn K (.ref f) = true ∧ Binds K fd ps []
section
variable {P : Program} {w : World} {K : PySem.W.Frag} {mg : Str → Option Value} {base : Heap}
theorem Dfn.mk {x q : Str} {st : Stmt} {f : Addr} {N ps : List Str} {k : Nat} {p : Prm} (F : ∃ fd, FnP K x q st f fd) (g : mg x = some (.ref f)) (S : FnScope N ps (defScope st))
    (bind : ∀ (kV doc pm : Value) (an : Option Addr) (cdv ct : Value) (us : List Value), us.length = ps.length → bindArgs (PySem.W.fnOf x q (defArgs st) (defBody st) (defScope st) .none kV doc pm an cdv ct) ⟨us, []⟩ = pure (ps.zip us))
    (len : ∀ vs H Q, p vs H Q → vs.length = ps.length)
    (body : ∀ (cdv : Value) (A : Around) (outer : List Env) (s : Shared) (H : Hp) (vs : List V) (Q : VK) (E : XK), Room k (A.deeper (envOfC q (defScope st) s.heap.objs.size f cdv)) → p vs H Q →
      ∃ t, PSs (cxOf CX0 P w K mg base N q (defScope st) f cdv A outer s H E).nox (defBody st) t ∧ t { nx := fun _ H' => Q .non H', rt := Q } (start N vs) H) : Dfn P w K mg base (k + 1) x ps p := by
  obtain ⟨fd, F⟩ := F
  refine ⟨f, fd, F.ok S (fun vs H Q E h => len vs H Q h) fun cdv A outer s H vs Q E hr h => ?_, g, F.kp, F.bindsN bind⟩
  obtain ⟨t, h1, h2⟩ := body cdv A outer s H vs Q E hr h
  exact ⟨t, h1.nox, h2⟩
theorem Dfn.mono {x : Str} {ps : List Str} {j k : Nat} {p : Prm} (D : Dfn P w K mg base j x ps p) (h : j ≤ k) : Dfn P w K mg base k x ps p := let ⟨f, fd, F, r⟩ := D; ⟨f, fd, F.mono h, r⟩
/-- a promise that asks more or gives less -/
theorem Dfn.imp {x : Str} {ps : List Str} {k : Nat} {p p' : Prm} (D : Dfn P w K mg base k x ps p) (h : ∀ vs H Q, p' vs H Q → p vs H Q) : Dfn P w K mg base k x ps p' := let ⟨f, fd, F, r⟩ := D; ⟨f, fd, F.imp fun vs H Q E z => h vs H Q z, r⟩
end
theorem pe_c {X : Cx} {k : Nat} {x : Str} {ps : List Str} {sp : Prm} {p pos : Pos} {e : Expr} {es : List Expr} {t : TA} (D : Dfn X.prog X.w X.K X.mg X.base k x ps sp) (hr : Room k X.A) (ha : PA X (e :: es) t) (hg : Gl X x := by rfl) (hdb : (x == ("__debug__" : Str)) = false := by decide)
    (he : starEach (e :: es) X.env = (false, eval e X.env) :: starEach es X.env := by rfl) (hpl : (backTo pos (starEach es X.env)).any (·.1) = false := by rfl) : PE X (.Call (.Name x p) (e :: es) [] pos) (tCall sp.sp [] E0 t) := by
  obtain ⟨f, fd, F, hm, hk, hb⟩ := D
  exact pe_call F hr hg hm hk hb .nil pass0 ha hdb he hpl

/-! ### a loop that reads: the heap only grows -/
section
variable {K : PySem.W.Frag}
/-- a comprehension (no test) each of whose items gives a value that stands in the relation G to the turn; what stood stands -/
theorem lc_map {J : It} {n : Nat} {GH : Hp → Prop} {Y : Nat → Hp → V → Hp → Prop} (w : Walk J n GH Y) (hn : n ≤ 1000000) {g : TG} {te : TE} {vs : List Nat} {σ : L2.St} {H1 : Hp} {D : Addr} (hD : H1 D = none) {Qd : Hp → Prop} (R : Hp → Nat → V → Prop)
    (mono : ∀ H H' i y, Tk H H' → R H i y → R H' i y) (hG : ∀ H, Same H1 H → GH H)
    (hs : ∀ i x H H', i < n → Same H1 H → Y i H x H' → g x (wipe σ vs) H' fun σ2 H2 => wipe σ2 vs = wipe σ vs ∧ ∃ H3, H2 = H3 ∧ te σ2 H3 fun y H4 => Same H H4 ∧ R H4 i y)
    (hd : ∀ H ys, Same H1 H → H D = some (.lst ys) → ys.length = n → (∀ i y, ys[i]? = some y → R H i y) → Qd H)
    (tmono : ∀ σ H Q Q', (∀ y H', Q y H' → Q' y H') → te σ H Q → te σ H Q') (gmono : ∀ x σ H Q Q', (∀ σ' H', Q σ' H' → Q' σ' H') → g x σ H Q → g x σ H Q') :
    ∃ W : Nat → Nat → Hp → Prop, (∃ m, W 0 m (upd H1 D (.lst []))) ∧ ∀ i m H, W i m H →
      (J.stop i H ∧ Qd H) ∨ (J.go i H ∧ ∃ Nx : Hp → Prop, (∀ H', Nx H' → ∃ m', m' < m ∧ W (i + 1) m' H') ∧ ∀ x H', J.yld i H x H' → g x (wipe σ vs) H' fun σ2 H2 => wipe σ2 vs = wipe σ vs ∧ tYes σ2 H2 fun b H3 =>
        if b = true then te σ2 H3 fun y H4 => ∃ acc, H4 D = some (.lst acc) ∧ acc.length < sizeLine ∧ Nx (upd H4 D (.lst (acc ++ [y]))) else Nx H3) := by
  refine lc_it w (fun i H => Same H1 H ∧ ∃ ys, H D = some (.lst ys) ∧ ys.length = i ∧ ∀ j y, ys[j]? = some y → R H j y) ⟨Same.new hD, [], upd_same, rfl, fun j y h => by simp at h⟩ (fun i H _ p => hG H p.1) (fun i x H H' hi p y => ?_) fun H p => ?_
  · obtain ⟨s1, ys, hys, hl, hR⟩ := p
    refine gmono _ _ _ _ _ (fun σ2 H2 q => ?_) (hs i x H H' hi s1 y)
    obtain ⟨q1, H3, rfl, q2⟩ := q
    refine ⟨q1, ?_⟩
    unfold tYes
    dsimp only
    rw [if_pos rfl]
    refine tmono _ _ _ _ (fun z H4 q3 => ?_) q2
    obtain ⟨s4, r4⟩ := q3
    have e4 : H4 D = some (.lst ys) := s4 _ _ hys
    have k4 : Tk H4 (upd H4 D (.lst (ys ++ [z]))) := Tk.upd e4 (fun xs => by intro q; cases q)
    refine ⟨ys, e4, Nat.lt_of_lt_of_le (by rw [hl]; exact Nat.lt_of_lt_of_le hi hn) (by rw [sizeLine_eq]; decide), fun b o e => ?_, ys ++ [z], upd_same, by rw [List.length_append, hl]; rfl, fun j u hj => ?_⟩
    · rw [upd_ne (fun q => by rw [q, hD] at e; cases e)]
      exact s4 _ _ (s1 _ _ e)
    · rcases Nat.lt_or_ge j ys.length with lt | ge
      · rw [List.getElem?_append_left lt] at hj
        exact mono _ _ _ _ ((Same.tk s4).trans k4) (hR j u hj)
      · rw [List.getElem?_append_right ge] at hj
        have hj0 : j = ys.length := by
          rcases Nat.lt_or_ge (j - ys.length) 1 with q | q
          · omega
          · rw [List.getElem?_eq_none (by simpa using q)] at hj; cases hj
        subst hj0
        rw [Nat.sub_self] at hj
        cases hj
        rw [hl]
        exact mono _ _ _ _ k4 r4
  · obtain ⟨s1, ys, hys, hl, hR⟩ := p
    exact hd H ys s1 hys hl hR
end
end Ug

/-! parts of readings; what stands for a board, a hall, an aim -/
namespace Ug
open PySem PySem.Spec PyProof.Rows L2

/-- the facts, and what isinstance(.., Hall) asks of the class -/
structure Tx (K : PySem.W.Frag) (mg : Str → Option Value) : Prop extends Txt K mg where
  i1 : PySem.W.findIn K (.ref (He.ga K "Hall")) "__class__" = some (some (.builtin "object.__class__"))
  i2 : PySem.W.specialIn K (.builtin "object.__class__") "__get__" = some (some (.builtin "getset_descriptor.__get__"))
  i3 : PySem.W.takesIn K (.builtin "object.__class__") = some true
  i4 : PySem.W.mroIn K (He.ga K "Hall") (.type "object") = some true
  i5 : PySem.W.kitOne K (.ref (He.ga K "Hall")) (.ref (He.ga K "Hall")) = some true

theorem pe_gI {X : Cx} {x : Str} {n : Int} {pos : Pos} (hg : Gl X x) (h : ∃ t, X.mg x = some (.int n t)) (hd : (x == ("__debug__" : Str)) = false := by decide) : PE X (.Name x pos) (tC (.int n)) :=
  let ⟨t, e⟩ := h; pe_glob hg e ⟨t, rfl⟩ hd
theorem pe_gS {X : Cx} {x : Str} {z : Str} {pos : Pos} (hg : Gl X x) (h : ∃ t, X.mg x = some (.str z t)) (hd : (x == ("__debug__" : Str)) = false := by decide) : PE X (.Name x pos) (tC (.str z)) :=
  let ⟨t, e⟩ := h; pe_glob hg e ⟨t, rfl⟩ hd
theorem pe_gR {X : Cx} {x : Str} {a : Addr} {pos : Pos} (hg : Gl X x) (h : X.mg x = some (.ref a)) (hd : (x == ("__debug__" : Str)) = false := by decide) : PE X (.Name x pos) (tC (.ref a)) :=
  pe_glob hg h rfl hd
/-- two rules for one comparison -/
theorem op_or2 {X : Cx} {f : Value → Value → Sem Value} {r r' : R2} (h : OpR X f r) (h' : OpR X f r') : OpR X f (fun x y H Q => r x y H Q ∨ r' x y H Q) := by
  intro pins s σ H x y v u Q I rx ry q
  rcases q with q | q
  · exact h pins s σ H x y v u Q I rx ry q
  · exact h' pins s σ H x y v u Q I rx ry q
theorem call_or2 {X : Cx} {f : Value} {r r' : List V → Hp → VK → Prop} (h : CallR X f r) (h' : CallR X f r') : CallR X f (fun x H Q => r x H Q ∨ r' x H Q) := by
  intro pins s σ H x us Q I rx q
  rcases q with q | q
  · exact h pins s σ H x us Q I rx q
  · exact h' pins s σ H x us Q I rx q

theorem Same.refl (H : Hp) : Same H H := fun _ _ h => h
theorem Same.trans {H H1 H2 : Hp} (a : Same H H1) (b : Same H1 H2) : Same H H2 := fun c o h => b c o (a c o h)
theorem stp {H H' : Hp} (k : Same H H') {v : V} {xs : List V} (h : Tp H v xs) : Tp H' v xs := Tp.mono h (Same.tk k)
theorem sqt {K : PySem.W.Frag} {H H' : Hp} (k : Same H H') {a : Addr} {xs : List V} (h : SqT K H a xs) : SqT K H' a xs := h.imp (fun h => h.imp (k _ _) fun ⟨o, h⟩ => ⟨o, k _ _ h⟩) id
theorem sql {K : PySem.W.Frag} {H H' : Hp} (k : Same H H') {a : Addr} {xs : List V} (h : SqL K H a xs) : SqL K H' a xs := h.imp (fun h => h.imp (k _ _) fun ⟨o, h⟩ => ⟨o, k _ _ h⟩) id
theorem ltTA {X : Cx} {K : PySem.W.Frag} (hk : X.K = K) (hu : X.A.units < cLine) : OpR X (compareOp .Lt) (rLtT K) := by
  subst hk
  exact op_ltT hu

theorem callImp {X : Cx} {f : Value} {r r' : List V → Hp → VK → Prop} (h : CallR X f r) (i : ∀ xs H Q, r' xs H Q → r xs H Q) : CallR X f r' := fun pins s σ H xs us Q I rx q => h pins s σ H xs us Q I rx (i _ _ _ q)
theorem opImp {X : Cx} {f : Value → Value → Sem Value} {r r' : R2} (h : OpR X f r) (i : ∀ x y H Q, r' x y H Q → r x y H Q) : OpR X f r' := fun pins s σ H x y v u Q I rx ry q => h pins s σ H x y v u Q I rx ry (i _ _ _ _ q)
theorem ixImp {X : Cx} {r r' : R2} (h : IxR X r) (i : ∀ x y H Q, r' x y H Q → r x y H Q) : IxR X r' := fun a b pins s σ H x y v u Q I rx ry q => h a b pins s σ H x y v u Q I rx ry (i _ _ _ _ q)
/-- isinstance -/
def IsI (K : PySem.W.Frag) (H : Hp) (xs : List V) (b : Bool) : Prop := ∃ x c t u, xs = [x, c] ∧ ClsV c u ∧ TyX K H x t ∧ PySem.W.kitOne K t u = some b
theorem isiA {X : Cx} {K : PySem.W.Frag} (hk : X.K = K) : CallR X (.builtin "isinstance") (fun xs H Q => ∃ b, IsI K H xs b ∧ Q (.bl b) H) := by
  subst hk
  exact callImp call_isi fun xs H Q ⟨b, ⟨x, c, t, u, h1, h2, h3, h4⟩, q⟩ => ⟨x, c, t, u, b, h1, h2, h3, h4, q⟩
/-- len -/
def LenIs (K : PySem.W.Frag) (H : Hp) (xs : List V) (n : Nat) : Prop := ∃ p ys, xs = [V.ref p] ∧ (SqL K H p ys ∨ SqT K H p ys) ∧ ys.length = n
theorem lenA {X : Cx} {K : PySem.W.Frag} (hk : X.K = K) : CallR X (.builtin "len") (fun xs H Q => ∃ n : Nat, LenIs K H xs n ∧ Q (.int n) H) := by
  subst hk
  exact callImp call_len_seq fun xs H Q ⟨n, ⟨p, ys, h1, h2, h3⟩, q⟩ => ⟨p, ys, h1, h2, by rw [h3]; exact q⟩
/-- an item -/
def IxIs (K : PySem.W.Frag) (H : Hp) (x y v : V) : Prop := ∃ p xs i, x = .ref p ∧ y = .int i ∧ SqT K H p xs ∧ atI xs i = some v
theorem ixA {X : Cx} {K : PySem.W.Frag} (hk : X.K = K) : IxR X (fun x y H Q => ∃ v, IxIs K H x y v ∧ Q v H) := by
  subst hk
  exact ixImp ix_tup fun x y H Q ⟨v, ⟨p, xs, i, h1, h2, h3, h4⟩, q⟩ => ⟨p, xs, i, v, h1, h2, h3, h4, q⟩
def IxLs (K : PySem.W.Frag) (H : Hp) (x y v : V) : Prop := ∃ p xs i, x = .ref p ∧ y = .int i ∧ SqL K H p xs ∧ atI xs i = some v
theorem ixLA {X : Cx} {K : PySem.W.Frag} (hk : X.K = K) : IxR X (fun x y H Q => ∃ v, IxLs K H x y v ∧ Q v H) := by
  subst hk
  exact ixImp ix_list fun x y H Q ⟨v, ⟨p, xs, i, h1, h2, h3, h4⟩, q⟩ => ⟨p, xs, i, v, h1, h2, h3, h4, q⟩
/-- all, any of a list of truth values -/
def BlsAre (K : PySem.W.Frag) (H : Hp) (xs : List V) (bs : List Bool) : Prop := ∃ a, xs = [V.ref a] ∧ SqL K H a (bs.map V.bl)
theorem allA {X : Cx} {K : PySem.W.Frag} (hc : X.calm = true) (hk : X.K = K) : CallR X (.builtin "all") (fun xs H Q => ∃ bs, BlsAre K H xs bs ∧ Q (.bl (bs.all id)) H) := by
  subst hk
  exact callImp (cr_all hc) fun xs H Q ⟨bs, ⟨a, h1, h2⟩, q⟩ => ⟨a, bs, h1, h2, q⟩
theorem tupA {X : Cx} {K : PySem.W.Frag} (hk : X.K = K) : CallR X (.type "tuple") (fun xs H Q => ∃ p ys, xs = [V.ref p] ∧ ((SqL K H p ys ∧ ∀ l, H l = none → Q (.ref l) (upd H l (.tup ys))) ∨ SqT K H p ys ∧ Q (.ref p) H)) := by
  subst hk
  exact call_tuple_of
theorem piL {X : Cx} {K : PySem.W.Frag} {tg l : Expr} {tl : TE} (hk : X.K = K) (h : PE X l tl) : PI X tg l (iList K tl) := by
  subst hk
  exact pi_list h
theorem piT {X : Cx} {K : PySem.W.Frag} {tg l : Expr} {tl : TE} (hk : X.K = K) (h : PE X l tl) : PI X tg l (iTup K tl) := by
  subst hk
  exact pi_tup h
/-- a slice of a tuple, tuples joined -/
theorem slA {X : Cx} : SlR X (fun x lo hi H Q => ∃ xs, Tp H x xs ∧ ∀ v H', Same H H' → Tp H' v (cutV xs lo hi) → Q v H') := fun pins s σ H x v vl vu lo hi sl Q I rx e1 e2 e3 => by
  rintro ⟨xs, ⟨a, rfl, t⟩, q⟩
  refine sl_tupA pins s σ H _ v vl vu lo hi sl Q I rx e1 e2 e3 ⟨a, xs, rfl, SqT.of t, fun z => q _ _ (fun _ _ e => e) ⟨a, rfl, ?_⟩, fun _ p hp => q _ _ (Same.new hp) ⟨p, rfl, upd_same⟩⟩
  have : cutV xs lo hi = xs := by
    unfold cutV
    rw [z.1, z.2, List.drop_zero, Nat.sub_zero, List.take_length]
  rw [this]; exact t
theorem catA {X : Cx} : OpR X (binaryOp .Add) (fun x y H Q => ∃ xs ys, Tp H x xs ∧ Tp H y ys ∧ xs.length + ys.length ≤ 1000000 ∧ ∀ v H', Same H H' → Tp H' v (xs ++ ys) → Q v H') := opImp op_catA fun x y H Q => by
  rintro ⟨xs, ys, ⟨a, rfl, t⟩, ⟨b, rfl, u⟩, hl, q⟩
  refine ⟨a, b, xs, ys, rfl, rfl, SqT.of t, SqT.of u, Nat.le_trans hl (by rw [sizeLine_eq]; decide), fun e => q _ _ (fun _ _ e => e) ⟨b, rfl, by rw [e]; exact u⟩, fun _ e => q _ _ (fun _ _ e => e) ⟨a, rfl, by rw [e, List.append_nil]; exact t⟩, fun _ _ p hp => q _ _ (Same.new hp) ⟨p, rfl, upd_same⟩⟩
section
variable {K : PySem.W.Frag} {H : Hp} {v : V} {xs : List V} {Q : VK}
theorem isi_tt (h : Tp H v xs) : IsI K H [v, .ty "tuple"] true := by
  obtain ⟨a, rfl, t⟩ := h
  exact ⟨_, _, _, _, rfl, .ty _, .base (.tup t), kit_ty (by decide +kernel)⟩
theorem isi_ti (h : Tp H v xs) : IsI K H [v, .ty "int"] false := by
  obtain ⟨a, rfl, t⟩ := h
  exact ⟨_, _, _, _, rfl, .ty _, .base (.tup t), kit_ty (by decide +kernel)⟩
theorem isi_ii {n : Int} : IsI K H [.int n, .ty "int"] true := ⟨_, _, _, _, rfl, .ty _, .base (.int _), kit_ty (by decide +kernel)⟩
theorem isi_ib {n : Int} : IsI K H [.int n, .ty "bool"] false := ⟨_, _, _, _, rfl, .ty _, .base (.int _), kit_ty (by decide +kernel)⟩
theorem isi_it {n : Int} : IsI K H [.int n, .ty "tuple"] false := ⟨_, _, _, _, rfl, .ty _, .base (.int _), kit_ty (by decide +kernel)⟩
theorem isi_ss {z : Str} : IsI K H [.str z, .ty "str"] true := ⟨_, _, _, _, rfl, .ty _, .base (.str _), kit_ty (by decide +kernel)⟩
theorem isi_hall {mg : Str → Option Value} (T : Tx K mg) {a dx : Addr} {fs : List (Str × V)} (h : H a = some (.ins (He.ga K "Hall") dx fs)) : IsI K H [.ref a, .ref (He.ga K "Hall")] true :=
  ⟨_, _, _, _, rfl, .own _, .base (.ins h T.cl_Hall T.i1 T.i2 T.i3 T.i4), T.i5⟩
theorem len_t (h : Tp H v xs) : LenIs K H [v] xs.length := by
  obtain ⟨a, rfl, t⟩ := h
  exact ⟨a, xs, rfl, .inr (SqT.of t), rfl⟩
theorem len_l {a : Addr} (h : H a = some (.lst xs)) : LenIs K H [.ref a] xs.length := ⟨a, xs, rfl, .inl (SqL.of h), rfl⟩
theorem ix_t {j : Nat} {y : V} (h : Tp H v xs) (e : xs[j]? = some y) : IxIs K H v (.int (j : Nat)) y := let ⟨a, ea, t⟩ := h; ⟨a, xs, j, ea, rfl, SqT.of t, atI_nat e⟩
theorem ix_0 {y : V} {r : List V} (h : Tp H v (y :: r)) : IxIs K H v (.int 0) y := ix_t (j := 0) h rfl
theorem ix_1 {x y : V} {r : List V} (h : Tp H v (x :: y :: r)) : IxIs K H v (.int 1) y := ix_t (j := 1) h rfl
theorem ix_2 {x y z : V} {r : List V} (h : Tp H v (x :: y :: z :: r)) : IxIs K H v (.int 2) z := ix_t (j := 2) h rfl
theorem ix_l {a : Addr} {j : Nat} {y : V} (h : H a = some (.lst xs)) (e : xs[j]? = some y) : IxLs K H (.ref a) (.int (j : Nat)) y := ⟨a, xs, j, rfl, rfl, SqL.of h, atI_nat e⟩
theorem ix_tm {y : V} {ys : List V} (h : Tp H v (ys ++ [y])) : IxIs K H v (.int (-1)) y := let ⟨a, ea, t⟩ := h; ⟨a, ys ++ [y], -1, ea, rfl, SqT.of t, atI_last ys y⟩
/-- targets -/
theorem tg2 {i j : Nat} {x y : V} {σ : L2.St} {Q : L2.St → Hp → Prop} (h : Tp H v [x, y]) (q : Q ((σ.set i (some x)).set j (some y)) H) : gTup K 2 (gCons (gName i) (gCons (gName j) gNil)) v σ H Q :=
  let ⟨a, ea, t⟩ := h; ⟨a, [x, y], ea, SqT.of t, rfl, x, [y], rfl, y, [], rfl, rfl, q⟩
theorem tg3 {i j k : Nat} {x y z : V} {σ : L2.St} {Q : L2.St → Hp → Prop} (h : Tp H v [x, y, z]) (q : Q (((σ.set i (some x)).set j (some y)).set k (some z)) H) : gTup K 3 (gCons (gName i) (gCons (gName j) (gCons (gName k) gNil))) v σ H Q :=
  let ⟨a, ea, t⟩ := h; ⟨a, [x, y, z], ea, SqT.of t, rfl, x, [y, z], rfl, y, [z], rfl, z, [], rfl, rfl, q⟩
theorem sIx1 (n d : Nat) : HT.sIx n d (some 1) = min 1 n := by
  show (if (1 : Int) < 0 then ((1 : Int) + n).toNat else min (1 : Int).toNat n) = _
  rw [if_neg (by decide)]
  rfl
theorem cut1 (xs : List V) : cutV xs (some 1) none = xs.drop 1 := by
  unfold cutV
  rw [sIx1]
  show List.take (xs.length - min 1 xs.length) (List.drop (min 1 xs.length) xs) = _
  cases xs with
  | nil => rfl
  | cons x r =>
    have : min 1 (x :: r).length = 1 := by simp
    rw [this]
    simp
end

/-! ### comprehensions and loops that leave what stands -/
def GMono (g : TG) : Prop := ∀ x σ H (Q Q' : L2.St → Hp → Prop), (∀ σ' H', Q σ' H' → Q' σ' H') → g x σ H Q → g x σ H Q'
def GsMono (g : TGs) : Prop := ∀ x σ H (Q Q' : L2.St → Hp → Prop), (∀ σ' H', Q σ' H' → Q' σ' H') → g x σ H Q → g x σ H Q'
theorem gm_name {i : Nat} : GMono (gName i) := fun x σ H Q Q' h q => h _ _ q
theorem gm_nil : GsMono gNil := fun x σ H Q Q' h q => ⟨q.1, h _ _ q.2⟩
theorem gm_cons {g : TG} {u : TGs} (a : GMono g) (b : GsMono u) : GsMono (gCons g u) := fun x σ H Q Q' h ⟨v, r, e, q⟩ => ⟨v, r, e, a _ _ _ _ _ (fun σ' H' z => b _ _ _ _ _ h z) q⟩
theorem gm_tup {K : PySem.W.Frag} {n : Nat} {u : TGs} (b : GsMono u) : GMono (gTup K n u) := fun x σ H Q Q' h ⟨a, xs, e, s, l, q⟩ => ⟨a, xs, e, s, l, b _ _ _ _ _ h q⟩
section
variable {K : PySem.W.Frag}
theorem room_le1 {n : Nat} (h : n ≤ 1000000) : n ≤ sizeLine := Nat.le_trans h (by rw [sizeLine_eq]; decide)
/-- a comprehension without a test: each turn gives a value that stands in R to it; what stood stands -/
theorem lc_all {J : It} {n : Nat} {GH : Hp → Prop} {Y : Nat → Hp → V → Hp → Prop} (w : Walk J n GH Y) (hn : n ≤ 1000000) {g : TG} {te : TE} {vs : List Nat} {σ : L2.St} {H1 : Hp} {D : Addr} (hD : H1 D = none) {Qd : Hp → Prop} (R : Hp → Nat → V → Prop)
    (mono : ∀ H H' i y, Tk H H' → R H i y → R H' i y) (hG : ∀ H, Same H1 H → GH H)
    (hs : ∀ i x H H' (Qc : VK), i < n → Same H1 H → Y i H x H' → (∀ y H4, Same H H4 → R H4 i y → Qc y H4) → g x (wipe σ vs) H' fun σ2 H2 => wipe σ2 vs = wipe σ vs ∧ te σ2 H2 Qc)
    (hd : ∀ H ys, Same H1 H → H D = some (.lst ys) → ys.length = n → (∀ i y, ys[i]? = some y → R H i y) → Qd H) :
    ∃ W : Nat → Nat → Hp → Prop, (∃ m, W 0 m (upd H1 D (.lst []))) ∧ ∀ i m H, W i m H →
      (J.stop i H ∧ Qd H) ∨ (J.go i H ∧ ∃ Nx : Hp → Prop, (∀ H', Nx H' → ∃ m', m' < m ∧ W (i + 1) m' H') ∧ ∀ x H', J.yld i H x H' → g x (wipe σ vs) H' fun σ2 H2 => wipe σ2 vs = wipe σ vs ∧ tYes σ2 H2 fun b H3 =>
        if b = true then te σ2 H3 fun y H4 => ∃ acc, H4 D = some (.lst acc) ∧ acc.length < sizeLine ∧ Nx (upd H4 D (.lst (acc ++ [y]))) else Nx H3) := by
  refine lc_it w (fun i H => Same H1 H ∧ ∃ ys, H D = some (.lst ys) ∧ ys.length = i ∧ ∀ j y, ys[j]? = some y → R H j y) ⟨Same.new hD, [], upd_same, rfl, fun j y h => by simp at h⟩ (fun i H _ p => hG H p.1) (fun i x H H' hi p y => ?_) fun H p => ?_
  · obtain ⟨s1, ys, hys, hl, hR⟩ := p
    have K := hs i x H H' (fun z H4 => ∃ acc, H4 D = some (.lst acc) ∧ acc.length < sizeLine ∧ (Same H1 (upd H4 D (.lst (acc ++ [z]))) ∧ ∃ ys, upd H4 D (.lst (acc ++ [z])) D = some (.lst ys) ∧ ys.length = i + 1 ∧ ∀ j y, ys[j]? = some y → R (upd H4 D (.lst (acc ++ [z]))) j y)) hi s1 y fun z H4 s4 r4 => ?_
    · exact K
    have e4 : H4 D = some (.lst ys) := s4 _ _ hys
    have k4 : Tk H4 (upd H4 D (.lst (ys ++ [z]))) := Tk.upd e4 (fun xs => by intro q; cases q)
    refine ⟨ys, e4, Nat.lt_of_lt_of_le (by rw [hl]; exact Nat.lt_of_lt_of_le hi hn) (by rw [sizeLine_eq]; decide), fun b o e => ?_, ys ++ [z], upd_same, by rw [List.length_append, hl]; rfl, fun j u hj => ?_⟩
    · rw [upd_ne (fun q => by rw [q, hD] at e; cases e)]
      exact s4 _ _ (s1 _ _ e)
    · rcases Nat.lt_or_ge j ys.length with lt | ge
      · rw [List.getElem?_append_left lt] at hj
        exact mono _ _ _ _ ((Same.tk s4).trans k4) (hR j u hj)
      · rw [List.getElem?_append_right ge] at hj
        have hj0 : j = ys.length := by
          rcases Nat.lt_or_ge (j - ys.length) 1 with q | q
          · omega
          · rw [List.getElem?_eq_none (by simpa using q)] at hj; cases hj
        subst hj0
        rw [Nat.sub_self] at hj
        cases hj
        rw [hl]
        exact mono _ _ _ _ k4 r4
  · obtain ⟨s1, ys, hys, hl, hR⟩ := p
    exact hd H ys s1 hys hl hR
/-- a comprehension with a test: the turns that keep give values that stand for the kept ones' items -/
theorem lc_filt {β : Type} {J : It} {n : Nat} {GH : Hp → Prop} {Y : Nat → Hp → V → Hp → Prop} (w : Walk J n GH Y) (hn : n ≤ 1000000) {g : TG} {tt : TT} {te : TE} {vs : List Nat} {σ : L2.St} {H1 : Hp} {D : Addr} (hD : H1 D = none) {Qd : Hp → Prop}
    (bs : List β) (hl : bs.length = n) (f : β → Bool) (R : Hp → V → β → Prop) (gm : GMono g)
    (mono : ∀ H H' b y, Tk H H' → R H y b → R H' y b) (hG : ∀ H, Same H1 H → GH H)
    (hs : ∀ i x H H' b, bs[i]? = some b → Same H1 H → Y i H x H' → g x (wipe σ vs) H' fun σ2 H2 => wipe σ2 vs = wipe σ vs ∧ (∀ Qb : Bool → Hp → Prop, (∀ H3, Same H H3 → Qb (f b) H3) → tt σ2 H2 Qb) ∧
      ∀ H3 (Qc : VK), Same H H3 → f b = true → (∀ y H4, Same H H4 → R H4 y b → Qc y H4) → te σ2 H3 Qc)
    (hd : ∀ H ys, Same H1 H → H D = some (.lst ys) → Paired (R H) ys (bs.filter f) → Qd H) :
    ∃ W : Nat → Nat → Hp → Prop, (∃ m, W 0 m (upd H1 D (.lst []))) ∧ ∀ i m H, W i m H →
      (J.stop i H ∧ Qd H) ∨ (J.go i H ∧ ∃ Nx : Hp → Prop, (∀ H', Nx H' → ∃ m', m' < m ∧ W (i + 1) m' H') ∧ ∀ x H', J.yld i H x H' → g x (wipe σ vs) H' fun σ2 H2 => wipe σ2 vs = wipe σ vs ∧ tt σ2 H2 fun b H3 =>
        if b = true then te σ2 H3 fun y H4 => ∃ acc, H4 D = some (.lst acc) ∧ acc.length < sizeLine ∧ Nx (upd H4 D (.lst (acc ++ [y]))) else Nx H3) := by
  refine lc_it w (fun i H => Same H1 H ∧ ∃ ys, H D = some (.lst ys) ∧ Paired (R H) ys ((bs.take i).filter f)) ⟨Same.new hD, [], upd_same, by rw [List.take_zero]; exact .nil⟩ (fun i H _ p => hG H p.1) (fun i x H H' hi p y => ?_) fun H p => ?_
  · obtain ⟨s1, ys, hys, hR⟩ := p
    have hib : i < bs.length := by omega
    have hb : bs[i]? = some bs[i] := List.getElem?_eq_getElem hib
    have tk : bs.take (i + 1) = bs.take i ++ [bs[i]] := by rw [List.take_add_one, hb]; rfl
    have ylen : ys.length ≤ i := by
      rw [hR.length]
      exact Nat.le_trans (List.length_filter_le _ _) (by rw [List.length_take]; omega)
    refine gm _ _ _ _ _ (fun σ2 H2 q => ?_) (hs i x H H' _ hb s1 y)
    obtain ⟨q1, q2, q3⟩ := q
    refine ⟨q1, q2 _ fun H3 s3 => ?_⟩
    cases hf : f bs[i] with
    | true =>
      refine iteT (q3 H3 _ s3 hf fun z H4 s4 r4 => ?_)
      have e4 : H4 D = some (.lst ys) := s4 _ _ hys
      have k4 : Tk H4 (upd H4 D (.lst (ys ++ [z]))) := Tk.upd e4 (fun xs => by intro q; cases q)
      refine ⟨ys, e4, Nat.lt_of_le_of_lt ylen (Nat.lt_of_lt_of_le (Nat.lt_of_lt_of_le hi hn) (by rw [sizeLine_eq]; decide)), fun b o e => ?_, ys ++ [z], upd_same, ?_⟩
      · rw [upd_ne (fun q => by rw [q, hD] at e; cases e)]
        exact s4 _ _ (s1 _ _ e)
      · rw [tk, List.filter_append, List.filter_cons_of_pos hf, List.filter_nil]
        exact (pimp (fun a b => mono _ _ _ _ ((Same.tk s4).trans k4)) hR).snoc (mono _ _ _ _ k4 r4)
    | false =>
      refine iteF ⟨fun b o e => s3 _ _ (s1 _ _ e), ys, s3 _ _ hys, ?_⟩
      rw [tk, List.filter_append, List.filter_cons_of_neg (by rw [hf]; exact Bool.false_ne_true), List.filter_nil, List.append_nil]
      exact pimp (fun a b => mono _ _ _ _ (Same.tk s3)) hR
  · obtain ⟨s1, ys, hys, hR⟩ := p
    rw [List.take_of_length_le (by omega)] at hR
    exact hd H ys s1 hys hR
end
/-- a list all of whose items are True -/
theorem bls_true : ∀ {ys : List V}, (∀ (i : Nat) (y : V), ys[i]? = some y → y = V.bl true) → ys = (List.replicate ys.length true).map V.bl
  | [], _ => rfl
  | y :: ys, h => by
    have h0 : y = .bl true := h 0 y rfl
    rw [List.length_cons, List.replicate_succ, List.map_cons, ← bls_true (ys := ys) fun i z hz => h (i + 1) z hz, h0]
theorem all_true {K : PySem.W.Frag} {H : Hp} {D : Addr} {ys : List V} (h : H D = some (.lst ys)) (a : ∀ (i : Nat) (y : V), ys[i]? = some y → y = V.bl true) : BlsAre K H [.ref D] (List.replicate ys.length true) :=
  ⟨D, rfl, SqL.of ((bls_true a) ▸ h)⟩
theorem all_rep (n : Nat) : (List.replicate n true).all id = true := by simp
end Ug

/-! checks.py -/
namespace Ug
open PySem PySem.Spec PyProof.Rows L2
theorem iteC {c : Prop} [Decidable c] {A B : Prop} (h : c) (a : A) : if decide c = true then A else B := by rw [if_pos (decide_eq_true h)]; exact a
theorem iteCN {c : Prop} [Decidable c] {A B : Prop} (h : ¬ c) (b : B) : if decide c = true then A else B := by rw [if_neg (by rw [decide_eq_false h]; exact Bool.false_ne_true)]; exact b
theorem iteNN {c : Prop} [Decidable c] {A B : Prop} (h : ¬ c) (a : A) : if (!decide c) = true then A else B := by rw [if_pos (by rw [decide_eq_false h]; rfl)]; exact a
theorem or_nat (m k : Nat) : Builtin.bitOr (m : Int) (1 * 2 ^ ((k : Int)).toNat) = ((m ||| (1 <<< k) : Nat) : Int) := by
  have e : ((1 : Int) * 2 ^ ((k : Int)).toNat) = ((2 ^ k : Nat) : Int) := by
    rw [Int.toNat_natCast, Int.one_mul]
    exact (Int.natCast_pow 2 k).symm
  rw [e, Bits.bitOr_pp (Int.natCast_nonneg _) (Int.natCast_nonneg _), Int.toNat_natCast, Int.toNat_natCast, Nat.one_shiftLeft]
/-- the letters -/
def abc : Str := "abcdefghijklmnopqrstuvwxyz"
structure Lets (z : Str) (m : Nat) : Prop where
  lo : 1 ≤ z.length
  hi : z.length ≤ m
  small : m ≤ 1000
  all : ∀ c ∈ z.cps.toList, c ∈ abc.cps.toList
/-- one item before another -/
def ltV (H : Hp) (x y : V) : Prop := (∃ i j : Int, x = .int i ∧ y = .int j ∧ i < j) ∨ ∃ ns ms : List Int, Tp H x (ns.map V.int) ∧ Tp H y (ms.map V.int) ∧ HT.lexLt ns ms = true
theorem ltV.mono {H H' : Hp} (k : Tk H H') {x y : V} (h : ltV H x y) : ltV H' x y := h.imp id fun ⟨ns, ms, a, b, c⟩ => ⟨ns, ms, a.mono k, b.mono k, c⟩
/-- the bits of a mask, from below -/
structure BitsAre (m : Nat) (l : List Nat) : Prop where
  asc : l.Pairwise (· < ·)
  mem : ∀ k, k ∈ l ↔ m.testBit k = true
section
variable {P : Program} {w : World} {K : PySem.W.Frag} {mg : Str → Option Value} {base : Heap}
abbrev n_is_integer : List Str := ["thing"]
theorem sc_is_integer : FnScope ["thing"] ["thing"] (defScope s_is_integer) := ⟨rfl, rfl, rfl, by decide +kernel, rfl, by decide +kernel, by decide +kernel⟩
theorem ok_is_integer (T : Tx K mg) : Dfn P w K mg base 1 "is_integer" ["thing"] (fun vs H Q => ∃ v, vs = [v] ∧ ((∃ n, v = .int n) ∧ Q (.bl true) H ∨ (∃ xs, Tp H v xs) ∧ Q (.bl false) H)) :=
  Dfn.mk T.f_is_integer T.g_is_integer sc_is_integer (fun _ _ _ _ _ _ us hl => match us, hl with | [_], _ => rfl) (fun vs H Q h => by obtain ⟨v, rfl, _⟩ := h; rfl) fun cdv A outer s H vs Q E hr h => by
  obtain ⟨v, rfl, h⟩ := h
  refine ⟨_, (pss_one (ps_ret (pe_and (pe_callB (isiA (K := K) rfl) (by rfl) T.b_isinstance (by decide +kernel) (pa_cons (pv 0) (pa_cons (pe_bltn (v := .ty "int") (by rfl) T.b_int boot_int rfl) pa_nil))) (pe_one (pe_not (pe_callB (isiA (K := K) rfl) (by rfl) T.b_isinstance (by decide +kernel) (pa_cons (pv 0) (pa_cons (pe_bltn (v := .ty "bool") (by rfl) T.b_bool boot_bool rfl) pa_nil)))))))), ?_⟩
  rcases h with ⟨⟨n, rfl⟩, q⟩ | ⟨⟨xs, ht⟩, q⟩
  · exact ⟨_, rfl, _, isi_ii, _, rfl, iteT ⟨_, rfl, _, isi_ib, _, rfl, q⟩⟩
  · exact ⟨_, rfl, _, isi_ti ht, _, rfl, iteF q⟩
abbrev n_is_within : List Str := ["thing", "least", "most"]
theorem sc_is_within : FnScope ["thing", "least", "most"] ["thing", "least", "most"] (defScope s_is_within) := ⟨rfl, rfl, rfl, by decide +kernel, rfl, by decide +kernel, by decide +kernel⟩
theorem ok_is_within (T : Tx K mg) : Dfn P w K mg base 2 "is_within" ["thing", "least", "most"] (fun vs H Q => ∃ v a b, vs = [v, .int a, .int b] ∧ ((∃ n, v = .int n ∧ Q (.bl (decide (a ≤ n) && decide (n ≤ b))) H) ∨ (∃ xs, Tp H v xs) ∧ Q (.bl false) H)) :=
  Dfn.mk T.f_is_within T.g_is_within sc_is_within (fun _ _ _ _ _ _ us hl => match us, hl with | [_, _, _], _ => rfl) (fun vs H Q h => by obtain ⟨v, a, b, rfl, _⟩ := h; rfl) fun cdv A outer s H vs Q E hr h => by
  obtain ⟨v, a, b, rfl, h⟩ := h
  refine ⟨_, (pss_one (ps_ret (pe_and (pe_c ((ok_is_integer T).mono (by decide)) hr (pa_cons (pv 0) pa_nil)) (pe_one (pe_chain op_le op_le (pv 1) (pv 0) (pv 2)))))), ?_⟩
  rcases h with ⟨n, rfl, q⟩ | ⟨⟨xs, ht⟩, q⟩
  · refine ⟨_, rfl, _, rfl, .inl ⟨⟨n, rfl⟩, true, rfl, iteT ⟨_, rfl, _, rfl, _, _, rfl, rfl, _, rfl, ite2 (fun c => ⟨_, rfl, _, _, rfl, rfl, ?_⟩) fun c => ?_⟩⟩⟩
    · rw [c, Bool.true_and] at q; exact q
    · rw [Bool.eq_false_iff.mpr c, Bool.false_and] at q; exact q
  · exact ⟨_, rfl, _, rfl, .inr ⟨⟨xs, ht⟩, false, rfl, iteF q⟩⟩
abbrev n_is_letters : List Str := ["thing", "most", "sign"]
theorem sc_is_letters : FnScope ["thing", "most", "sign"] ["thing", "most"] (defScope s_is_letters) := ⟨rfl, rfl, rfl, by decide +kernel, rfl, by decide +kernel, by decide +kernel⟩
theorem ok_is_letters (T : Tx K mg) : Dfn P w K mg base 1 "is_letters" ["thing", "most"] (fun vs H Q => ∃ (z : Str) (m : Nat), vs = [.str z, .int (m : Nat)] ∧ Lets z m ∧ ∀ H', Same H H' → Q (.bl true) H') :=
  Dfn.mk T.f_is_letters T.g_is_letters sc_is_letters (fun _ _ _ _ _ _ us hl => match us, hl with | [_, _], _ => rfl) (fun vs H Q h => by obtain ⟨z, m, rfl, _⟩ := h; rfl) fun cdv A outer s H vs Q E hr h => by
  obtain ⟨z, m, rfl, L, q⟩ := h
  refine ⟨_, (pss_cons (ps_if (PW.pt (pw_or (pt_not (pt_val (pe_callB (isiA (K := K) rfl) (by rfl) T.b_isinstance (by decide +kernel) (pa_cons (pv 0) (pa_cons (pe_bltn (v := .ty "str") (by rfl) T.b_str boot_str rfl) pa_nil))))) (pw_or1 (pt_not (pt_chain op_le op_le pe_int (pe_callB call_len_str (by rfl) T.b_len (by decide +kernel) (pa_cons (pv 0) pa_nil)) (pv 1)))))) pss_never pss_nil)
  (pss_one (ps_ret (pe_callB (allA (K := K) rfl rfl) (by rfl) T.b_all (by decide +kernel) (pa_cons (pe_lc (own := [("sign", 2)]) (g := (gName 2)) (tt := tYes) rfl sc_is_letters.nd (pi_str (pv 0)) (blkOk_by (own := [("sign", 2)]) (N := n_is_letters) (sc := defScope s_is_letters) (by decide +kernel)) (fun _ _ _ _ _ => (pg_name (i := 2) sc_is_letters.nd rfl (Or.inl rfl))) (fun _ _ _ _ _ => pts_nil) (fun _ _ _ _ _ => (pe_cmpR op_in_sign (pv 2) (pe_gS (by rfl) T.c_LETTERS) rfl))) pa_nil))))), ?_⟩
  have hz : z.length ≤ 1000000 := by have := L.hi; have := L.small; omega
  refine ⟨_, rfl, _, isi_ss, _, rfl, iteF ⟨_, rfl, z, rfl, room_le1 hz, _, _, rfl, rfl, _, rfl, iteC (by have := L.lo; omega) ⟨_, rfl, _, _, rfl, rfl, _, rfl, iteNS (by have := L.hi; omega) ?_⟩⟩⟩
  refine ⟨_, rfl, _, rfl, fun D hD => lc_all walk_str hz hD (fun _ _ y => y = V.bl true) (fun _ _ _ _ _ e => e) (fun _ _ => True.intro) (fun i x H1 H2 Qc hi s1 y k => ?_) fun H1 ys s1 hys hl ha => ⟨_, all_true hys ha, by rw [all_rep]; exact q H1 s1⟩⟩
  obtain ⟨rfl, c, hc, rfl⟩ := y
  exact ⟨rfl, _, rfl, c, _, rfl, rfl, k _ _ (Same.refl _) (congrArg V.bl (decide_eq_true (L.all c (Array.mem_toList_iff.mpr (Array.mem_of_getElem? hc)))))⟩
abbrev n_is_word : List Str := ["thing"]
theorem sc_is_word : FnScope ["thing"] ["thing"] (defScope s_is_word) := ⟨rfl, rfl, rfl, by decide +kernel, rfl, by decide +kernel, by decide +kernel⟩
theorem ok_is_word (T : Tx K mg) : Dfn P w K mg base 2 "is_word" ["thing"] (fun vs H Q => ∃ z, vs = [.str z] ∧ Lets z 20 ∧ ∀ H', Same H H' → Q (.bl true) H') :=
  Dfn.mk T.f_is_word T.g_is_word sc_is_word (fun _ _ _ _ _ _ us hl => match us, hl with | [_], _ => rfl) (fun vs H Q h => by obtain ⟨z, rfl, _⟩ := h; rfl) fun cdv A outer s H vs Q E hr h => by
  obtain ⟨z, rfl, L, q⟩ := h
  refine ⟨_, (pss_one (ps_ret (pe_c ((ok_is_letters T).mono (by decide)) hr (pa_cons (pv 0) (pa_cons (pe_gI (by rfl) T.c_MOST_LETTERS) pa_nil))))), ?_⟩
  exact ⟨_, rfl, z, 20, rfl, L, q⟩
abbrev n_is_name : List Str := ["thing"]
theorem sc_is_name : FnScope ["thing"] ["thing"] (defScope s_is_name) := ⟨rfl, rfl, rfl, by decide +kernel, rfl, by decide +kernel, by decide +kernel⟩
theorem ok_is_name (T : Tx K mg) : Dfn P w K mg base 2 "is_name" ["thing"] (fun vs H Q => ∃ z, vs = [.str z] ∧ Lets z 8 ∧ ∀ H', Same H H' → Q (.bl true) H') :=
  Dfn.mk T.f_is_name T.g_is_name sc_is_name (fun _ _ _ _ _ _ us hl => match us, hl with | [_], _ => rfl) (fun vs H Q h => by obtain ⟨z, rfl, _⟩ := h; rfl) fun cdv A outer s H vs Q E hr h => by
  obtain ⟨z, rfl, L, q⟩ := h
  refine ⟨_, (pss_one (ps_ret (pe_c ((ok_is_letters T).mono (by decide)) hr (pa_cons (pv 0) (pa_cons (pe_gI (by rfl) T.c_MOST_NAME) pa_nil))))), ?_⟩
  exact ⟨_, rfl, z, 8, rfl, L, q⟩
abbrev n_is_words : List Str := ["thing", "most", "word"]
theorem sc_is_words : FnScope ["thing", "most", "word"] ["thing", "most"] (defScope s_is_words) := ⟨rfl, rfl, rfl, by decide +kernel, rfl, by decide +kernel, by decide +kernel⟩
theorem ok_is_words (T : Tx K mg) : Dfn P w K mg base 3 "is_words" ["thing", "most"] (fun vs H Q => ∃ (v : V) (ws : List Str) (m : Nat), vs = [v, .int (m : Nat)] ∧ Tp H v (ws.map V.str) ∧ ws.length ≤ m ∧ m ≤ 1000 ∧ (∀ z ∈ ws, Lets z 20) ∧ ∀ H', Same H H' → Q (.bl true) H') :=
  Dfn.mk T.f_is_words T.g_is_words sc_is_words (fun _ _ _ _ _ _ us hl => match us, hl with | [_, _], _ => rfl) (fun vs H Q h => by obtain ⟨v, ws, m, rfl, _⟩ := h; rfl) fun cdv A outer s H vs Q E hr h => by
  obtain ⟨v, ws, m, rfl, ht, hl, hm, hw, q⟩ := h
  refine ⟨_, (pss_one (ps_ret (pe_and (pe_callB (isiA (K := K) rfl) (by rfl) T.b_isinstance (by decide +kernel) (pa_cons (pv 0) (pa_cons (pe_bltn (v := .ty "tuple") (by rfl) T.b_tuple boot_tuple rfl) pa_nil))) (pe_and (pe_cmpR op_le (pe_callB (lenA (K := K) rfl) (by rfl) T.b_len (by decide +kernel) (pa_cons (pv 0) pa_nil)) (pv 1) (nomark _)) (pe_one (pe_callB (allA (K := K) rfl rfl) (by rfl) T.b_all (by decide +kernel) (pa_cons (pe_lc (own := [("word", 2)]) (g := (gName 2)) (tt := tYes) rfl sc_is_words.nd (pi_tup (pv 0)) (blkOk_by (own := [("word", 2)]) (N := n_is_words) (sc := defScope s_is_words) (by decide +kernel)) (fun _ _ _ _ _ => (pg_name (i := 2) sc_is_words.nd rfl (Or.inl rfl))) (fun _ _ _ _ _ => pts_nil) (fun _ _ _ _ _ => (pe_c ((ok_is_word T).mono (by decide)) hr (pa_cons (pv 2) pa_nil)))) pa_nil))))))), ?_⟩
  have ht0 := ht
  obtain ⟨a, rfl, ha⟩ := ht0
  have hs : SqT K H a (ws.map V.str) := SqT.of ha
  refine ⟨_, rfl, _, isi_tt ht, _, rfl, iteT ⟨_, rfl, _, len_t ht, _, rfl, _, _, rfl, rfl, _, rfl, iteC (by rw [List.length_map]; omega) ⟨_, rfl, a, rfl, ⟨_, hs⟩, fun D hD => ?_⟩⟩⟩
  refine lc_all (walk_tup (xs := ws.map V.str)) (by rw [List.length_map]; omega) hD (fun _ _ y => y = V.bl true) (fun _ _ _ _ _ e => e) (fun H1 s1 => sqt s1 hs) (fun i x H1 H2 Qc hi s1 y k => ?_) fun H1 ys s1 hys hl ha => ⟨_, all_true hys ha, by rw [all_rep]; exact q H1 s1⟩
  obtain ⟨rfl, hx⟩ := y
  rw [List.getElem?_map] at hx
  obtain ⟨z, hz, rfl⟩ := Option.map_eq_some_iff.mp hx
  exact ⟨rfl, _, rfl, z, rfl, hw z (List.mem_of_getElem? hz), fun H' s2 => k _ _ s2 rfl⟩
abbrev n_is_ascending : List Str := ["items", "one", "other"]
theorem sc_is_ascending : FnScope ["items", "one", "other"] ["items"] (defScope s_is_ascending) := ⟨rfl, rfl, rfl, by decide +kernel, rfl, by decide +kernel, by decide +kernel⟩
theorem ok_is_ascending (T : Tx K mg) : Dfn P w K mg base 1 "is_ascending" ["items"] (fun vs H Q => ∃ (v : V) (xs : List V), vs = [v] ∧ Tp H v xs ∧ xs.length ≤ 1000 ∧ (∀ i x y, xs[i]? = some x → xs[i + 1]? = some y → ltV H x y) ∧ ∀ H', Same H H' → Q (.bl true) H') :=
  Dfn.mk T.f_is_ascending T.g_is_ascending sc_is_ascending (fun _ _ _ _ _ _ us hl => match us, hl with | [_], _ => rfl) (fun vs H Q h => by obtain ⟨v, xs, rfl, _⟩ := h; rfl) fun cdv A outer s H vs Q E hr h => by
  obtain ⟨v, xs, rfl, ht, hl, hw, q⟩ := h
  refine ⟨_, (pss_one (ps_ret (pe_callB (allA (K := K) rfl rfl) (by rfl) T.b_all (by decide +kernel) (pa_cons (pe_lc (own := [("one", 1), ("other", 2)]) (g := (gTup K 2 (gCons (gName 1) (gCons (gName 2) gNil)))) (tt := tYes) rfl sc_is_ascending.nd (RZ.pi_zipA (by rfl) T.b_zip (pa_cons (pv 0) (pa_cons (pe_slice slA (pv 0) (po_some pe_int) po_none) pa_nil))) (blkOk_by (own := [("one", 1), ("other", 2)]) (N := n_is_ascending) (sc := defScope s_is_ascending) (by decide +kernel)) (fun _ _ _ _ _ => (pg_tup (by rfl) (pgs_cons (pg_name (i := 1) sc_is_ascending.nd rfl (Or.inl rfl)) (pgs_cons (pg_name (i := 2) sc_is_ascending.nd rfl (Or.inl rfl)) pgs_nil)))) (fun _ _ _ _ _ => pts_nil) (fun _ _ _ _ _ => (pe_cmpR (op_or2 op_lt (ltTA (K := K) rfl hr.units0)) (pv 1) (pv 2) (nomark _)))) pa_nil)))), ?_⟩
  refine ⟨_, rfl, _, rfl, _, rfl, _, ht, fun w1 H1 s1 hw1 => ?_⟩
  rw [cut1] at hw1
  have ht1 := stp s1 ht
  obtain ⟨a, rfl, ha⟩ := ht1
  obtain ⟨b, rfl, hb⟩ := hw1
  refine ⟨a, b, _, _, rfl, .inr ⟨SqT.of ha, SqT.of hb, fun D hD => ?_⟩⟩
  refine lc_all (walk_zipT rfl) (by omega) hD (fun _ _ y => y = V.bl true) (fun _ _ _ _ _ e => e) (fun H2 s2 => ⟨sqt s2 (SqT.of ha), sqt s2 (SqT.of hb)⟩) (fun i x H2 H3 Qc hi s2 y k => ?_) fun H2 ys s2 hys hl ha => ⟨_, all_true hys ha, by rw [all_rep]; exact q H2 (s1.trans s2)⟩
  obtain ⟨T, x, y, rfl, nT, rfl, hx, hy⟩ := y
  have s3 : Same H2 (upd H2 T (.tup [x, y])) := Same.new nT
  have hy : (xs.drop 1)[i]? = some y := hy
  rw [List.getElem?_drop, Nat.add_comm] at hy
  refine tg2 ⟨T, rfl, upd_same⟩ ⟨rfl, _, rfl, _, rfl, ?_⟩
  rcases (hw i x y hx hy).mono (Same.tk ((s1.trans s2).trans s3)) with ⟨m, n, rfl, rfl, lt⟩ | ⟨ns, ms, ⟨p, rfl, hp⟩, ⟨r, rfl, hr'⟩, lt⟩
  · exact .inl ⟨m, n, rfl, rfl, k _ _ s3 (congrArg V.bl (decide_eq_true lt))⟩
  · exact .inr ⟨p, r, ns, ms, rfl, rfl, SqT.of hp, SqT.of hr', k _ _ s3 (by rw [lt])⟩
abbrev n_is_lot : List Str := ["thing", "many", "item"]
theorem sc_is_lot : FnScope ["thing", "many", "item"] ["thing", "many"] (defScope s_is_lot) := ⟨rfl, rfl, rfl, by decide +kernel, rfl, by decide +kernel, by decide +kernel⟩
theorem ok_is_lot (T : Tx K mg) : Dfn P w K mg base 3 "is_lot" ["thing", "many"] (fun vs H Q => ∃ (v : V) (l : List Nat) (m : Nat), vs = [v, .int (m : Nat)] ∧ Tp H v (nats l) ∧ l.length ≤ 1000 ∧ l.Pairwise (· < ·) ∧ (∀ k ∈ l, k < m) ∧ ∀ H', Same H H' → Q (.bl true) H') :=
  Dfn.mk T.f_is_lot T.g_is_lot sc_is_lot (fun _ _ _ _ _ _ us hl => match us, hl with | [_, _], _ => rfl) (fun vs H Q h => by obtain ⟨v, l, m, rfl, _⟩ := h; rfl) fun cdv A outer s H vs Q E hr h => by
  obtain ⟨v, l, m, rfl, ht, hl, hp, hm, q⟩ := h
  refine ⟨_, (pss_cons (ps_if (PW.pt (pw_or (pt_not (pt_val (pe_callB (isiA (K := K) rfl) (by rfl) T.b_isinstance (by decide +kernel) (pa_cons (pv 0) (pa_cons (pe_bltn (v := .ty "tuple") (by rfl) T.b_tuple boot_tuple rfl) pa_nil))))) (pw_or1 (pt_not (pt_val (pe_callB (allA (K := K) rfl rfl) (by rfl) T.b_all (by decide +kernel) (pa_cons (pe_lc (own := [("item", 2)]) (g := (gName 2)) (tt := tYes) rfl sc_is_lot.nd (pi_tup (pv 0)) (blkOk_by (own := [("item", 2)]) (N := n_is_lot) (sc := defScope s_is_lot) (by decide +kernel)) (fun _ _ _ _ _ => (pg_name (i := 2) sc_is_lot.nd rfl (Or.inl rfl))) (fun _ _ _ _ _ => pts_nil) (fun _ _ _ _ _ => (pe_c ((ok_is_within T).mono (by decide)) hr (pa_cons (pv 2) (pa_cons pe_int (pa_cons (pe_op op_sub (pv 1) pe_int) pa_nil)))))) pa_nil))))))) pss_never pss_nil)
  (pss_one (ps_ret (pe_c ((ok_is_ascending T).mono (by decide)) hr (pa_cons (pv 0) pa_nil))))), ?_⟩
  have ht0 := ht
  obtain ⟨a, rfl, ha⟩ := ht0
  have hs : SqT K H a (nats l) := SqT.of ha
  refine ⟨_, rfl, _, isi_tt ht, _, rfl, iteF ⟨_, rfl, a, rfl, ⟨_, hs⟩, fun D hD => ?_⟩⟩
  refine lc_all (walk_tup (xs := nats l)) (by rw [nats_length]; omega) hD (fun _ _ y => y = V.bl true) (fun _ _ _ _ _ e => e) (fun H1 s1 => sqt s1 hs) (fun i x H1 H2 Qc hi s1 y k => ?_) fun H1 ys s1 hys hl' ha => ?_
  · obtain ⟨rfl, hx⟩ := y
    unfold nats at hx
    rw [List.getElem?_map] at hx
    obtain ⟨z, hz, rfl⟩ := Option.map_eq_some_iff.mp hx
    have hzm := hm z (List.mem_of_getElem? hz)
    refine ⟨rfl, _, rfl, _, rfl, _, _, rfl, rfl, _, _, _, rfl, .inl ⟨_, rfl, k _ _ (Same.refl _) ?_⟩⟩
    rw [decide_eq_true (show (0 : Int) ≤ z by omega), decide_eq_true (show (z : Int) ≤ (m : Int) - 1 by omega)]
    rfl
  · refine ⟨_, all_true hys ha, true, by rw [all_rep], iteF ⟨_, rfl, _, nats l, rfl, stp s1 ht, by rw [nats_length]; exact hl, fun i x y hx hy => ?_, fun H2 s2 => q H2 (s1.trans s2)⟩⟩
    unfold nats at hx hy
    rw [List.getElem?_map] at hx hy
    obtain ⟨z, hz, rfl⟩ := Option.map_eq_some_iff.mp hx
    obtain ⟨u, hu, rfl⟩ := Option.map_eq_some_iff.mp hy
    refine .inl ⟨_, _, rfl, rfl, ?_⟩
    obtain ⟨h1, rfl⟩ := List.getElem?_eq_some_iff.mp hz
    obtain ⟨h2, rfl⟩ := List.getElem?_eq_some_iff.mp hu
    have := List.pairwise_iff_getElem.mp hp i (i + 1) h1 h2 (Nat.lt_succ_self _)
    omega
abbrev n_mask_of : List Str := ["lot", "found", "item"]
theorem sc_mask_of : FnScope ["lot", "found", "item"] ["lot"] (defScope s_mask_of) := ⟨rfl, rfl, rfl, by decide +kernel, rfl, by decide +kernel, by decide +kernel⟩
theorem ok_mask_of (T : Tx K mg) : Dfn P w K mg base 1 "mask_of" ["lot"] (fun vs H Q => ∃ (v : V) (l : List Nat), vs = [v] ∧ Tp H v (nats l) ∧ (∀ k ∈ l, k < 1000) ∧ Q (.int (bitsOr 0 l : Nat)) H) :=
  Dfn.mk T.f_mask_of T.g_mask_of sc_mask_of (fun _ _ _ _ _ _ us hl => match us, hl with | [_], _ => rfl) (fun vs H Q h => by obtain ⟨v, l, rfl, _⟩ := h; rfl) fun cdv A outer s H vs Q E hr h => by
  obtain ⟨v, l, rfl, ht, hm, q⟩ := h
  refine ⟨_, (pss_cons (ps_set (i := 1) sc_mask_of.nd rfl (Or.inl rfl) pe_int)
  (pss_cons (ps_for PassesOwn.never rfl (pi_tup (pv 0)) (pg_name (i := 2) sc_mask_of.nd rfl (Or.inl rfl))
    (pss_one (ps_set (i := 1) sc_mask_of.nd rfl (Or.inl rfl) (pe_op op_or (pv 1) (pe_op op_shl pe_int (pv 2))))))
  (pss_one (ps_ret (pv 1))))), ?_⟩
  obtain ⟨a, rfl, ha⟩ := ht
  have hs : SqT K H a (nats l) := SqT.of ha
  refine ⟨_, rfl, a, rfl, ⟨_, hs⟩, ?_⟩
  refine for_it walk_tup (fun i σ H1 => H1 = H ∧ ∃ z, σ = [some (.ref a), some (.int (bitsOr 0 (l.take i) : Nat)), z]) ⟨rfl, _, rfl⟩ (fun i σ H1 _ p => p.1 ▸ hs) (fun i x σ H1 H2 hi p y => ?_) fun σ H1 p => ?_
  · obtain ⟨rfl, z, rfl⟩ := p
    obtain ⟨rfl, hx⟩ := y
    unfold nats at hx
    rw [List.getElem?_map] at hx
    obtain ⟨b, hb, rfl⟩ := Option.map_eq_some_iff.mp hx
    have hbm := hm b (List.mem_of_getElem? hb)
    refine ⟨_, rfl, _, rfl, _, _, rfl, rfl, ⟨Int.natCast_nonneg _, by omega, by decide⟩, _, _, rfl, rfl, rfl, some (.int (b : Nat)), ?_⟩
    have e : bitsOr 0 (l.take (i + 1)) = (bitsOr 0 (l.take i)) ||| (1 <<< b) := by
      rw [List.take_add_one, hb]
      unfold bitsOr
      rw [List.foldl_append]
      rfl
    rw [e, ← or_nat]
    rfl
  · obtain ⟨rfl, z, rfl⟩ := p
    rw [nats_length, List.take_length]
    exact ⟨_, rfl, q⟩
abbrev n_mover_of : List Str := ["row"]
theorem sc_mover_of : FnScope ["row"] ["row"] (defScope s_mover_of) := ⟨rfl, rfl, rfl, by decide +kernel, rfl, by decide +kernel, by decide +kernel⟩
theorem ok_mover_of (T : Tx K mg) : Dfn P w K mg base 1 "mover_of" ["row"] (fun vs H Q => ∃ (v : V) (xs : List V), vs = [v] ∧ Tp H v xs ∧ Q (.int (xs.length % 2 : Nat)) H) :=
  Dfn.mk T.f_mover_of T.g_mover_of sc_mover_of (fun _ _ _ _ _ _ us hl => match us, hl with | [_], _ => rfl) (fun vs H Q h => by obtain ⟨v, l, rfl, _⟩ := h; rfl) fun cdv A outer s H vs Q E hr h => by
  obtain ⟨v, l, rfl, ht, q⟩ := h
  refine ⟨_, (pss_one (ps_ret (pe_op op_modN (pe_callB (lenA (K := K) rfl) (by rfl) T.b_len (by decide +kernel) (pa_cons (pv 0) pa_nil)) pe_int))), ?_⟩
  refine ⟨_, rfl, _, len_t ht, _, _, rfl, rfl, (show (2 : Int) ≠ 0 by decide), ?_⟩
  show Q (.int ((l.length : Int).fmod 2)) H
  rw [show Int.fmod (l.length : Int) 2 = ((l.length % 2 : Nat) : Int) by rw [Int.fmod_eq_emod_of_nonneg _ (by decide)]; omega]
  exact q
abbrev n_lot_of : List Str := ["mask", "found", "at"]
theorem sc_lot_of : FnScope ["mask", "found", "at"] ["mask"] (defScope s_lot_of) := ⟨rfl, rfl, rfl, by decide +kernel, rfl, by decide +kernel, by decide +kernel⟩
theorem ok_lot_of (T : Tx K mg) : Dfn P w K mg base 1 "lot_of" ["mask"] (fun vs H Q => ∃ (m : Nat), vs = [.int (m : Nat)] ∧ m < 2 ^ 1000 ∧ ∀ H' r l, Same H H' → Tp H' r (nats l) → BitsAre m l → Q r H') :=
  Dfn.mk T.f_lot_of T.g_lot_of sc_lot_of (fun _ _ _ _ _ _ us hl => match us, hl with | [_], _ => rfl) (fun vs H Q h => by obtain ⟨m, rfl, _⟩ := h; rfl) fun cdv A outer s H vs Q E hr h => by
  obtain ⟨m, rfl, hm, q⟩ := h
  refine ⟨_, (pss_cons (ps_set (i := 1) sc_lot_of.nd rfl (Or.inl rfl) (pe_lst pa_nil))
  (pss_cons (ps_set (i := 2) sc_lot_of.nd rfl (Or.inl rfl) pe_int)
  (pss_cons (ps_while PassesOwn.never (pt_cmpR op_gt (pv 0) pe_int (nomark _))
    (pss_cons (ps_if (pt_truth (pe_op op_and (pv 0) pe_int) (by intro _; rfl))
      (pss_one (ps_expr (pe_bm PySem.F.plainAttrs_list PySem.F.slot_list_append PySem.F.type_list_append mt_append (pv 1) (pa_cons (pv 2) pa_nil)))) pss_nil)
    (pss_cons (ps_set (i := 0) sc_lot_of.nd rfl (Or.inl rfl) (pe_op op_shr (pv 0) pe_int))
    (pss_one (ps_aug (i := 2) sc_lot_of.nd rfl (Or.inl rfl) pe_int ip_add)))))
  (pss_one (ps_ret (pe_callTy (tupA (K := K) rfl) (by rfl) T.b_tuple boot_tuple (pa_cons (pv 1) pa_nil))))))), ?_⟩
  refine ⟨by decide, fun p hp => ?_⟩
  have np : ∀ b o, H b = some o → b ≠ p := fun b o e z => by rw [z, hp] at e; cases e
  refine while_by (fun σ H1 => ∃ (a : Nat) (l : List Nat), σ = [some (.int (m >>> a : Nat)), some (.ref p), some (.int (a : Nat))] ∧ H1 p = some (.lst (nats l)) ∧ Same H H1 ∧ (a ≤ 1000) ∧ l.length ≤ a ∧ l.Pairwise (· < ·) ∧ ∀ k, k ∈ l ↔ k < a ∧ m.testBit k = true)
    (fun σ _ => match σ with | some (.int i) :: _ => i.toNat | _ => 0) ⟨0, [], rfl, upd_same, Same.new hp, by omega, by simp, .nil, fun k => by simp⟩ (fun σ H1 h1 => ?_) (fun σ H Q Q' h h2 => ?_)
  · obtain ⟨a, l, rfl, hl, s1, ha, hla, hpw, hmem⟩ := h1
    refine ⟨_, rfl, _, _, rfl, rfl, _, rfl, ite2 (fun c => ?_) fun c => ?_⟩
    · have pos : 0 < m >>> a := by
        have := of_decide_eq_true c
        omega
      have alt : a < 1000 := by
        rcases Nat.lt_or_ge a 1000 with q | q
        · exact q
        · have : m >>> a = 0 := by
            rw [Nat.shiftRight_eq_div_pow]
            exact Nat.div_eq_of_lt (Nat.lt_of_lt_of_le hm (Nat.pow_le_pow_right (by decide) q))
          omega
      have half : (m >>> a) / 2 = m >>> (a + 1) := by rw [Nat.shiftRight_succ]
      have e1 : ((m >>> a : Nat) : Int) / 2 ^ (1 : Int).toNat = ((m >>> (a + 1) : Nat) : Int) := by
        rw [← half]; rfl
      have e2 : ((a : Nat) : Int) + 1 = ((a + 1 : Nat) : Int) := rfl
      have tb : m.testBit a = decide ((m >>> a) % 2 = 1) := by rw [Nat.testBit_eq_decide_div_mod_eq, Nat.shiftRight_eq_div_pow]
      have ba : Builtin.bitAnd ((m >>> a : Nat) : Int) 1 = (((m >>> a) % 2 : Nat) : Int) := by
        rw [bitAnd_pp (Int.natCast_nonneg _) (by decide), Int.toNat_natCast]
        show ((((m >>> a) &&& 1 : Nat)) : Int) = _
        rw [Nat.and_one_is_mod]
      have less : (m >>> (a + 1)) < m >>> a := by rw [← half]; omega
      refine ⟨_, rfl, _, _, rfl, rfl, decide (m.testBit a = true), ?_, ite2 (fun c1 => ?_) fun c1 => ?_⟩
      · show decide (m.testBit a = true) = (Builtin.bitAnd ((m >>> a : Nat) : Int) 1 != 0)
        rw [ba, tb]
        have : (m >>> a) % 2 < 2 := Nat.mod_lt _ (by decide)
        rcases Nat.lt_or_ge ((m >>> a) % 2) 1 with z | z
        · have z0 : (m >>> a) % 2 = 0 := by omega
          rw [z0]; rfl
        · have z0 : (m >>> a) % 2 = 1 := by omega
          rw [z0]; rfl
      · have c1 := of_decide_eq_true c1
        refine ⟨_, rfl, .inl ⟨rfl, _, SqL.of hl⟩, _, rfl, p, _, _, rfl, rfl, hl, by rw [nats_length, sizeLine_eq]; omega, ?_⟩
        refine ⟨_, rfl, _, _, rfl, rfl, (show (0 : Int) ≤ 1 by decide), _, rfl, _, _, rfl, rfl, ⟨a + 1, l ++ [a], ?_, ?_, fun b o e => ?_, by omega, by rw [List.length_append]; simp; omega, ?_, fun k => ?_⟩, ?_⟩
        · rw [← e1, ← e2]; rfl
        · rw [upd_same]
          unfold nats
          rw [List.map_append]; rfl
        · rw [upd_ne (np b o e)]; exact s1 b o e
        · refine List.pairwise_append.mpr ⟨hpw, List.pairwise_singleton _ _, fun x hx y hy => ?_⟩
          rw [List.mem_singleton.mp hy]
          exact ((hmem x).mp hx).1
        · rw [List.mem_append, List.mem_singleton, hmem]
          constructor
          · rintro (⟨h1, h2⟩ | rfl)
            · exact ⟨by omega, h2⟩
            · exact ⟨by omega, c1⟩
          · rintro ⟨h1, h2⟩
            rcases Nat.lt_or_ge k a with z | z
            · exact .inl ⟨z, h2⟩
            · exact .inr (by omega)
        · show (((m >>> a : Nat) : Int) / 2 ^ (1 : Int).toNat).toNat < ((m >>> a : Nat) : Int).toNat
          rw [e1, Int.toNat_natCast, Int.toNat_natCast]; exact less
      · have c1 : ¬ m.testBit a = true := fun z => c1 (decide_eq_true z)
        refine ⟨_, rfl, _, _, rfl, rfl, (show (0 : Int) ≤ 1 by decide), _, rfl, _, _, rfl, rfl, ⟨a + 1, l, ?_, hl, s1, by omega, by omega, hpw, fun k => ?_⟩, ?_⟩
        · rw [← e1, ← e2]; rfl
        · rw [hmem]
          constructor
          · rintro ⟨h1, h2⟩
            exact ⟨by omega, h2⟩
          · rintro ⟨h1, h2⟩
            rcases Nat.lt_or_ge k a with z | z
            · exact ⟨z, h2⟩
            · have : k = a := by omega
              subst this
              exact absurd h2 c1
        · show (((m >>> a : Nat) : Int) / 2 ^ (1 : Int).toNat).toNat < ((m >>> a : Nat) : Int).toNat
          rw [e1, Int.toNat_natCast, Int.toNat_natCast]; exact less
    · have zero : m >>> a = 0 := by
        rcases Nat.eq_zero_or_pos (m >>> a) with z | z
        · exact z
        · exact absurd (decide_eq_true (show (((m >>> a : Nat)) : Int) > 0 by omega)) c
      refine ⟨_, rfl, p, _, rfl, .inl ⟨SqL.of hl, fun r hr => q _ _ l (s1.trans (Same.new hr)) ⟨r, rfl, upd_same⟩ ⟨hpw, fun k => ?_⟩⟩⟩
      rw [hmem]
      constructor
      · exact fun z => z.2
      · refine fun z => ⟨?_, z⟩
        rcases Nat.lt_or_ge k a with y | y
        · exact y
        · have : m.testBit k = (m >>> a).testBit (k - a) := by rw [Nat.testBit_shiftRight]; congr 1; omega
          rw [this, zero, Nat.zero_testBit] at z
          cases z
  · obtain ⟨v, e, i, j, e1, e2, k, e3, q2⟩ := h2
    exact ⟨v, e, i, j, e1, e2, k, e3, h _ _ q2⟩
end
end Ug

/-! boards, halls on the heap; methods; == of tuples of texts -/
namespace Ug
open PySem PySem.Spec PyProof.Rows L2

/-! ### a method, a class's __init__ -/
def Mth (P : Program) (w : World) (K : PySem.W.Frag) (mg : Str → Option Value) (base : Heap) (k : Nat) (f : Addr) (ps : List Str) (p : Prm) : Prop :=
  ∃ fd : FuncData, FnOk P w K mg base CX0 k f fd ps p.sp ∧ Binds K fd ps []
section
variable {P : Program} {w : World} {K : PySem.W.Frag} {mg : Str → Option Value} {base : Heap}
theorem Mth.mk {x q : Str} {st : Stmt} {f : Addr} {N ps : List Str} {k : Nat} {p : Prm} (F : ∃ fd, FnP K x q st f fd) (S : FnScope N ps (defScope st))
    (bind : ∀ (kV doc pm : Value) (an : Option Addr) (cdv ct : Value) (us : List Value), us.length = ps.length → bindArgs (PySem.W.fnOf x q (defArgs st) (defBody st) (defScope st) .none kV doc pm an cdv ct) ⟨us, []⟩ = pure (ps.zip us))
    (len : ∀ vs H Q, p vs H Q → vs.length = ps.length)
    (body : ∀ (cdv : Value) (A : Around) (outer : List Env) (s : Shared) (H : Hp) (vs : List V) (Q : VK) (E : XK), Room k (A.deeper (envOfC q (defScope st) s.heap.objs.size f cdv)) → p vs H Q →
      ∃ t, PSs (cxOf CX0 P w K mg base N q (defScope st) f cdv A outer s H E).nox (defBody st) t ∧ t { nx := fun _ H' => Q .non H', rt := Q } (start N vs) H) : Mth P w K mg base (k + 1) f ps p := by
  obtain ⟨fd, F⟩ := F
  refine ⟨fd, F.ok S (fun vs H Q E h => len vs H Q h) fun cdv A outer s H vs Q E hr h => ?_, F.bindsN bind⟩
  obtain ⟨t, h1, h2⟩ := body cdv A outer s H vs Q E hr h
  exact ⟨t, h1.nox, h2⟩
theorem Mth.mono {f : Addr} {ps : List Str} {j k : Nat} {p : Prm} (D : Mth P w K mg base j f ps p) (h : j ≤ k) : Mth P w K mg base k f ps p := let ⟨fd, F, r⟩ := D; ⟨fd, F.mono h, r⟩
theorem Mth.imp {f : Addr} {ps : List Str} {k : Nat} {p p' : Prm} (D : Mth P w K mg base k f ps p) (h : ∀ vs H Q, p' vs H Q → p vs H Q) : Mth P w K mg base k f ps p' := let ⟨fd, F, r⟩ := D; ⟨fd, F.imp fun vs H Q E z => h vs H Q z, r⟩
end
theorem pe_m {X : Cx} {k : Nat} {f C : Addr} {ps : List Str} {sp : Prm} {m : Str} {pos apos : Pos} {e o : Expr} {es : List Expr} {ta : TE} {t : TA} {pl : Sem Bool} (D : Mth X.prog X.w X.K X.mg X.base k f ps sp) (c : Cls X.K C) (hm : Meth X.K C m f) (hr : Room k X.A) (ho : PE X o ta) (ha : PA X (e :: es) t)
    (h1 : starEach (e :: es) X.env = (false, eval e X.env) :: starEach es X.env := by rfl) (h2 : (backTo pos (starEach es X.env)).any (·.1) = false := by rfl)
    (h3 : eval (.Call (.Attribute o m apos) (e :: es) [] pos) X.env = (do
      let ov ← eval o X.env
      standAt apos.atName
      let (f, first) ← holding [ov] (getMethod ov m pl)
      callWith pos f first (backTo pos (starEach (e :: es) X.env)) (backToKw pos (keywordEach [] X.env))) := by rfl) : PE X (.Call (.Attribute o m apos) (e :: es) [] pos) (tMeth C m sp.sp [] E0 ta t) := by
  obtain ⟨fd, F, hb⟩ := D
  exact pe_meth (pl := pl) ho c hm F hr hb .nil pass0 ha h1 h2 h3
theorem pe_mkr {X : Cx} {k : Nat} {f C : Addr} {ps : List Str} {sp : Prm} {x : Str} {p pos : Pos} {e : Expr} {es : List Expr} {t : TA} (D : Mth X.prog X.w X.K X.mg X.base k f ps sp) (mk : Mk X.K C f) (hr : Room (k + 1) X.A) (hg : Gl X x) (hm : X.mg x = some (.ref C)) (ha : PA X (e :: es) t)
    (h1 : (x == ("__debug__" : Str)) = false := by decide) (h2 : starEach (e :: es) X.env = (false, eval e X.env) :: starEach es X.env := by rfl) (h3 : (backTo pos (starEach es X.env)).any (·.1) = false := by rfl) : PE X (.Call (.Name x p) (e :: es) [] pos) (tMake C sp.sp [] E0 t) := by
  obtain ⟨fd, F, hb⟩ := D
  exact pe_make mk F hr hg hm hb .nil pass0 ha h1 h2 h3

/-! ### == of tuples of texts -/
theorem eqv_txt : ∀ ws us : List Str, PyData.eqvAll (ws.map .str) (us.map .str) = decide (ws = us)
  | [], [] => by simp [PyData.eqvAll]
  | [], _ :: _ => by simp [PyData.eqvAll]
  | _ :: _, [] => by simp [PyData.eqvAll]
  | a :: ws, b :: us => by
    rw [List.map_cons, List.map_cons, PyData.eqvAll.eq_def]
    show (PyData.eqv (.str a) (.str b) && PyData.eqvAll (ws.map .str) (us.map .str)) = _
    rw [eqv_txt ws us, PyData.eqv.eq_def]
    show ((a == b) && decide (ws = us)) = _
    rw [Bool.eq_iff_iff]
    simp
theorem abc_low : ∀ c ∈ abc.cps.toList, decide (c < 1114112) = true := by decide +kernel
theorem lay_txt : ∀ ws : List Str, (∀ z ∈ ws, Lets z 20) → PyData.canLayAll0 (ws.map .str) = true
  | [], _ => by simp [PyData.canLayAll0]
  | a :: ws, h => by
    rw [List.map_cons, PyData.canLayAll0.eq_def]
    show (PyData.canLay0 (.str a) && PyData.canLayAll0 (ws.map .str)) = _
    rw [lay_txt ws fun z hz => h z (List.mem_cons_of_mem _ hz), Bool.and_true, PyData.canLay0.eq_def]
    show PyData.strOk a = true
    unfold PyData.strOk
    rw [← Array.all_toList, List.all_eq_true]
    exact fun c hc => abc_low c ((h a List.mem_cons_self).all c hc)
theorem deep_txt : ∀ ws : List Str, PyData.depthAll (ws.map .str) = 0
  | [] => by simp [PyData.depthAll]
  | a :: ws => by
    rw [List.map_cons, PyData.depthAll.eq_def]
    show max (PyData.depth (.str a)) (PyData.depthAll (ws.map .str)) = 0
    rw [deep_txt ws, PyData.depth.eq_def]
    rfl
def txtD (ws : List Str) : PyData := .tuple (ws.map .str)
theorem txt_eqv (ws us : List Str) : (txtD ws).eqv (txtD us) = decide (ws = us) := by
  unfold txtD
  rw [PyData.eqv.eq_def]
  exact eqv_txt ws us
theorem txt_shaped {ws : List Str} (h : ∀ z ∈ ws, Lets z 20) : SeqAt.shaped (txtD ws) = true := by
  unfold SeqAt.shaped txtD
  rw [PyData.canLay0.eq_def, PyData.depth.eq_def]
  show (PyData.canLayAll0 (ws.map .str) && decide (PyData.depthAll (ws.map .str) + 1 ≤ 64)) = true
  rw [lay_txt ws h, deep_txt]
  rfl
theorem txt_dp {K : PySem.W.Frag} {H : Hp} : ∀ ws : List Str, DpAll K H (ws.map V.str) (ws.map .str)
  | [] => .nil
  | _ :: ws => .cons (.str _) (txt_dp ws)
theorem Tp.txt {K : PySem.W.Frag} {H : Hp} {v : V} {ws : List Str} (h : Tp H v (ws.map V.str)) : Dp K H v (txtD ws) := by
  obtain ⟨a, rfl, t⟩ := h
  exact .tup (SqT.of t) (txt_dp ws)
/-- both are rows of words -/
def RowsAre (H : Hp) (x y : V) (ws us : List Str) : Prop := Tp H x (ws.map V.str) ∧ Tp H y (us.map V.str) ∧ (∀ z ∈ ws, Lets z 20) ∧ (∀ z ∈ us, Lets z 20)
theorem eqRow {X : Cx} (hu : X.A.units + 64 < cLine) : OpR X (compareOp .Eq) (fun x y H Q => ∃ ws us, RowsAre H x y ws us ∧ Q (.bl (decide (ws = us))) H) := opImp (op_eqD hu) fun x y H Q ⟨ws, us, ⟨h1, h2, h3, h4⟩, q⟩ => ⟨_, _, h1.txt, h2.txt, txt_shaped h3, txt_shaped h4, by rw [txt_eqv]; exact q⟩
theorem neRow {X : Cx} (hu : X.A.units + 64 < cLine) : OpR X (compareOp .NotEq) (fun x y H Q => ∃ ws us, RowsAre H x y ws us ∧ Q (.bl (!decide (ws = us))) H) := opImp (op_neD hu) fun x y H Q ⟨ws, us, ⟨h1, h2, h3, h4⟩, q⟩ => ⟨_, _, h1.txt, h2.txt, txt_shaped h3, txt_shaped h4, by rw [txt_eqv]; exact q⟩

/-! ### boards and halls -/
structure BrdOk (b : Brd) : Prop where
  nm : Lets b.nm 8
  sd : b.sd < 2
  len : b.rw.length ≤ 20
  rw : ∀ z ∈ b.rw, Lets z 20
def RBd (H : Hp) (v : V) (b : Brd) : Prop := ∃ r, Tp H v [.str b.nm, .int (b.sd : Nat), r] ∧ Tp H r (b.rw.map V.str)
theorem RBd.mono {H H' : Hp} (k : Tk H H') {v : V} {b : Brd} (h : RBd H v b) : RBd H' v b := let ⟨r, h1, h2⟩ := h; ⟨r, h1.mono k, h2.mono k⟩
def RBds (H : Hp) (v : V) (bs : List Brd) : Prop := ∃ xs, Tp H v xs ∧ Paired (RBd H) xs bs
theorem RBds.mono {H H' : Hp} (k : Tk H H') {v : V} {bs : List Brd} (h : RBds H v bs) : RBds H' v bs := let ⟨xs, h1, h2⟩ := h; ⟨xs, h1.mono k, pimp (fun _ _ => RBd.mono k) h2⟩
structure BdsOk (bs : List Brd) : Prop where
  lo : 1 ≤ bs.length
  hi : bs.length ≤ 8
  all : ∀ b ∈ bs, BrdOk b
/-- the names of a hall: each once, those of the boards -/
structure NamesOk (bs : List Brd) (nms : List Str) : Prop where
  nd : nms.Nodup
  mem : ∀ n, n ∈ nms ↔ ∃ b ∈ bs, b.nm = n
def RHall (K : PySem.W.Frag) (H : Hp) (v : V) (bs : List Brd) (nms : List Str) : Prop := ∃ a dx bv nv, v = .ref a ∧ H a = some (.ins (He.ga K "Hall") dx [("boards", bv), ("names", nv)]) ∧ RBds H bv bs ∧ Tp H nv (nms.map V.str) ∧ BdsOk bs ∧ NamesOk bs nms
theorem RHall.mono {K : PySem.W.Frag} {H H' : Hp} (k : Same H H') {v : V} {bs : List Brd} {nms : List Str} (h : RHall K H v bs nms) : RHall K H' v bs nms :=
  let ⟨a, dx, bv, nv, h1, h2, h3, h4, h5, h6⟩ := h; ⟨a, dx, bv, nv, h1, k _ _ h2, h3.mono (Same.tk k), stp k h4, h5, h6⟩
theorem paired_get {α β : Type} {R : α → β → Prop} : ∀ {l : List α} {m : List β}, Paired R l m → ∀ {i : Nat} {x : α}, l[i]? = some x → ∃ y, m[i]? = some y ∧ R x y
  | _, _, .nil, i, x, h => by simp at h
  | _, _, .cons r t, 0, x, h => by cases h; exact ⟨_, rfl, r⟩
  | _, _, .cons r t, i + 1, x, h => paired_get t (i := i) h
theorem paired_at {α β : Type} {R : α → β → Prop} : ∀ {l : List α} {m : List β}, Paired R l m → ∀ {i : Nat} {y : β}, m[i]? = some y → ∃ x, l[i]? = some x ∧ R x y
  | _, _, .nil, i, x, h => by simp at h
  | _, _, .cons r t, 0, x, h => by cases h; exact ⟨_, rfl, r⟩
  | _, _, .cons r t, i + 1, x, h => paired_at t (i := i) h
theorem paired_of {α β : Type} {R : α → β → Prop} : ∀ {l : List α} {m : List β}, l.length = m.length → (∀ (i : Nat) x y, l[i]? = some x → m[i]? = some y → R x y) → Paired R l m
  | [], [], _, _ => .nil
  | [], _ :: _, h, _ => by cases h
  | _ :: _, [], h, _ => by cases h
  | x :: l, y :: m, h, f => .cons (f 0 x y rfl rfl) (paired_of (Nat.succ.inj h) fun i a b ha hb => f (i + 1) a b ha hb)
theorem iteC' {c : Bool} {A B : Prop} (h : c = true) (a : A) : if c = true then A else B := by rw [if_pos h]; exact a
theorem iteF' {c : Bool} {A B : Prop} (h : c = false) (b : B) : if c = true then A else B := by rw [if_neg (by rw [h]; exact Bool.false_ne_true)]; exact b
theorem lk_here {k : Str} {v : V} {r : List (Str × V)} : List.lookup k ((k, v) :: r) = some v := by
  have e : (k == k) = true := beq_self_eq_true k
  simp only [List.lookup, e]
theorem lk_past {k g : Str} {v : V} {r : List (Str × V)} (h : (k == g) = false) : List.lookup k ((g, v) :: r) = List.lookup k r := by
  simp only [List.lookup, h]
theorem lk_boards {b n : V} : List.lookup ("boards" : Str) [("boards", b), ("names", n)] = some b := lk_here
theorem lk_names {b n : V} : List.lookup ("names" : Str) [("boards", b), ("names", n)] = some n := (lk_past (by decide +kernel)).trans lk_here
/-- hall.boards, hall.names as facts -/
def FldIs (K : PySem.W.Frag) (H : Hp) (x : V) (f : Str) (v : V) : Prop := ∃ a C dx fs, x = .ref a ∧ H a = some (.ins C dx fs) ∧ Cls K C ∧ NoAttr K C f ∧ List.lookup f fs = some v
def tFldA (K : PySem.W.Frag) (ta : TE) (f : Str) : TE := fun σ H Q => ta σ H fun x H1 => ∃ v, FldIs K H1 x f v ∧ Q v H1
theorem tail_imp {X : Cx} {e : Expr} {t u : TE} (h : PE X e t) (i : ∀ σ H Q, u σ H Q → t σ H Q) : PE X e u := ⟨fun pins s σ H Q I q => h.run pins s σ H Q I (i _ _ _ q)⟩
def TMono (t : TE) : Prop := ∀ σ H (Q Q' : VK), (∀ v H', Q v H' → Q' v H') → t σ H Q → t σ H Q'
theorem tm_var {i : Nat} : TMono (tVar i) := fun σ H Q Q' h ⟨v, e, q⟩ => ⟨v, e, h _ _ q⟩
theorem pe_fldA {X : Cx} {K : PySem.W.Frag} {e : Expr} {f : Str} {pos : Pos} {ta : TE} (hk : X.K = K) (m : TMono ta) (he : PE X e ta) (h : attributeBase e f X.env (eval e X.env) = eval e X.env) : PE X (.Attribute e f pos) (tFldA K ta f) := by
  subst hk
  exact tail_imp (pe_fld he h) fun σ H Q q => m _ _ _ _ (fun x H1 ⟨v, ⟨a, C, dx, fs, h1, h2, h3, h4, h5⟩, q⟩ => ⟨a, C, dx, fs, v, h1, h2, h3, h4, h5, q⟩) q
theorem RHall.boards {K : PySem.W.Frag} {mg : Str → Option Value} (T : Tx K mg) {H : Hp} {v : V} {bs : List Brd} {nms : List Str} (h : RHall K H v bs nms) : ∃ bv, FldIs K H v "boards" bv ∧ RBds H bv bs :=
  let ⟨a, dx, bv, nv, h1, h2, h3, h4, h5, h6⟩ := h; ⟨bv, ⟨a, _, dx, _, h1, h2, T.cl_Hall, T.na_Hall_boards, lk_boards⟩, h3⟩
theorem RHall.names {K : PySem.W.Frag} {mg : Str → Option Value} (T : Tx K mg) {H : Hp} {v : V} {bs : List Brd} {nms : List Str} (h : RHall K H v bs nms) : ∃ nv, FldIs K H v "names" nv ∧ Tp H nv (nms.map V.str) :=
  let ⟨a, dx, bv, nv, h1, h2, h3, h4, h5, h6⟩ := h; ⟨nv, ⟨a, _, dx, _, h1, h2, T.cl_Hall, T.na_Hall_names, lk_names⟩, h4⟩
theorem RBds.len {H : Hp} {v : V} {bs : List Brd} {xs : List V} (h : Paired (RBd H) xs bs) : xs.length = bs.length := h.length
theorem bAt_get {bs : List Brd} {i : Nat} {b : Brd} (h : bs[i]? = some b) : bAt bs i = b := by
  unfold bAt
  rw [List.getD_eq_getElem?_getD, h]; rfl
theorem get_bAt {bs : List Brd} {i : Nat} (h : i < bs.length) : bs[i]? = some (bAt bs i) := by
  rw [List.getElem?_eq_getElem h, bAt_get (List.getElem?_eq_getElem h)]
/-- an item of hall.boards -/
theorem RBds.at {K : PySem.W.Frag} {H : Hp} {v : V} {bs : List Brd} (h : RBds H v bs) {i : Nat} (hi : i < bs.length) : ∃ y, IxIs K H v (.int (i : Nat)) y ∧ RBd H y (bAt bs i) := by
  obtain ⟨xs, h1, h2⟩ := h
  obtain ⟨x, hx, r⟩ := paired_at h2 (get_bAt hi)
  exact ⟨x, ix_t h1 hx, r⟩
theorem RBds.lenIs {K : PySem.W.Frag} {H : Hp} {v : V} {bs : List Brd} (h : RBds H v bs) : LenIs K H [v] bs.length := by
  obtain ⟨xs, h1, h2⟩ := h
  rw [← h2.length]
  exact len_t h1
end Ug

/-! halls.py -/
namespace Ug
open PySem PySem.Spec PyProof.Rows L2
theorem put2 {b n : V} : putF "names" n (putF "boards" b []) = ([("boards", b), ("names", n)] : List (Str × V)) := by
  show putF "names" n ([("boards", b)] : List (Str × V)) = _
  exact if_neg (by decide +kernel)
theorem keys_putK {k : Str} {z : V} : ∀ {kvs : List (Key × V)} {ks : List Str}, kvs.map (·.1) = ks.map Sum.inr → (putK kvs (Sum.inr k) z).map (·.1) = (if k ∈ ks then ks else ks ++ [k]).map Sum.inr := by
  intro kvs ks h
  have e : (kvs.any fun kv => decide (kv.1 = (Sum.inr k : Key))) = decide (k ∈ ks) := by
    rw [Bool.eq_iff_iff, List.any_eq_true, decide_eq_true_eq]
    constructor
    · rintro ⟨kv, h1, h2⟩
      have : kv.1 ∈ ks.map (Sum.inr : Str → Key) := h ▸ List.mem_map_of_mem h1
      rw [of_decide_eq_true h2] at this
      obtain ⟨y, hy, e⟩ := List.mem_map.mp this
      cases e
      exact hy
    · intro h1
      have : (Sum.inr k : Key) ∈ kvs.map (·.1) := h ▸ List.mem_map_of_mem h1
      obtain ⟨kv, h2, h3⟩ := List.mem_map.mp this
      exact ⟨kv, h2, decide_eq_true h3⟩
  unfold putK
  rw [e]
  by_cases c : k ∈ ks
  · rw [if_pos (decide_eq_true c), if_pos c, ← h, List.map_map]
    congr 1
    funext kv
    show (if kv.1 = (Sum.inr k : Key) then (kv.1, z) else kv).1 = kv.1
    split <;> rfl
  · rw [if_neg (fun q => c (of_decide_eq_true q)), if_neg c, List.map_append, List.map_append, h]
    rfl
/-- what a def of an object at a leaves: all else -/
def Out (a : Addr) (H H' : Hp) : Prop := ∀ b o, H b = some o → b ≠ a → H' b = some o
theorem Out.tp {a : Addr} {H H' : Hp} (k : Out a H H') {o : HO} (h : H a = some o) (n : ∀ xs, o ≠ .tup xs) : Tk H H' := fun b xs e => k b _ e fun z => by rw [z, h] at e; exact n xs (Option.some.inj e)
section
variable {P : Program} {w : World} {K : PySem.W.Frag} {mg : Str → Option Value} {base : Heap}
abbrev n_is_board : List Str := ["thing"]
theorem sc_is_board : FnScope ["thing"] ["thing"] (defScope s_is_board) := ⟨rfl, rfl, rfl, by decide +kernel, rfl, by decide +kernel, by decide +kernel⟩
theorem ok_is_board (T : Tx K mg) : Dfn P w K mg base 4 "is_board" ["thing"] (fun vs H Q => ∃ (v : V) (b : Brd), vs = [v] ∧ RBd H v b ∧ BrdOk b ∧ ∀ H', Same H H' → Q (.bl true) H') :=
  Dfn.mk T.f_is_board T.g_is_board sc_is_board (fun _ _ _ _ _ _ us hl => match us, hl with | [_], _ => rfl) (fun vs H Q h => by obtain ⟨v, b, rfl, _⟩ := h; rfl) fun cdv A outer s H vs Q E hr h => by
  obtain ⟨v, b, rfl, ⟨r, ht, hrw⟩, ok, q⟩ := h
  refine ⟨_, (pss_cons (ps_if (PW.pt (pw_or (pt_not (pt_val (pe_callB (isiA (K := K) rfl) (by rfl) T.b_isinstance (by decide +kernel) (pa_cons (pv 0) (pa_cons (pe_bltn (v := .ty "tuple") (by rfl) T.b_tuple boot_tuple rfl) pa_nil))))) (pw_or1 (pt_cmpR op_ne (pe_callB (lenA (K := K) rfl) (by rfl) T.b_len (by decide +kernel) (pa_cons (pv 0) pa_nil)) pe_int (nomark _))))) pss_never pss_nil)
  (pss_one (ps_ret (pe_and (pe_c ((ok_is_name T).mono (by decide)) hr (pa_cons (pe_ix (ixA (K := K) rfl) (pv 0) pe_int (fun _ _ => rfl)) pa_nil)) (pe_and (pe_c ((ok_is_within T).mono (by decide)) hr (pa_cons (pe_ix (ixA (K := K) rfl) (pv 0) pe_int (fun _ _ => rfl)) (pa_cons pe_int (pa_cons pe_int pa_nil)))) (pe_one (pe_c ((ok_is_words T).mono (by decide)) hr (pa_cons (pe_ix (ixA (K := K) rfl) (pv 0) pe_int (fun _ _ => rfl)) (pa_cons (pe_gI (by rfl) T.c_MOST_BEGUN) pa_nil))))))))), ?_⟩
  refine ⟨_, rfl, _, isi_tt ht, _, rfl, iteF ⟨_, rfl, _, len_t ht, rfl, _, rfl, iteNS rfl ?_⟩⟩
  refine ⟨_, rfl, _, ix_0 ht, _, rfl, ok.nm, fun H1 s1 => ⟨_, rfl, iteT ⟨_, rfl, _, ix_1 (stp s1 ht), _, _, _, rfl, .inl ⟨_, rfl, _, rfl, iteC' ?_ ⟨_, rfl, _, ix_2 (stp s1 ht), _, _, 20, rfl, stp s1 hrw, ok.len, by omega, ok.rw, fun H2 s2 => q H2 (s1.trans s2)⟩⟩⟩⟩⟩
  have := ok.sd
  rw [decide_eq_true (show (0 : Int) ≤ b.sd by omega), decide_eq_true (show (b.sd : Int) ≤ 1 by omega)]
  rfl
abbrev n_Hall_keep : List Str := ["self", "boards", "name", "side", "begun"]
theorem sc_Hall_keep : FnScope ["self", "boards", "name", "side", "begun"] ["self", "boards"] (defScope s_Hall_keep) := ⟨rfl, rfl, rfl, by decide +kernel, rfl, by decide +kernel, by decide +kernel⟩
theorem ok_Hall_keep (T : Tx K mg) : Mth P w K mg base 1 (He.ma K (He.ga K "Hall") "keep") ["self", "boards"] (fun vs H Q => ∃ (a dx : Addr) (v : V) (bs : List Brd), vs = [.ref a, v] ∧ H a = some (.ins (He.ga K "Hall") dx []) ∧ RBds H v bs ∧ BdsOk bs ∧
    ∀ H' nms, RHall K H' (.ref a) bs nms → Out a H H' → Q .non H') :=
  Mth.mk T.f_Hall_keep sc_Hall_keep (fun _ _ _ _ _ _ us hl => match us, hl with | [_, _], _ => rfl) (fun vs H Q h => by obtain ⟨a, dx, v, bs, rfl, _⟩ := h; rfl) fun cdv A outer s H vs Q E hr h => by
  obtain ⟨a, dx, v, bs, rfl, ha, hb, ok, q⟩ := h
  refine ⟨_, (pss_cons (ps_fld (pv 0) (pv 1) rfl)
  (pss_one (ps_fld (pv 0) (pe_callTy (tupA (K := K) rfl) (by rfl) T.b_tuple boot_tuple (pa_cons (pe_callB (call_sortedD rfl) (by rfl) T.b_sorted (by decide +kernel) (pa_cons (pe_dc (own := [("name", 2), ("side", 3), ("begun", 4)]) (g := (gTup K 3 (gCons (gName 2) (gCons (gName 3) (gCons (gName 4) gNil))))) (tt := tYes) rfl sc_Hall_keep.nd (pi_tup (pv 1)) (blkOk_by (own := [("name", 2), ("side", 3), ("begun", 4)]) (N := n_Hall_keep) (sc := defScope s_Hall_keep) (by decide +kernel)) (fun _ _ _ _ _ => (pg_tup (by rfl) (pgs_cons (pg_name (i := 2) sc_Hall_keep.nd rfl (Or.inl rfl)) (pgs_cons (pg_name (i := 3) sc_Hall_keep.nd rfl (Or.inl rfl)) (pgs_cons (pg_name (i := 4) sc_Hall_keep.nd rfl (Or.inl rfl)) pgs_nil))))) (fun _ _ _ _ _ => pts_nil) (fun _ _ _ _ _ => (pv 2)) (fun _ _ _ _ _ => pe_bl)) pa_nil)) pa_nil)) rfl))), ?_⟩
  refine ⟨_, rfl, _, rfl, a, _, dx, _, rfl, ha, T.cl_Hall, T.na_Hall_boards, by decide, ?_⟩
  have k1 : Out a H (upd H a (.ins (He.ga K "Hall") dx (putF "boards" v []))) := fun b o e n => by rw [upd_ne n]; exact e
  have t1 := k1.tp ha (fun xs => by intro z; cases z)
  have a1 : (upd H a (.ins (He.ga K "Hall") dx (putF "boards" v []))) a = some (.ins (He.ga K "Hall") dx (putF "boards" v [])) := upd_same
  generalize upd H a (.ins (He.ga K "Hall") dx (putF "boards" v [])) = H1 at k1 t1 a1
  have hb1 := hb.mono t1
  obtain ⟨xs, ⟨t, rfl, ht⟩, hx⟩ := hb1
  refine ⟨_, rfl, t, rfl, ⟨_, SqT.of ht⟩, fun D hD => ?_⟩
  refine dc_tup (K := K) (xs := xs) (fun i H2 => ∃ kvs ks, H2 D = some (.dK kvs) ∧ kvs.map (·.1) = ks.map Sum.inr ∧ ks.Nodup ∧ ks.length ≤ i ∧ (∀ n, n ∈ ks ↔ ∃ b ∈ bs.take i, b.nm = n) ∧ Same H1 H2) ⟨[], [], upd_same, rfl, List.nodup_nil, by simp, fun n => by simp, Same.new hD⟩
    (fun i H2 _ p => by obtain ⟨kvs, ks, h1, h2, h3, h4, h5, s2⟩ := p; exact sqt s2 (SqT.of ht)) (fun i x H2 hxi p => ?_) fun H2 p => ?_
  · obtain ⟨kvs, ks, h1, h2, h3, h4, h5, s2⟩ := p
    obtain ⟨b, hbi, r⟩ := paired_get hx hxi
    obtain ⟨r0, hr0, _⟩ := r.mono (Same.tk s2)
    have hi : i < bs.length := (List.getElem?_eq_some_iff.mp hbi).1
    have kl : kvs.length = ks.length := by have := congrArg List.length h2; rwa [List.length_map, List.length_map] at this
    refine tg3 hr0 ⟨rfl, _, rfl, kvs, Sum.inr b.nm, rfl, h1, ?_, _, if b.nm ∈ ks then ks else ks ++ [b.nm], upd_same, keys_putK h2, ?_, ?_, ?_, ?_⟩
    · rw [kl]; have := ok.hi; rw [sizeLine_eq]; omega
    · split
      · exact h3
      · rename_i c
        exact List.nodup_append.mpr ⟨h3, List.nodup_cons.mpr ⟨by simp, List.nodup_nil⟩, fun x hx y hy e => by rw [List.mem_singleton.mp hy] at e; exact c (e ▸ hx)⟩
    · split
      · omega
      · rw [List.length_append]; simp; omega
    · intro n
      rw [List.take_add_one, hbi]
      have : n ∈ (if b.nm ∈ ks then ks else ks ++ [b.nm]) ↔ n ∈ ks ∨ n = b.nm := by
        split
        · rename_i c
          exact ⟨.inl, fun z => z.elim id fun e => e ▸ c⟩
        · rw [List.mem_append, List.mem_singleton]
      rw [this, h5]
      constructor
      · rintro (⟨c, h6, h7⟩ | rfl)
        · exact ⟨c, List.mem_append_left _ h6, h7⟩
        · exact ⟨b, List.mem_append_right _ (by simp), rfl⟩
      · rintro ⟨c, h6, h7⟩
        rcases List.mem_append.mp h6 with h6 | h6
        · exact .inl ⟨c, h6, h7⟩
        · have : c = b := by simpa using h6
          exact .inr (this ▸ h7.symm)
    · intro c o e
      rw [upd_ne (fun z => by rw [z, hD] at e; cases e)]
      exact s2 c o e
  · obtain ⟨kvs, ks, h1, h2, h3, h4, h5, s2⟩ := p
    have xl : xs.length = bs.length := hx.length
    rw [xl, List.take_length] at h5
    refine ⟨D, kvs, ks, rfl, .inl h1, h2, by have := ok.hi; omega, fun ys p perm _ np => ⟨p, _, rfl, .inl ⟨SqL.of upd_same, fun l nl => ?_⟩⟩⟩
    have s3 : Same H1 (upd (upd H2 p (.lst (ys.map V.str))) l (.tup (ys.map V.str))) := s2.trans ((Same.new np).trans (Same.new nl))
    have a3 := s3 _ _ a1
    have e3 : (upd (upd H2 p (.lst (ys.map V.str))) l (.tup (ys.map V.str))) l = some (.tup (ys.map V.str)) := upd_same
    generalize (upd (upd H2 p (.lst (ys.map V.str))) l (.tup (ys.map V.str))) = H3 at s3 a3 e3
    have al : l ≠ a := fun z => by rw [z, a3] at e3; cases e3
    refine ⟨_, rfl, a, _, dx, _, rfl, a3, T.cl_Hall, T.na_Hall_names, (show 1 < 1000 by decide), q _ ys ⟨a, dx, .ref t, .ref l, rfl, by rw [upd_same, put2], ⟨xs, ⟨t, rfl, ?_⟩, ?_⟩, ⟨l, rfl, by rw [upd_ne al]; exact e3⟩, ok, ⟨perm.nodup_iff.mpr h3, fun n => by rw [perm.mem_iff, h5]⟩⟩ ?_⟩
    · rw [upd_ne (fun z => by rw [z, a1] at ht; cases ht)]; exact s3 _ _ ht
    · exact pimp (fun x b r => r.mono ((Same.tk s3).trans (Tk.upd a3 (fun xs => by intro z; cases z)))) hx
    · intro b o e n
      rw [upd_ne n]
      exact s3 _ _ (k1 b o e n)
abbrev n_Hall_init : List Str := ["self", "boards", "at", "board"]
theorem sc_Hall_init : FnScope ["self", "boards", "at", "board"] ["self", "boards"] (defScope s_Hall_init) := ⟨rfl, rfl, rfl, by decide +kernel, rfl, by decide +kernel, by decide +kernel⟩
theorem ok_Hall_init (T : Tx K mg) : Mth P w K mg base 5 (He.ma K (He.ga K "Hall") "__init__") ["self", "boards"] (fun vs H Q => ∃ (a dx : Addr) (v : V) (bs : List Brd), vs = [.ref a, v] ∧ H a = some (.ins (He.ga K "Hall") dx []) ∧ RBds H v bs ∧ BdsOk bs ∧
    ∀ H' nms, RHall K H' (.ref a) bs nms → Out a H H' → Q .non H') :=
  Mth.mk T.f_Hall_init sc_Hall_init (fun _ _ _ _ _ _ us hl => match us, hl with | [_, _], _ => rfl) (fun vs H Q h => by obtain ⟨a, dx, v, bs, rfl, _⟩ := h; rfl) fun cdv A outer s H vs Q E hr h => by
  obtain ⟨a, dx, v, bs, rfl, ha, hb, ok, q⟩ := h
  refine ⟨_, (pss_cons (ps_if (PW.pt (pw_or (pt_not (pt_val (pe_callB (isiA (K := K) rfl) (by rfl) T.b_isinstance (by decide +kernel) (pa_cons (pv 1) (pa_cons (pe_bltn (v := .ty "tuple") (by rfl) T.b_tuple boot_tuple rfl) pa_nil))))) (pw_or1 (pt_not (pt_chain op_le op_le pe_int (pe_callB (lenA (K := K) rfl) (by rfl) T.b_len (by decide +kernel) (pa_cons (pv 1) pa_nil)) (pe_gI (by rfl) T.c_MOST_BOARDS_halls)))))) pss_never pss_nil)
  (pss_cons (ps_for PassesOwn.never rfl (pi_enumT (by rfl) T.b_enumerate (pa_cons (pv 1) pa_nil)) (pg_tup (by rfl) (pgs_cons (pg_name (i := 2) sc_Hall_init.nd rfl (Or.inl rfl)) (pgs_cons (pg_name (i := 3) sc_Hall_init.nd rfl (Or.inl rfl)) pgs_nil)))
    (pss_one (ps_if (pt_not (pt_val (pe_c ((ok_is_board T).mono (by decide)) hr (pa_cons (pv 3) pa_nil)))) pss_never pss_nil)))
  (pss_one (ps_expr (pe_m ((ok_Hall_keep T).mono (by decide)) T.cl_Hall T.me_Hall_keep hr (pv 0) (pa_cons (pv 1) pa_nil)))))), ?_⟩
  have hb0 := hb
  obtain ⟨xs, ⟨t, rfl, ht⟩, hx⟩ := hb0
  have xl : xs.length = bs.length := hx.length
  refine ⟨_, rfl, _, isi_tt ⟨t, rfl, ht⟩, _, rfl, iteF ⟨_, rfl, _, len_t ⟨t, rfl, ht⟩, _, _, rfl, rfl, _, rfl, iteC (by have := ok.lo; omega) ⟨_, _, rfl, rfl, _, rfl, iteNS (by have := ok.hi; omega) ?_⟩⟩⟩
  refine ⟨_, rfl, t, xs, rfl, SqT.of ht, ?_⟩
  refine for_it walk_enumT (fun i σ H1 => Same H H1 ∧ ∃ x y, σ = [some (.ref a), some (.ref t), x, y]) ⟨Same.refl H, none, none, rfl⟩ (fun i σ H1 _ p => sqt p.1 (SqT.of ht)) (fun i x σ H1 H2 hi p y => ?_) fun σ H1 p => ?_
  · obtain ⟨s1, x0, y0, rfl⟩ := p
    obtain ⟨T1, n, y, rfl, nT, rfl, hn, hy⟩ := y
    obtain ⟨b, hbi, r⟩ := paired_get hx hy
    have s2 := s1.trans (Same.new (o := .tup [n, y]) nT)
    refine tg2 ⟨T1, rfl, upd_same⟩ ⟨_, rfl, _, b, rfl, r.mono (Same.tk s2), ok.all b (List.mem_of_getElem? hbi), fun H3 s3 => ⟨_, rfl, iteF ⟨s2.trans s3, _, _, rfl⟩⟩⟩
  · obtain ⟨s1, x0, y0, rfl⟩ := p
    exact ⟨_, rfl, a, dx, _, rfl, s1 _ _ ha, rfl, _, rfl, a, dx, _, bs, rfl, s1 _ _ ha, hb.mono (Same.tk s1), ok, fun H2 nms hh k => q H2 nms hh fun b o e n => k b o (s1 _ _ e) n⟩
abbrev n_begun_rows : List Str := ["hall", "name", "side", "begun"]
theorem sc_begun_rows : FnScope ["hall", "name", "side", "begun"] ["hall"] (defScope s_begun_rows) := ⟨rfl, rfl, rfl, by decide +kernel, rfl, by decide +kernel, by decide +kernel⟩
theorem ok_begun_rows (T : Tx K mg) : Dfn P w K mg base 1 "begun_rows" ["hall"] (fun vs H Q => ∃ (v : V) (bs : List Brd) (nms : List Str), vs = [v] ∧ RHall K H v bs nms ∧ ∀ H' r ys, Same H H' → Tp H' r ys → Paired (fun y b => Tp H' y (b.rw.map V.str)) ys bs → Q r H') :=
  Dfn.mk T.f_begun_rows T.g_begun_rows sc_begun_rows (fun _ _ _ _ _ _ us hl => match us, hl with | [_], _ => rfl) (fun vs H Q h => by obtain ⟨v, bs, nms, rfl, _⟩ := h; rfl) fun cdv A outer s H vs Q E hr h => by
  obtain ⟨v, bs, nms, rfl, hh, q⟩ := h
  refine ⟨_, (pss_one (ps_ret (pe_callTy (tupA (K := K) rfl) (by rfl) T.b_tuple boot_tuple (pa_cons (pe_lc (own := [("name", 1), ("side", 2), ("begun", 3)]) (g := (gTup K 3 (gCons (gName 1) (gCons (gName 2) (gCons (gName 3) gNil))))) (tt := tYes) rfl sc_begun_rows.nd (pi_tup (pe_fldA (K := K) rfl tm_var (pv 0) rfl)) (blkOk_by (own := [("name", 1), ("side", 2), ("begun", 3)]) (N := n_begun_rows) (sc := defScope s_begun_rows) (by decide +kernel)) (fun _ _ _ _ _ => (pg_tup (by rfl) (pgs_cons (pg_name (i := 1) sc_begun_rows.nd rfl (Or.inl rfl)) (pgs_cons (pg_name (i := 2) sc_begun_rows.nd rfl (Or.inl rfl)) (pgs_cons (pg_name (i := 3) sc_begun_rows.nd rfl (Or.inl rfl)) pgs_nil))))) (fun _ _ _ _ _ => pts_nil) (fun _ _ _ _ _ => (pv 3))) pa_nil)))), ?_⟩
  obtain ⟨bv, hf, hb⟩ := hh.boards T
  have ok : BdsOk bs := (let ⟨_, _, _, _, _, _, _, _, h, _⟩ := hh; h)
  obtain ⟨xs, ⟨t, rfl, ht⟩, hx⟩ := hb
  have xl : xs.length = bs.length := hx.length
  refine ⟨_, rfl, _, hf, t, rfl, ⟨_, SqT.of ht⟩, fun D hD => ?_⟩
  refine lc_all (walk_tup (xs := xs)) (by have := ok.hi; omega) hD (fun H i y => ∃ b, bs[i]? = some b ∧ Tp H y (b.rw.map V.str)) (fun H H' i y k h => h.imp fun b h => ⟨h.1, h.2.mono k⟩) (fun H1 s1 => sqt s1 (SqT.of ht)) (fun i x H1 H2 Qc hi s1 y k => ?_) fun H1 ys s1 hys hl hR => ?_
  · obtain ⟨rfl, hxi⟩ := y
    obtain ⟨b, hbi, r, h1, h2⟩ := paired_get hx hxi
    exact tg3 (stp s1 h1) ⟨rfl, _, rfl, k _ _ (Same.refl _) ⟨b, hbi, stp s1 h2⟩⟩
  · refine ⟨D, ys, rfl, .inl ⟨SqL.of hys, fun l nl => q _ _ ys (s1.trans (Same.new nl)) ⟨l, rfl, upd_same⟩ ?_⟩⟩
    refine paired_of (by rw [hl, xl]) fun i y b hy hb => ?_
    obtain ⟨b', h1, h2⟩ := hR i y hy
    rw [hb] at h1
    cases h1
    exact stp (Same.new nl) h2
abbrev n_is_fresh : List Str := ["thing", "begun"]
theorem sc_is_fresh : FnScope ["thing", "begun"] ["thing"] (defScope s_is_fresh) := ⟨rfl, rfl, rfl, by decide +kernel, rfl, by decide +kernel, by decide +kernel⟩
theorem ok_is_fresh (T : Tx K mg) : Dfn P w K mg base 2 "is_fresh" ["thing"] (fun vs H Q => ∃ (v : V) (bs : List Brd) (nms : List Str), vs = [v] ∧ RHall K H v bs nms ∧ (∀ b ∈ bs, b.rw = []) ∧ ∀ H', Same H H' → Q (.bl true) H') :=
  Dfn.mk T.f_is_fresh T.g_is_fresh sc_is_fresh (fun _ _ _ _ _ _ us hl => match us, hl with | [_], _ => rfl) (fun vs H Q h => by obtain ⟨v, bs, nms, rfl, _⟩ := h; rfl) fun cdv A outer s H vs Q E hr h => by
  obtain ⟨v, bs, nms, rfl, hh, hfr, q⟩ := h
  refine ⟨_, (pss_one (ps_ret (pe_and (pe_callB (isiA (K := K) rfl) (by rfl) T.b_isinstance (by decide +kernel) (pa_cons (pv 0) (pa_cons (pe_gR (by rfl) T.g_Hall) pa_nil))) (pe_one (pe_callB (allA (K := K) rfl rfl) (by rfl) T.b_all (by decide +kernel) (pa_cons (pe_lc (own := [("begun", 1)]) (g := (gName 1)) (tt := tYes) rfl sc_is_fresh.nd (pi_tup (pe_c ((ok_begun_rows T).mono (by decide)) hr (pa_cons (pv 0) pa_nil))) (blkOk_by (own := [("begun", 1)]) (N := n_is_fresh) (sc := defScope s_is_fresh) (by decide +kernel)) (fun _ _ _ _ _ => (pg_name (i := 1) sc_is_fresh.nd rfl (Or.inl rfl))) (fun _ _ _ _ _ => pts_nil) (fun _ _ _ _ _ => (pe_cmpR op_eq (pe_callB (lenA (K := K) rfl) (by rfl) T.b_len (by decide +kernel) (pa_cons (pv 1) pa_nil)) pe_int (nomark _)))) pa_nil)))))), ?_⟩
  have hh0 := hh
  obtain ⟨a, dx, bv, nv, rfl, ha, _, _, ok, _⟩ := hh0
  refine ⟨_, rfl, _, isi_hall T ha, _, rfl, iteT ⟨_, rfl, _, bs, nms, rfl, hh, fun H1 r ys s1 hr1 hys => ?_⟩⟩
  obtain ⟨t, rfl, ht⟩ := hr1
  have yl : ys.length = bs.length := hys.length
  refine ⟨t, rfl, ⟨_, SqT.of ht⟩, fun D hD => ?_⟩
  refine lc_all (walk_tup (xs := ys)) (by have := ok.hi; omega) hD (fun _ _ y => y = V.bl true) (fun _ _ _ _ _ e => e) (fun H2 s2 => sqt s2 (SqT.of ht)) (fun i x H2 H3 Qc hi s2 y k => ?_) fun H2 ys s2 hys hl ha => ⟨_, all_true hys ha, by rw [all_rep]; exact q H2 (s1.trans s2)⟩
  obtain ⟨rfl, hxi⟩ := y
  obtain ⟨b, hbi, r⟩ := paired_get hys hxi
  have e := hfr b (List.mem_of_getElem? hbi)
  rw [e] at r
  exact ⟨rfl, _, rfl, _, len_t (stp s2 r), rfl, k _ _ (Same.refl _) rfl⟩
end
end Ug

/-! pairs.py: boards ahead, pairs, pairings that are given -/
namespace Ug
open PySem PySem.Spec PyProof.Rows L2
theorem cutM1 (xs : List V) : cutV xs none (some (-1)) = xs.dropLast := by
  unfold cutV
  have e : HT.sIx xs.length xs.length (some (-1)) = xs.length - 1 := by
    show (if (-1 : Int) < 0 then ((-1 : Int) + xs.length).toNat else min (-1 : Int).toNat xs.length) = _
    rw [if_pos (by decide)]
    omega
  rw [e]
  show List.take (xs.length - 1 - 0) (List.drop 0 xs) = _
  rw [List.drop_zero, Nat.sub_zero, List.dropLast_eq_take]
theorem two_ne : (2 : Int) ≠ 0 := by decide
theorem fmod2 (n : Nat) : Int.fmod (n : Int) 2 = ((n % 2 : Nat) : Int) := by rw [Int.fmod_eq_emod_of_nonneg _ (by decide)]; omega
theorem int_dec {a b : Nat} : decide (V.int (a : Int) = V.int (b : Int)) = decide (a = b) := by
  rw [Bool.eq_iff_iff, decide_eq_true_eq, decide_eq_true_eq]
  constructor
  · intro h; injection h with h; omega
  · intro h; rw [h]
theorem str_dec {a b : Str} : decide (V.str a = V.str b) = decide (a = b) := by
  rw [Bool.eq_iff_iff, decide_eq_true_eq, decide_eq_true_eq]
  constructor
  · intro h; injection h
  · intro h; rw [h]
theorem inV_nat (k : Nat) (l : List Nat) : inV (.int (k : Nat)) (nats l) = decide (k ∈ l) := by
  unfold inV nats
  rw [Bool.eq_iff_iff, List.any_eq_true, decide_eq_true_eq]
  constructor
  · rintro ⟨y, hy, e⟩
    obtain ⟨n, hn, rfl⟩ := List.mem_map.mp hy
    have : ((n : Int) == (k : Int)) = true := e
    have : (n : Int) = k := by simpa using this
    have : n = k := by omega
    exact this ▸ hn
  · intro h
    refine ⟨_, List.mem_map_of_mem (f := fun n : Nat => V.int (n : Int)) h, ?_⟩
    show ((k : Int) == (k : Int)) = true
    simp
theorem flat_nat (l : List Nat) : (nats l).all flatV = true := by
  unfold nats
  rw [List.all_eq_true]
  intro y hy
  obtain ⟨n, hn, rfl⟩ := List.mem_map.mp hy
  rfl
def NatsAt (K : PySem.W.Frag) (H : Hp) (x y : V) (k : Nat) (l : List Nat) : Prop := x = .int (k : Nat) ∧ ∃ p, y = .ref p ∧ (SqL K H p (nats l) ∨ SqT K H p (nats l))
theorem inA {X : Cx} {K : PySem.W.Frag} (hk : X.K = K) : OpR X (compareOp .In) (fun x y H Q => ∃ k l, NatsAt K H x y k l ∧ Q (.bl (decide (k ∈ l))) H) := by
  subst hk
  exact opImp op_in_seq fun x y H Q ⟨k, l, ⟨e, p, e2, h⟩, q⟩ => ⟨p, nats l, e2, h, by rw [e]; rfl, flat_nat l, by rw [e]; show Q (.bl (inV _ _)) H; rw [inV_nat]; exact q⟩
theorem notInA {X : Cx} {K : PySem.W.Frag} (hk : X.K = K) : OpR X (compareOp .NotIn) (fun x y H Q => ∃ k l, NatsAt K H x y k l ∧ Q (.bl (!decide (k ∈ l))) H) := by
  subst hk
  exact opImp op_notIn_seq fun x y H Q ⟨k, l, ⟨e, p, e2, h⟩, q⟩ => ⟨p, nats l, e2, h, by rw [e]; rfl, flat_nat l, by rw [e]; show Q (.bl (!inV _ _)) H; rw [inV_nat]; exact q⟩
theorem nats_l {K : PySem.W.Frag} {H : Hp} {a : Addr} {k : Nat} {l : List Nat} (h : H a = some (.lst (nats l))) : NatsAt K H (.int (k : Nat)) (.ref a) k l := ⟨rfl, a, rfl, .inl (SqL.of h)⟩
theorem geTA {X : Cx} {K : PySem.W.Frag} (hk : X.K = K) (hu : X.A.units < cLine) : OpR X (compareOp .GtE) (rGeT K) := by
  subst hk
  exact op_geT hu
/-- a pairing of a hall, given -/
structure PgOk (bs : List Brd) (p : List (Nat × Nat)) : Prop where
  asc : (p.map (·.1)).Pairwise (· < ·)
  lt : ∀ q ∈ p, q.1 < q.2 ∧ q.2 < bs.length ∧ arePair (bAt bs q.1) (bAt bs q.2) = true
  nd : (brds p).Nodup
theorem Pg.ok {bs : List Brd} {p : List (Nat × Nat)} (h : Pg bs p) : PgOk bs p := ⟨h.asc, fun q hq => mem_allPairs.mp (h.mem q hq), h.nd⟩
theorem brds_len (p : List (Nat × Nat)) : (brds p).length = 2 * p.length := by
  induction p with
  | nil => rfl
  | cons a p ih =>
    show (a.1 :: a.2 :: brds p).length = _
    rw [List.length_cons, List.length_cons, ih, List.length_cons]
    omega
theorem PgOk.len {bs : List Brd} {p : List (Nat × Nat)} (h : PgOk bs p) : 2 * p.length ≤ bs.length := by
  rw [← brds_len]
  have := nodup_len (brds p) (List.range bs.length) h.nd fun k hk => by
    obtain ⟨q, hq, e⟩ := mem_brds.mp hk
    have := h.lt q hq
    rw [List.mem_range]
    omega
  rwa [List.length_range] at this
theorem BdsOk.bAt {bs : List Brd} (h : BdsOk bs) {i : Nat} (hi : i < bs.length) : BrdOk (Ug.bAt bs i) := h.all _ (bAt_mem hi)
section
variable {P : Program} {w : World} {K : PySem.W.Frag} {mg : Str → Option Value} {base : Heap}
abbrev n_is_ahead : List Str := ["longer", "shorter"]
theorem sc_is_ahead : FnScope ["longer", "shorter"] ["longer", "shorter"] (defScope s_is_ahead) := ⟨rfl, rfl, rfl, by decide +kernel, rfl, by decide +kernel, by decide +kernel⟩
theorem ok_is_ahead (T : Tx K mg) : Dfn P w K mg base 2 "is_ahead" ["longer", "shorter"] (fun vs H Q => ∃ (v u : V) (l s : Brd), vs = [v, u] ∧ RBd H v l ∧ RBd H u s ∧ BrdOk l ∧ BrdOk s ∧ ∀ H', Same H H' → Q (.bl (isAhead l s)) H') :=
  Dfn.mk T.f_is_ahead T.g_is_ahead sc_is_ahead (fun _ _ _ _ _ _ us hl => match us, hl with | [_, _], _ => rfl) (fun vs H Q h => by obtain ⟨v, u, l, s, rfl, _⟩ := h; rfl) fun cdv A outer s0 H vs Q E hr h => by
  obtain ⟨v, u, l, s, rfl, ⟨lr, hl, hlr⟩, ⟨sr, hs, hsr⟩, lok, sok, q⟩ := h
  refine ⟨_, (pss_cons (ps_if (PW.pt (pw_or (pt_cmpR op_ne (pe_callB (lenA (K := K) rfl) (by rfl) T.b_len (by decide +kernel) (pa_cons (pe_ix (ixA (K := K) rfl) (pv 0) pe_int (fun _ _ => rfl)) pa_nil)) (pe_op op_add (pe_callB (lenA (K := K) rfl) (by rfl) T.b_len (by decide +kernel) (pa_cons (pe_ix (ixA (K := K) rfl) (pv 1) pe_int (fun _ _ => rfl)) pa_nil)) pe_int) (nomark _)) (pw_or1 (pt_cmpR (neRow hr.units) (pe_slice slA (pe_ix (ixA (K := K) rfl) (pv 0) pe_int (fun _ _ => rfl)) po_none (po_some (pe_un un_neg pe_int))) (pe_ix (ixA (K := K) rfl) (pv 1) pe_int (fun _ _ => rfl)) (nomark _)))))
    (pss_one (ps_ret pe_bl)) pss_nil)
  (pss_one (ps_ret (pe_cmpR op_ne (pe_c ((ok_mover_of T).mono (by decide)) hr (pa_cons (pe_ix (ixA (K := K) rfl) (pv 1) pe_int (fun _ _ => rfl)) pa_nil)) (pe_ix (ixA (K := K) rfl) (pv 0) pe_int (fun _ _ => rfl)) (nomark _))))), ?_⟩
  unfold isAhead at q
  refine ⟨_, rfl, _, ix_2 hl, _, len_t hlr, _, rfl, _, ix_2 hs, _, len_t hsr, _, _, rfl, rfl, rfl, _, rfl, ite2 (fun c => ?_) fun c => ?_⟩
  · have c1 : ¬ l.rw.length = s.rw.length + 1 := fun e => by
      rw [List.length_map, List.length_map, e] at c
      simp at c
    rw [decide_eq_false c1, Bool.false_and] at q
    exact q H (Same.refl H)
  · have c1 : l.rw.length = s.rw.length + 1 := Decidable.byContradiction fun e => c (by
      rw [List.length_map, List.length_map]
      have : ¬ (V.int (l.rw.length : Nat) = V.int ((s.rw.length : Nat) + 1)) := fun z => e (by injection z with z; omega)
      rw [decide_eq_false this]; rfl)
    rw [decide_eq_true c1, Bool.true_and] at q
    refine ⟨_, rfl, _, ix_2 hl, _, rfl, _, rfl, _, hlr, fun w1 H1 s1 hw1 => ⟨_, rfl, _, ix_2 (stp s1 hs), l.rw.dropLast, s.rw, ⟨?_, stp s1 hsr, fun z hz => lok.rw z (List.dropLast_subset _ hz), sok.rw⟩, _, rfl, ite2 (fun c => ?_) fun c => ?_⟩⟩
    · rw [cutM1, ← List.map_dropLast] at hw1
      exact hw1
    · have c2 : decide (l.rw.dropLast = s.rw) = false := by simpa using c
      rw [c2, Bool.false_and] at q
      exact q H1 s1
    · have c2 : decide (l.rw.dropLast = s.rw) = true := by simpa using c
      rw [c2, Bool.true_and] at q
      refine ⟨_, rfl, _, ix_2 (stp s1 hs), _, _, rfl, stp s1 hsr, _, rfl, _, ix_1 (stp s1 hl), rfl, ?_⟩
      show Q (.bl (!decide (V.int ((s.rw.map V.str).length % 2 : Nat) = V.int (l.sd : Nat)))) H1
      rw [int_dec, List.length_map, ← decide_not]
      exact q H1 s1
abbrev n_are_pair : List Str := ["one", "other"]
theorem sc_are_pair : FnScope ["one", "other"] ["one", "other"] (defScope s_are_pair) := ⟨rfl, rfl, rfl, by decide +kernel, rfl, by decide +kernel, by decide +kernel⟩
theorem ok_are_pair (T : Tx K mg) : Dfn P w K mg base 3 "are_pair" ["one", "other"] (fun vs H Q => ∃ (v u : V) (l s : Brd), vs = [v, u] ∧ RBd H v l ∧ RBd H u s ∧ BrdOk l ∧ BrdOk s ∧ ∀ H', Same H H' → Q (.bl (arePair l s)) H') :=
  Dfn.mk T.f_are_pair T.g_are_pair sc_are_pair (fun _ _ _ _ _ _ us hl => match us, hl with | [_, _], _ => rfl) (fun vs H Q h => by obtain ⟨v, u, l, s, rfl, _⟩ := h; rfl) fun cdv A outer s0 H vs Q E hr h => by
  obtain ⟨v, u, l, s, rfl, hl0, hs0, lok, sok, q⟩ := h
  obtain ⟨lr, hl, hlr⟩ := id hl0
  obtain ⟨sr, hs, hsr⟩ := id hs0
  refine ⟨_, (pss_cons (ps_if (PW.pt (pw_or (pt_cmpR op_ne (pe_ix (ixA (K := K) rfl) (pv 0) pe_int (fun _ _ => rfl)) (pe_ix (ixA (K := K) rfl) (pv 1) pe_int (fun _ _ => rfl)) (nomark _)) (pw_or1 (pt_cmpR op_eq (pe_ix (ixA (K := K) rfl) (pv 0) pe_int (fun _ _ => rfl)) (pe_ix (ixA (K := K) rfl) (pv 1) pe_int (fun _ _ => rfl)) (nomark _)))))
    (pss_one (ps_ret pe_bl)) pss_nil)
  (pss_one (ps_ret (pe_or (pe_cmpR (eqRow hr.units) (pe_ix (ixA (K := K) rfl) (pv 0) pe_int (fun _ _ => rfl)) (pe_ix (ixA (K := K) rfl) (pv 1) pe_int (fun _ _ => rfl)) (nomark _)) (pe_or (pe_c ((ok_is_ahead T).mono (by decide)) hr (pa_cons (pv 0) (pa_cons (pv 1) pa_nil))) (pe_one (pe_c ((ok_is_ahead T).mono (by decide)) hr (pa_cons (pv 1) (pa_cons (pv 0) pa_nil))))))))), ?_⟩
  unfold arePair at q
  refine ⟨_, rfl, _, ix_0 hl, _, rfl, _, ix_0 hs, rfl, _, rfl, ite2 (fun c => ?_) fun c => ?_⟩
  · rw [str_dec] at c
    have c1 : decide (l.nm = s.nm) = false := by simpa using c
    rw [c1, Bool.false_and] at q
    exact q H (Same.refl H)
  rw [str_dec] at c
  have c1 : decide (l.nm = s.nm) = true := by simpa using c
  rw [c1, Bool.true_and] at q
  refine ⟨_, rfl, _, ix_1 hl, _, rfl, _, ix_1 hs, rfl, _, rfl, ite2 (fun c => ?_) fun c => ?_⟩
  · rw [int_dec] at c
    have c1 : decide (l.sd ≠ s.sd) = false := by simpa using c
    rw [c1, Bool.false_and] at q
    exact q H (Same.refl H)
  rw [int_dec] at c
  have c2 : decide (l.sd ≠ s.sd) = true := by simpa using c
  rw [c2, Bool.true_and] at q
  refine ⟨_, rfl, _, ix_2 hl, _, rfl, _, ix_2 hs, l.rw, s.rw, ⟨hlr, hsr, lok.rw, sok.rw⟩, _, rfl, ite2 (fun c => ?_) fun c => ?_⟩
  · rw [c, Bool.true_or] at q
    exact q H (Same.refl H)
  rw [Bool.eq_false_iff.mpr c, Bool.false_or] at q
  refine ⟨_, rfl, _, rfl, _, _, l, s, rfl, hl0, hs0, lok, sok, fun H1 s1 => ⟨_, rfl, ite2 (fun c => ?_) fun c => ?_⟩⟩
  · rw [c, Bool.true_or] at q
    exact q H1 s1
  rw [Bool.eq_false_iff.mpr c, Bool.false_or] at q
  exact ⟨_, rfl, _, rfl, _, _, s, l, rfl, hs0.mono (Same.tk s1), hl0.mono (Same.tk s1), sok, lok, fun H2 s2 => q H2 (s1.trans s2)⟩
abbrev n__law_is_ahead : List Str := ["_law_longer", "_law_shorter"]
theorem sc__law_is_ahead : FnScope ["_law_longer", "_law_shorter"] ["_law_longer", "_law_shorter"] (defScope s__law_is_ahead) := ⟨rfl, rfl, rfl, by decide +kernel, rfl, by decide +kernel, by decide +kernel⟩
theorem ok__law_is_ahead (T : Tx K mg) : Dfn P w K mg base 1 "_law_is_ahead" ["_law_longer", "_law_shorter"] (fun vs H Q => ∃ (v u : V) (l s : Brd), vs = [v, u] ∧ RBd H v l ∧ RBd H u s ∧ BrdOk l ∧ BrdOk s ∧ ∀ H', Same H H' → Q (.bl (isAhead l s)) H') :=
  Dfn.mk T.f__law_is_ahead T.g__law_is_ahead sc__law_is_ahead (fun _ _ _ _ _ _ us hl => match us, hl with | [_, _], _ => rfl) (fun vs H Q h => by obtain ⟨v, u, l, s, rfl, _⟩ := h; rfl) fun cdv A outer s0 H vs Q E hr h => by
  obtain ⟨v, u, l, s, rfl, ⟨lr, hl, hlr⟩, ⟨sr, hs, hsr⟩, lok, sok, q⟩ := h
  refine ⟨_, (pss_cons (ps_if (PW.pt (pw_or (pt_cmpR op_ne (pe_callB (lenA (K := K) rfl) (by rfl) T.b_len (by decide +kernel) (pa_cons (pe_ix (ixA (K := K) rfl) (pv 0) pe_int (fun _ _ => rfl)) pa_nil)) (pe_op op_add (pe_callB (lenA (K := K) rfl) (by rfl) T.b_len (by decide +kernel) (pa_cons (pe_ix (ixA (K := K) rfl) (pv 1) pe_int (fun _ _ => rfl)) pa_nil)) pe_int) (nomark _)) (pw_or1 (pt_cmpR (neRow hr.units) (pe_slice slA (pe_ix (ixA (K := K) rfl) (pv 0) pe_int (fun _ _ => rfl)) po_none (po_some (pe_un un_neg pe_int))) (pe_ix (ixA (K := K) rfl) (pv 1) pe_int (fun _ _ => rfl)) (nomark _)))))
    (pss_one (ps_ret pe_bl)) pss_nil)
  (pss_one (ps_ret (pe_cmpR op_ne (pe_op op_modN (pe_callTy call_int1 (by rfl) T.b_int boot_int (pa_cons (pe_callB (lenA (K := K) rfl) (by rfl) T.b_len (by decide +kernel) (pa_cons (pe_ix (ixA (K := K) rfl) (pv 1) pe_int (fun _ _ => rfl)) pa_nil)) pa_nil)) pe_int) (pe_ix (ixA (K := K) rfl) (pv 0) pe_int (fun _ _ => rfl)) (nomark _))))), ?_⟩
  unfold isAhead at q
  refine ⟨_, rfl, _, ix_2 hl, _, len_t hlr, _, rfl, _, ix_2 hs, _, len_t hsr, _, _, rfl, rfl, rfl, _, rfl, ite2 (fun c => ?_) fun c => ?_⟩
  · have c1 : ¬ l.rw.length = s.rw.length + 1 := fun e => by
      rw [List.length_map, List.length_map, e] at c
      simp at c
    rw [decide_eq_false c1, Bool.false_and] at q
    exact q H (Same.refl H)
  · have c1 : l.rw.length = s.rw.length + 1 := Decidable.byContradiction fun e => c (by
      rw [List.length_map, List.length_map]
      have : ¬ (V.int (l.rw.length : Nat) = V.int ((s.rw.length : Nat) + 1)) := fun z => e (by injection z with z; omega)
      rw [decide_eq_false this]; rfl)
    rw [decide_eq_true c1, Bool.true_and] at q
    refine ⟨_, rfl, _, ix_2 hl, _, rfl, _, rfl, _, hlr, fun w1 H1 s1 hw1 => ⟨_, rfl, _, ix_2 (stp s1 hs), l.rw.dropLast, s.rw, ⟨?_, stp s1 hsr, fun z hz => lok.rw z (List.dropLast_subset _ hz), sok.rw⟩, _, rfl, ite2 (fun c => ?_) fun c => ?_⟩⟩
    · rw [cutM1, ← List.map_dropLast] at hw1
      exact hw1
    · have c2 : decide (l.rw.dropLast = s.rw) = false := by simpa using c
      rw [c2, Bool.false_and] at q
      exact q H1 s1
    · have c2 : decide (l.rw.dropLast = s.rw) = true := by simpa using c
      rw [c2, Bool.true_and] at q
      refine ⟨_, rfl, _, ix_2 (stp s1 hs), _, len_t (stp s1 hsr), .inl ⟨_, rfl, _, _, rfl, rfl, two_ne, _, rfl, _, ix_1 (stp s1 hl), rfl, ?_⟩⟩
      show Q (.bl (!decide (V.int (((s.rw.map V.str).length : Int).fmod 2) = V.int (l.sd : Nat)))) H1
      rw [fmod2, int_dec, List.length_map, ← decide_not]
      exact q H1 s1
abbrev n__law_are_pair : List Str := ["_law_one", "_law_other"]
theorem sc__law_are_pair : FnScope ["_law_one", "_law_other"] ["_law_one", "_law_other"] (defScope s__law_are_pair) := ⟨rfl, rfl, rfl, by decide +kernel, rfl, by decide +kernel, by decide +kernel⟩
theorem ok__law_are_pair (T : Tx K mg) : Dfn P w K mg base 2 "_law_are_pair" ["_law_one", "_law_other"] (fun vs H Q => ∃ (v u : V) (l s : Brd), vs = [v, u] ∧ RBd H v l ∧ RBd H u s ∧ BrdOk l ∧ BrdOk s ∧ ∀ H', Same H H' → Q (.bl (arePair l s)) H') :=
  Dfn.mk T.f__law_are_pair T.g__law_are_pair sc__law_are_pair (fun _ _ _ _ _ _ us hl => match us, hl with | [_, _], _ => rfl) (fun vs H Q h => by obtain ⟨v, u, l, s, rfl, _⟩ := h; rfl) fun cdv A outer s0 H vs Q E hr h => by
  obtain ⟨v, u, l, s, rfl, hl0, hs0, lok, sok, q⟩ := h
  obtain ⟨lr, hl, hlr⟩ := id hl0
  obtain ⟨sr, hs, hsr⟩ := id hs0
  refine ⟨_, (pss_cons (ps_if (PW.pt (pw_or (pt_cmpR op_ne (pe_ix (ixA (K := K) rfl) (pv 0) pe_int (fun _ _ => rfl)) (pe_ix (ixA (K := K) rfl) (pv 1) pe_int (fun _ _ => rfl)) (nomark _)) (pw_or1 (pt_cmpR op_eq (pe_ix (ixA (K := K) rfl) (pv 0) pe_int (fun _ _ => rfl)) (pe_ix (ixA (K := K) rfl) (pv 1) pe_int (fun _ _ => rfl)) (nomark _)))))
    (pss_one (ps_ret pe_bl)) pss_nil)
  (pss_one (ps_ret (pe_or (pe_cmpR (eqRow hr.units) (pe_ix (ixA (K := K) rfl) (pv 0) pe_int (fun _ _ => rfl)) (pe_ix (ixA (K := K) rfl) (pv 1) pe_int (fun _ _ => rfl)) (nomark _)) (pe_or (pe_c ((ok__law_is_ahead T).mono (by decide)) hr (pa_cons (pv 0) (pa_cons (pv 1) pa_nil))) (pe_one (pe_c ((ok__law_is_ahead T).mono (by decide)) hr (pa_cons (pv 1) (pa_cons (pv 0) pa_nil))))))))), ?_⟩
  unfold arePair at q
  refine ⟨_, rfl, _, ix_0 hl, _, rfl, _, ix_0 hs, rfl, _, rfl, ite2 (fun c => ?_) fun c => ?_⟩
  · rw [str_dec] at c
    have c1 : decide (l.nm = s.nm) = false := by simpa using c
    rw [c1, Bool.false_and] at q
    exact q H (Same.refl H)
  rw [str_dec] at c
  have c1 : decide (l.nm = s.nm) = true := by simpa using c
  rw [c1, Bool.true_and] at q
  refine ⟨_, rfl, _, ix_1 hl, _, rfl, _, ix_1 hs, rfl, _, rfl, ite2 (fun c => ?_) fun c => ?_⟩
  · rw [int_dec] at c
    have c1 : decide (l.sd ≠ s.sd) = false := by simpa using c
    rw [c1, Bool.false_and] at q
    exact q H (Same.refl H)
  rw [int_dec] at c
  have c2 : decide (l.sd ≠ s.sd) = true := by simpa using c
  rw [c2, Bool.true_and] at q
  refine ⟨_, rfl, _, ix_2 hl, _, rfl, _, ix_2 hs, l.rw, s.rw, ⟨hlr, hsr, lok.rw, sok.rw⟩, _, rfl, ite2 (fun c => ?_) fun c => ?_⟩
  · rw [c, Bool.true_or] at q
    exact q H (Same.refl H)
  rw [Bool.eq_false_iff.mpr c, Bool.false_or] at q
  refine ⟨_, rfl, _, rfl, _, _, l, s, rfl, hl0, hs0, lok, sok, fun H1 s1 => ⟨_, rfl, ite2 (fun c => ?_) fun c => ?_⟩⟩
  · rw [c, Bool.true_or] at q
    exact q H1 s1
  rw [Bool.eq_false_iff.mpr c, Bool.false_or] at q
  exact ⟨_, rfl, _, rfl, _, _, s, l, rfl, hs0.mono (Same.tk s1), hl0.mono (Same.tk s1), sok, lok, fun H2 s2 => q H2 (s1.trans s2)⟩
abbrev n_partners : List Str := ["pairing", "found", "one", "other"]
theorem sc_partners : FnScope ["pairing", "found", "one", "other"] ["pairing"] (defScope s_partners) := ⟨rfl, rfl, rfl, by decide +kernel, rfl, by decide +kernel, by decide +kernel⟩
theorem ok_partners (T : Tx K mg) : Dfn P w K mg base 1 "partners" ["pairing"] (fun vs H Q => ∃ (v : V) (p : List (Nat × Nat)), vs = [v] ∧ RPg H v p ∧ (brds p).Nodup ∧ p.length ≤ 1000 ∧ ∀ H' d kvs, Same H H' → H' d = some (.dK kvs) → kvs.length = 2 * p.length → Q (.ref d) H') :=
  Dfn.mk T.f_partners T.g_partners sc_partners (fun _ _ _ _ _ _ us hl => match us, hl with | [_], _ => rfl) (fun vs H Q h => by obtain ⟨v, p, rfl, _⟩ := h; rfl) fun cdv A outer s0 H vs Q E hr h => by
  obtain ⟨v, p, rfl, ⟨xs, ⟨a, rfl, ha⟩, hp⟩, nd, hlen, q⟩ := h
  refine ⟨_, (pss_cons (ps_set (i := 1) sc_partners.nd rfl (Or.inl rfl) pe_dnewK)
  (pss_cons (ps_for PassesOwn.never rfl (pi_tup (pv 0)) (pg_tup (by rfl) (pgs_cons (pg_name (i := 2) sc_partners.nd rfl (Or.inl rfl)) (pgs_cons (pg_name (i := 3) sc_partners.nd rfl (Or.inl rfl)) pgs_nil)))
    (pss_cons (ps_dput (hu_of hr) (pv 1) (pv 2) (pv 3) rfl)
    (pss_one (ps_dput (hu_of hr) (pv 1) (pv 3) (pv 2) rfl))))
  (pss_one (ps_ret (pv 1))))), ?_⟩
  have xl : xs.length = p.length := hp.length
  intro d hd
  refine ⟨_, rfl, a, rfl, ⟨_, SqT.of (Same.new hd _ _ ha)⟩, ?_⟩
  refine for_it walk_tup (fun i σ H1 => Same H H1 ∧ ∃ kvs x y, σ = [some (.ref a), some (.ref d), x, y] ∧ H1 d = some (.dK kvs) ∧ kvs.map (·.1) = (brds (p.take i)).map fun n : Nat => (Sum.inl (n : Int) : Key)) ⟨Same.new hd, [], none, none, rfl, upd_same, rfl⟩ (fun i σ H1 _ h => sqt h.1 (SqT.of ha)) (fun i x σ H1 H2 hi h y => ?_) fun σ H1 h => ?_
  · obtain ⟨s1, kvs, x0, y0, rfl, h1, h2⟩ := h
    obtain ⟨rfl, hx⟩ := y
    obtain ⟨b, hb, r⟩ := paired_get hp hx
    have r := r.mono (Same.tk s1)
    have tk : p.take (i + 1) = p.take i ++ [b] := by rw [List.take_add_one, hb]; rfl
    have nd2 : (brds (p.take i) ++ [b.1, b.2]).Nodup := by
      have e : brds p = brds (p.take (i + 1)) ++ brds (p.drop (i + 1)) := by rw [← brds_append, List.take_append_drop]
      rw [e, tk, brds_append] at nd
      exact (List.nodup_append.mp nd).1
    have kl : kvs.length = 2 * (p.take i).length := by
      have := congrArg List.length h2
      rwa [List.length_map, List.length_map, brds_len] at this
    have kl2 : kvs.length ≤ 2000 := by rw [kl, List.length_take]; omega
    have n1 : b.1 ∉ brds (p.take i) := fun z => (List.nodup_append.mp nd2).2.2 _ z b.1 (by simp) rfl
    have n2 : b.2 ∉ brds (p.take i) := fun z => (List.nodup_append.mp nd2).2.2 _ z b.2 (by simp) rfl
    have n3 : b.1 ≠ b.2 := by
      have := (List.nodup_append.mp nd2).2.1
      simpa using this
    have new : ∀ {kvs : List (Key × V)} {l : List Nat} {k : Nat} {z : V}, kvs.map (·.1) = l.map (fun n : Nat => (Sum.inl (n : Int) : Key)) → k ∉ l → (putK kvs (Sum.inl (k : Int)) z).map (·.1) = (l ++ [k]).map fun n : Nat => (Sum.inl (n : Int) : Key) := fun {kvs l k z} e n => by
      unfold putK
      rw [if_neg, List.map_append, List.map_append, e]; rfl
      intro c
      obtain ⟨kv, hk, e2⟩ := List.any_eq_true.mp c
      have : kv.1 ∈ l.map (fun n : Nat => (Sum.inl (n : Int) : Key)) := e ▸ List.mem_map_of_mem hk
      obtain ⟨y, hy, e3⟩ := List.mem_map.mp this
      rw [of_decide_eq_true e2] at e3
      injection e3 with e3
      have : y = k := by omega
      exact n (this ▸ hy)
    have z1 : (putK kvs (Sum.inl (b.1 : Int)) (.int (b.2 : Nat))).map (·.1) = (brds (p.take i) ++ [b.1]).map fun n : Nat => (Sum.inl (n : Int) : Key) := new h2 n1
    have l1 : (putK kvs (Sum.inl (b.1 : Int)) (.int (b.2 : Nat))).length < sizeLine := by
      have := congrArg List.length z1
      rw [List.length_map, List.length_map, List.length_append, brds_len, ← kl] at this
      rw [this, sizeLine_eq]
      simp
      omega
    refine tg2 r ⟨_, rfl, _, rfl, _, rfl, d, _, rfl, DPut.k (k := Sum.inl (b.1 : Int)) h1 (by rw [sizeLine_eq]; omega), _, rfl, _, rfl, _, rfl, d, _, rfl, DPut.k (k := Sum.inl (b.2 : Int)) upd_same l1, fun c o e => ?_, _, _, _, rfl, upd_same, ?_⟩
    · rw [upd_ne (fun z => by rw [z, hd] at e; cases e), upd_ne (fun z => by rw [z, hd] at e; cases e)]
      exact s1 _ _ e
    · rw [tk, brds_append]
      show _ = (brds (p.take i) ++ [b.1, b.2]).map _
      rw [show brds (p.take i) ++ [b.1, b.2] = (brds (p.take i) ++ [b.1]) ++ [b.2] by rw [List.append_assoc]; rfl]
      refine new z1 fun z => ?_
      rcases List.mem_append.mp z with z | z
      · exact n2 z
      · exact n3 (List.mem_singleton.mp z).symm
  · obtain ⟨s1, kvs, x0, y0, rfl, h1, h2⟩ := h
    rw [xl, List.take_length] at h2
    refine ⟨_, rfl, q H1 d kvs s1 h1 ?_⟩
    have := congrArg List.length h2
    rwa [List.length_map, List.length_map, brds_len] at this
abbrev n_is_pairing : List Str := ["hall", "thing", "many", "pair", "one", "other"]
theorem sc_is_pairing : FnScope ["hall", "thing", "many", "pair", "one", "other"] ["hall", "thing"] (defScope s_is_pairing) := ⟨rfl, rfl, rfl, by decide +kernel, rfl, by decide +kernel, by decide +kernel⟩
theorem ok_is_pairing (T : Tx K mg) : Dfn P w K mg base 4 "is_pairing" ["hall", "thing"] (fun vs H Q => ∃ (v u : V) (bs : List Brd) (nms : List Str) (p : List (Nat × Nat)), vs = [v, u] ∧ RHall K H v bs nms ∧ RPg H u p ∧ PgOk bs p ∧ ∀ H', Same H H' → Q (.bl true) H') :=
  Dfn.mk T.f_is_pairing T.g_is_pairing sc_is_pairing (fun _ _ _ _ _ _ us hl => match us, hl with | [_, _], _ => rfl) (fun vs H Q h => by obtain ⟨v, u, bs, nms, p, rfl, _⟩ := h; rfl) fun cdv A outer s0 H vs Q E hr h => by
  obtain ⟨v, u, bs, nms, p, rfl, hh, hp0, pok, q⟩ := h
  refine ⟨_, (pss_cons (ps_set (i := 2) sc_is_pairing.nd rfl (Or.inr rfl) (pe_callB (lenA (K := K) rfl) (by rfl) T.b_len (by decide +kernel) (pa_cons (pe_fldA (K := K) rfl tm_var (pv 0) rfl) pa_nil)))
  (pss_cons (ps_if (PW.pt (pw_or (pt_not (pt_val (pe_callB (isiA (K := K) rfl) (by rfl) T.b_isinstance (by decide +kernel) (pa_cons (pv 1) (pa_cons (pe_bltn (v := .ty "tuple") (by rfl) T.b_tuple boot_tuple rfl) pa_nil))))) (pw_or1 (pt_not (pt_val (pe_callB (allA (K := K) rfl rfl) (by rfl) T.b_all (by decide +kernel) (pa_cons (pe_lc (own := [("pair", 3)]) (g := (gName 3)) (tt := tYes) rfl sc_is_pairing.nd (pi_tup (pv 1)) (blkOk_by (own := [("pair", 3)]) (N := n_is_pairing) (sc := defScope s_is_pairing) (by decide +kernel)) (fun _ _ _ _ _ => (pg_name (i := 3) sc_is_pairing.nd rfl (Or.inl rfl))) (fun _ _ _ _ _ => pts_nil) (fun _ _ _ _ _ => (pe_and (pe_c ((ok_is_lot T).mono (by decide)) hr (pa_cons (pv 3) (pa_cons (pv 2) pa_nil))) (pe_one (pe_cmpR op_eq (pe_callB (lenA (K := K) rfl) (by rfl) T.b_len (by decide +kernel) (pa_cons (pv 3) pa_nil)) pe_int (nomark _)))))) pa_nil))))))) pss_never pss_nil)
  (pss_cons (ps_if (PW.pt (pw_or (pt_not (pt_val (pe_c ((ok_is_ascending T).mono (by decide)) hr (pa_cons (pv 1) pa_nil)))) (pw_or1 (pt_not (pt_val (pe_callB (allA (K := K) rfl rfl) (by rfl) T.b_all (by decide +kernel) (pa_cons (pe_lc (own := [("one", 4), ("other", 5)]) (g := (gTup K 2 (gCons (gName 4) (gCons (gName 5) gNil)))) (tt := tYes) rfl sc_is_pairing.nd (pi_tup (pv 1)) (blkOk_by (own := [("one", 4), ("other", 5)]) (N := n_is_pairing) (sc := defScope s_is_pairing) (by decide +kernel)) (fun _ _ _ _ _ => (pg_tup (by rfl) (pgs_cons (pg_name (i := 4) sc_is_pairing.nd rfl (Or.inl rfl)) (pgs_cons (pg_name (i := 5) sc_is_pairing.nd rfl (Or.inl rfl)) pgs_nil)))) (fun _ _ _ _ _ => pts_nil) (fun _ _ _ _ _ => (pe_c ((ok_are_pair T).mono (by decide)) hr (pa_cons (pe_ix (ixA (K := K) rfl) (pe_fldA (K := K) rfl tm_var (pv 0) rfl) (pv 4) (fun _ _ => rfl)) (pa_cons (pe_ix (ixA (K := K) rfl) (pe_fldA (K := K) rfl tm_var (pv 0) rfl) (pv 5) (fun _ _ => rfl)) pa_nil))))) pa_nil))))))) pss_never pss_nil)
  (pss_one (ps_ret (pe_cmpR op_eq (pe_callB call_lenD (by rfl) T.b_len (by decide +kernel) (pa_cons (pe_c ((ok_partners T).mono (by decide)) hr (pa_cons (pv 1) pa_nil)) pa_nil)) (pe_op op_mul pe_int (pe_callB (lenA (K := K) rfl) (by rfl) T.b_len (by decide +kernel) (pa_cons (pv 1) pa_nil))) (nomark _))))))), ?_⟩
  obtain ⟨bv, hf, hb⟩ := hh.boards T
  have ok : BdsOk bs := (let ⟨_, _, _, _, _, _, _, _, h, _⟩ := hh; h)
  have plen := pok.len
  have blen := ok.hi
  obtain ⟨xs, ⟨a, rfl, ha⟩, hp⟩ := id hp0
  have xl : xs.length = p.length := hp.length
  refine ⟨_, rfl, _, hf, _, hb.lenIs, ?_⟩
  refine ⟨_, rfl, _, isi_tt ⟨a, rfl, ha⟩, _, rfl, iteF ⟨_, rfl, a, rfl, ⟨_, SqT.of ha⟩, fun D hD => ?_⟩⟩
  refine lc_all (walk_tup (xs := xs)) (by omega) hD (fun _ _ y => y = V.bl true) (fun _ _ _ _ _ e => e) (fun H1 s1 => sqt s1 (SqT.of ha)) (fun i x H1 H2 Qc hi s1 y k => ?_) fun H1 ys s1 hys hl' hat => ?_
  · obtain ⟨rfl, hx⟩ := y
    obtain ⟨b, hb, r⟩ := paired_get hp hx
    have r := r.mono (Same.tk s1)
    have hlt := pok.lt b (List.mem_of_getElem? hb)
    refine ⟨rfl, _, rfl, _, rfl, x, [b.1, b.2], bs.length, rfl, r, by simp, ?_, ?_, fun H3 s3 => ⟨_, rfl, iteT ⟨_, rfl, _, len_t (stp s3 r), rfl, k _ _ s3 rfl⟩⟩⟩
    · simp; omega
    · simp; omega
  refine ⟨_, all_true hys hat, true, by rw [all_rep], iteF ?_⟩
  refine ⟨_, rfl, _, xs, rfl, stp s1 ⟨a, rfl, ha⟩, by omega, fun i x y hx hy => ?_, fun H2 s2 => ⟨_, rfl, iteF ?_⟩⟩
  · obtain ⟨b, hb, r⟩ := paired_get hp hx
    obtain ⟨c, hc, r'⟩ := paired_get hp hy
    refine .inr ⟨[b.1, b.2], [c.1, c.2], r.mono (Same.tk s1), r'.mono (Same.tk s1), ltI_pair ?_⟩
    obtain ⟨h1, rfl⟩ := List.getElem?_eq_some_iff.mp hb
    obtain ⟨h2, rfl⟩ := List.getElem?_eq_some_iff.mp hc
    have := List.pairwise_iff_getElem.mp pok.asc i (i + 1) (by rw [List.length_map]; exact h1) (by rw [List.length_map]; exact h2) (Nat.lt_succ_self _)
    rw [List.getElem_map, List.getElem_map] at this
    omega
  have s12 := s1.trans s2
  refine ⟨_, rfl, a, rfl, ⟨_, SqT.of (s12 _ _ ha)⟩, fun D2 hD2 => ?_⟩
  refine lc_all (walk_tup (xs := xs)) (by omega) hD2 (fun _ _ y => y = V.bl true) (fun _ _ _ _ _ e => e) (fun H1 s3 => sqt (s12.trans s3) (SqT.of ha)) (fun i x H3 H4 Qc hi s3 y k => ?_) fun H3 ys2 s3 hys2 hl2 hat2 => ?_
  · obtain ⟨rfl, hx⟩ := y
    obtain ⟨b, hb, r⟩ := paired_get hp hx
    have s4 := s12.trans s3
    obtain ⟨hlt1, hlt2, hpair⟩ := pok.lt b (List.mem_of_getElem? hb)
    obtain ⟨bv, hf, hbd⟩ := (hh.mono s4).boards T
    obtain ⟨y1, hy1, r1⟩ := hbd.at (K := K) (i := b.1) (by omega)
    obtain ⟨y2, hy2, r2⟩ := hbd.at (K := K) (i := b.2) (by omega)
    refine tg2 (r.mono (Same.tk s4)) ⟨rfl, _, rfl, _, hf, _, rfl, _, hy1, _, rfl, _, hf, _, rfl, _, hy2, _, _, _, _, rfl, r1, r2, ok.bAt (by omega), ok.bAt (by omega), fun H5 s5 => k _ _ s5 (by rw [hpair])⟩
  refine ⟨_, all_true hys2 hat2, true, by rw [all_rep], iteF ?_⟩
  refine ⟨_, rfl, _, p, rfl, hp0.mono (Same.tk (s12.trans s3)), pok.nd, by omega, fun H4 d kvs s4 hd hkl => ⟨d, kvs, rfl, hd, ?_⟩⟩
  have s14 := s12.trans (s3.trans s4)
  refine ⟨_, rfl, _, len_t (stp s14 ⟨a, rfl, ha⟩), _, _, rfl, rfl, .inl ⟨by decide, by decide⟩, rfl, ?_⟩
  show Q (.bl (decide (V.int (kvs.length : Nat) = V.int (2 * (xs.length : Nat))))) H4
  rw [decide_eq_true (by rw [hkl, xl]; rfl)]
  exact q H4 s14
end
end Ug

/-! pairs.py: all_pairs, the search's parts -/
namespace Ug
open PySem PySem.Spec PyProof.Rows L2
theorem two_le : 2 ≤ sizeLine := by rw [sizeLine_eq]; decide
theorem sput {H H1 : Hp} {p : Addr} {o : HO} (n : H p = none) (s : Same H H1) : Same H (upd H1 p o) := fun b u e => by
  rw [upd_ne (fun z => by rw [z, n] at e; cases e)]; exact s _ _ e
/-- a list of pairs on the heap -/
def RPrs (H : Hp) (v : V) (ps : List (Nat × Nat)) : Prop := ∃ a ys, v = .ref a ∧ H a = some (.lst ys) ∧ Paired (RPr H) ys ps
theorem RPrs.mono {H H' : Hp} (k : Same H H') {v : V} {ps : List (Nat × Nat)} (h : RPrs H v ps) : RPrs H' v ps := let ⟨a, ys, h1, h2, h3⟩ := h; ⟨a, ys, h1, k _ _ h2, pimp (fun _ _ => RPr.mono (Same.tk k)) h3⟩
def pairsUp (bs : List Brd) (i : Nat) : List (Nat × Nat) := (List.range i).flatMap fun i => rowPairs bs i (bs.length - (i + 1))
theorem pairsUp_succ (bs : List Brd) (i : Nat) : pairsUp bs (i + 1) = pairsUp bs i ++ rowPairs bs i (bs.length - (i + 1)) := by
  unfold pairsUp
  rw [List.range_succ, List.flatMap_append]
  simp
theorem rowPairs_len (bs : List Brd) (i n : Nat) : (rowPairs bs i n).length ≤ n := by
  unfold rowPairs
  rw [List.length_map]
  exact Nat.le_trans (List.length_filter_le _ _) (by rw [List.length_range']; exact Nat.le_refl n)
theorem rowPairs_succ (bs : List Brd) (i n : Nat) : rowPairs bs i (n + 1) = rowPairs bs i n ++ (if arePair (bAt bs i) (bAt bs (i + 1 + n)) = true then [(i, i + 1 + n)] else []) := by
  unfold rowPairs
  rw [List.range'_concat, List.filter_append, List.map_append, Nat.one_mul, List.filter_cons, List.filter_nil]
  split
  · rfl
  · rfl
theorem pairsUp_len (bs : List Brd) (i : Nat) : (pairsUp bs i).length ≤ i * bs.length := by
  have := len_flatMap_le (fun i => rowPairs bs i (bs.length - (i + 1))) bs.length (List.range i) fun x _ => Nat.le_trans (rowPairs_len _ _ _) (Nat.sub_le _ _)
  rwa [List.length_range] at this
/-- what stands near what -/
def REnt (H : Hp) (kv : Key × V) (e : Nat × List Nat) : Prop := kv.1 = .inl (e.1 : Int) ∧ ∃ l, kv.2 = .ref l ∧ H l = some (.lst (nats e.2))
def RNear (H : Hp) (d : Addr) (nr : List (Nat × List Nat)) : Prop := ∃ kvs, H d = some (.dK kvs) ∧ Paired (REnt H) kvs nr
theorem REnt.mono {H H' : Hp} (k : Same H H') {kv : Key × V} {e : Nat × List Nat} (h : REnt H kv e) : REnt H' kv e := ⟨h.1, let ⟨l, h1, h2⟩ := h.2; ⟨l, h1, k _ _ h2⟩⟩
theorem RNear.mono {H H' : Hp} (k : Same H H') {d : Addr} {nr : List (Nat × List Nat)} (h : RNear H d nr) : RNear H' d nr := let ⟨kvs, h1, h2⟩ := h; ⟨kvs, k _ _ h1, pimp (fun _ _ => REnt.mono k) h2⟩
theorem near_val {H : Hp} : ∀ {kvs : List (Key × V)} {nr : List (Nat × List Nat)}, Paired (REnt H) kvs nr → ∀ {b : Nat}, b ∈ keysN nr → ∃ l, valV kvs (.inl (b : Int)) = some (.ref l) ∧ H l = some (.lst (nats (nbOf nr b)))
  | _, _, .nil, b, h => by cases h
  | (k, v) :: kvs, (c, l0) :: nr, .cons r t, b, h => by
    obtain ⟨e1, l, e2, e3⟩ := r
    simp only at e1 e2 e3
    subst e1 e2
    unfold nbOf valV
    by_cases c1 : c = b
    · subst c1
      rw [if_pos rfl, List.find?_cons_of_pos (by simp)]
      exact ⟨l, rfl, e3⟩
    · rw [if_neg c1, List.find?_cons_of_neg (by simp; omega)]
      have : b ∈ keysN nr := by
        rcases List.mem_cons.mp h with h | h
        · exact absurd h.symm c1
        · exact h
      exact near_val t this
theorem RNear.get {H : Hp} {d : Addr} {nr : List (Nat × List Nat)} (h : RNear H d nr) {b : Nat} (hb : b ∈ keysN nr) : ∃ l, DGet H d (.int (b : Nat)) (some (.ref l)) ∧ H l = some (.lst (nats (nbOf nr b))) := by
  obtain ⟨kvs, h1, h2⟩ := h
  obtain ⟨l, e, h3⟩ := near_val h2 hb
  exact ⟨l, e ▸ DGet.k (k := Sum.inl (b : Int)) h1, h3⟩
/-- a dict of ints as a set -/
def KeysD (H : Hp) (d : Addr) (l : List Nat) : Prop := ∃ kvs, H d = some (.dK kvs) ∧ kvs.map (·.1) = l.map fun n : Nat => (Sum.inl (n : Int) : Key)
theorem keys_putN {k : Nat} {z : V} {kvs : List (Key × V)} {ks : List Nat} (h : kvs.map (·.1) = ks.map fun n : Nat => (Sum.inl (n : Int) : Key)) : (putK kvs (Sum.inl (k : Int)) z).map (·.1) = (ins ks k).map fun n : Nat => (Sum.inl (n : Int) : Key) := by
  have e : (kvs.any fun kv => decide (kv.1 = (Sum.inl (k : Int) : Key))) = decide (k ∈ ks) := by
    rw [Bool.eq_iff_iff, List.any_eq_true, decide_eq_true_eq]
    constructor
    · rintro ⟨kv, h1, h2⟩
      have : kv.1 ∈ ks.map (fun n : Nat => (Sum.inl (n : Int) : Key)) := h ▸ List.mem_map_of_mem h1
      rw [of_decide_eq_true h2] at this
      obtain ⟨y, hy, e⟩ := List.mem_map.mp this
      injection e with e
      have : y = k := by omega
      exact this ▸ hy
    · intro h1
      have : (Sum.inl (k : Int) : Key) ∈ kvs.map (·.1) := h ▸ List.mem_map_of_mem (f := fun n : Nat => (Sum.inl (n : Int) : Key)) h1
      obtain ⟨kv, h2, h3⟩ := List.mem_map.mp this
      exact ⟨kv, h2, decide_eq_true h3⟩
  unfold putK ins
  rw [e]
  by_cases c : k ∈ ks
  · rw [if_pos (decide_eq_true c), if_pos c, ← h, List.map_map]
    congr 1
    funext kv
    show (if kv.1 = (Sum.inl (k : Int) : Key) then (kv.1, z) else kv).1 = kv.1
    split <;> rfl
  · rw [if_neg (fun q => c (of_decide_eq_true q)), if_neg c, List.map_append, List.map_append, h]
    rfl
theorem KeysD.len {H : Hp} {d : Addr} {l : List Nat} (h : KeysD H d l) : ∃ kvs, H d = some (.dK kvs) ∧ kvs.length = l.length ∧ kvs.map (·.1) = l.map fun n : Nat => (Sum.inl (n : Int) : Key) :=
  let ⟨kvs, h1, h2⟩ := h; ⟨kvs, h1, by have := congrArg List.length h2; rwa [List.length_map, List.length_map] at this, h2⟩
theorem putF4 {a b c d : V} : putF "found" d (putF "most" c (putF "boards" b (putF "near" a []))) = ([("near", a), ("boards", b), ("most", c), ("found", d)] : List (Str × V)) := rfl
/-- the search's object -/
structure SeaAt (K : PySem.W.Frag) (H : Hp) (a d lb F : Addr) (most : Nat) (nr : List (Nat × List Nat)) (bd : List Nat) : Prop where
  obj : ∃ dx, H a = some (.ins (He.ga K "Search") dx [("near", .ref d), ("boards", .ref lb), ("most", .int (most : Nat)), ("found", .ref F)])
  near : RNear H d nr
  bds : H lb = some (.lst (nats bd))
section
variable {K : PySem.W.Frag} {mg : Str → Option Value} (T : Tx K mg) {H : Hp} {a d lb F : Addr} {most : Nat} {nr : List (Nat × List Nat)} {bd : List Nat} (h : SeaAt K H a d lb F most nr bd)
include T h
theorem SeaAt.fnear : FldIs K H (.ref a) "near" (.ref d) := let ⟨dx, e⟩ := h.obj; ⟨a, _, dx, _, rfl, e, T.cl_Search, T.na_Search_near, lk_here⟩
theorem SeaAt.fboards : FldIs K H (.ref a) "boards" (.ref lb) := let ⟨dx, e⟩ := h.obj; ⟨a, _, dx, _, rfl, e, T.cl_Search, T.na_Search_boards, (lk_past (by decide +kernel)).trans lk_here⟩
theorem SeaAt.fmost : FldIs K H (.ref a) "most" (.int (most : Nat)) := let ⟨dx, e⟩ := h.obj; ⟨a, _, dx, _, rfl, e, T.cl_Search, T.na_Search_most, (lk_past (by decide +kernel)).trans ((lk_past (by decide +kernel)).trans lk_here)⟩
theorem SeaAt.ffound : FldIs K H (.ref a) "found" (.ref F) := let ⟨dx, e⟩ := h.obj; ⟨a, _, dx, _, rfl, e, T.cl_Search, T.na_Search_found, (lk_past (by decide +kernel)).trans ((lk_past (by decide +kernel)).trans ((lk_past (by decide +kernel)).trans lk_here))⟩
end
theorem sea_meth {m : Str} {a b c d : V} (h1 : (m == ("near" : Str)) = false) (h2 : (m == ("boards" : Str)) = false) (h3 : (m == ("most" : Str)) = false) (h4 : (m == ("found" : Str)) = false) : List.lookup m ([("near", a), ("boards", b), ("most", c), ("found", d)] : List (Str × V)) = none :=
  (lk_past h1).trans ((lk_past h2).trans ((lk_past h3).trans ((lk_past h4).trans rfl)))
section
variable {P : Program} {w : World} {K : PySem.W.Frag} {mg : Str → Option Value} {base : Heap}
abbrev n_all_pairs : List Str := ["hall", "found", "one", "board", "other"]
theorem sc_all_pairs : FnScope ["hall", "found", "one", "board", "other"] ["hall"] (defScope s_all_pairs) := ⟨rfl, rfl, rfl, by decide +kernel, rfl, by decide +kernel, by decide +kernel⟩
theorem ok_all_pairs (T : Tx K mg) : Dfn P w K mg base 4 "all_pairs" ["hall"] (fun vs H Q => ∃ (v : V) (bs : List Brd) (nms : List Str), vs = [v] ∧ RHall K H v bs nms ∧ ∀ H' r, Same H H' → RPrs H' r (allPairs bs) → Q r H') :=
  Dfn.mk T.f_all_pairs T.g_all_pairs sc_all_pairs (fun _ _ _ _ _ _ us hl => match us, hl with | [_], _ => rfl) (fun vs H Q h => by obtain ⟨v, bs, nms, rfl, _⟩ := h; rfl) fun cdv A outer s0 H vs Q E hr h => by
  obtain ⟨v, bs, nms, rfl, hh, q⟩ := h
  refine ⟨_, (pss_cons (ps_set (i := 1) sc_all_pairs.nd rfl (Or.inl rfl) (pe_lst pa_nil))
  (pss_cons (ps_for PassesOwn.never rfl (pi_enumT (by rfl) T.b_enumerate (pa_cons (pe_fldA (K := K) rfl tm_var (pv 0) rfl) pa_nil)) (pg_tup (by rfl) (pgs_cons (pg_name (i := 2) sc_all_pairs.nd rfl (Or.inl rfl)) (pgs_cons (pg_name (i := 3) sc_all_pairs.nd rfl (Or.inl rfl)) pgs_nil)))
    (pss_one (ps_for PassesOwn.never rfl (pi_range2 (by rfl) T.b_range (pa_cons (pe_op op_add (pv 2) pe_int) (pa_cons (pe_callB (lenA (K := K) rfl) (by rfl) T.b_len (by decide +kernel) (pa_cons (pe_fldA (K := K) rfl tm_var (pv 0) rfl) pa_nil)) pa_nil))) (pg_name (i := 4) sc_all_pairs.nd rfl (Or.inl rfl))
      (pss_one (ps_if (pt_val (pe_c ((ok_are_pair T).mono (by decide)) hr (pa_cons (pv 3) (pa_cons (pe_ix (ixA (K := K) rfl) (pe_fldA (K := K) rfl tm_var (pv 0) rfl) (pv 4) (fun _ _ => rfl)) pa_nil))))
        (pss_one (ps_expr (pe_bm PySem.F.plainAttrs_list PySem.F.slot_list_append PySem.F.type_list_append mt_append (pv 1) (pa_cons (pe_tup (pa_cons (pv 2) (pa_cons (pv 4) pa_nil))) pa_nil)))) pss_nil)))))
  (pss_one (ps_ret (pv 1))))), ?_⟩
  have ok : BdsOk bs := (let ⟨_, _, _, _, _, _, _, _, h, _⟩ := hh; h)
  have h8 := ok.hi
  refine ⟨by decide, fun p np => ?_⟩
  have sp : Same H (upd H p (.lst [])) := Same.new np
  obtain ⟨bv, hf, hb⟩ := (hh.mono sp).boards T
  have hb0 := hb
  obtain ⟨xs, ⟨t, rfl, ht⟩, hx⟩ := hb0
  have xl : xs.length = bs.length := hx.length
  refine ⟨_, rfl, _, hf, t, xs, rfl, SqT.of ht, ?_⟩
  have kp : ∀ {H1 : Hp}, Same (upd H p (.lst [])) H1 → True := fun _ => True.intro
  have ht0 : H t = some (.tup xs) := by
    rw [upd_ne (fun z => by rw [z, upd_same] at ht; cases ht)] at ht; exact ht
  have pt : t ≠ p := fun z => by rw [z, np] at ht0; cases ht0
  have hx0 : Paired (RBd H) xs bs := by
    obtain ⟨bv, hf', hb'⟩ := hh.boards T
    obtain ⟨xs', ⟨t', e1, e2⟩, hx'⟩ := hb'
    obtain ⟨a1, C1, dx1, fs1, e3, e4, _, _, e5⟩ := hf
    obtain ⟨a2, C2, dx2, fs2, e6, e7, _, _, e8⟩ := hf'
    subst e3
    cases e6
    have : (upd H p (.lst [])) a1 = _ := sp _ _ e7
    rw [e4] at this
    cases this
    rw [e5] at e8
    cases e8
    cases e1
    rw [ht0] at e2
    cases e2
    exact hx'
  refine for_it walk_enumT (fun i σ H1 => Same H H1 ∧ ∃ ys x y z, σ = [some v, some (.ref p), x, y, z] ∧ H1 p = some (.lst ys) ∧ Paired (RPr H1) ys (pairsUp bs i)) ⟨sp, [], none, none, none, rfl, upd_same, .nil⟩ (fun i σ H1 _ h => sqt h.1 (SqT.of ht0)) (fun i x σ H1 H2 hi h y => ?_) fun σ H1 h => ?_
  · obtain ⟨s1, ys, x0, y0, z0, rfl, h1, h2⟩ := h
    obtain ⟨T1, n, y, rfl, nT, rfl, hn, hy⟩ := y
    have hn : some (V.int (i : Nat)) = some n := hn
    cases hn
    have hy : xs[i]? = some y := hy
    obtain ⟨b, hbi, r⟩ := paired_get hx0 hy
    have hib : i < bs.length := by omega
    rw [← bAt_get hbi] at r
    have nT' : T1 ≠ p := fun z => by rw [z, h1] at nT; cases nT
    have s2 : Same H (upd H1 T1 (.tup [.int (i : Nat), y])) := s1.trans (Same.new nT)
    have h1' : (upd H1 T1 (.tup [.int (i : Nat), y])) p = some (.lst ys) := by rw [upd_ne (Ne.symm nT')]; exact h1
    have h2' := pimp (fun _ _ => RPr.mono (Tk.new (o := .tup [.int (i : Nat), y]) nT)) h2
    have tt : Tp (upd H1 T1 (.tup [.int (i : Nat), y])) (.ref T1) [.int (i : Nat), y] := ⟨T1, rfl, upd_same⟩
    refine tg2 tt ?_
    generalize upd H1 T1 (.tup [.int (i : Nat), y]) = H2 at s2 h1' h2'
    obtain ⟨bv, hf, hb⟩ := (hh.mono s2).boards T
    refine ⟨_, rfl, _, _, rfl, rfl, _, rfl, _, hf, _, hb.lenIs, _, _, rfl, ⟨by omega, by omega, by omega, by omega⟩, ?_⟩
    refine for_it (walk_range (lo := (i : Int) + 1) (n := ((bs.length : Int) - ((i : Int) + 1)).toNat)) (fun j σ H3 => Same H H3 ∧ ∃ ys z, σ = [some v, some (.ref p), some (.int (i : Nat)), some y, z] ∧ H3 p = some (.lst ys) ∧ Paired (RPr H3) ys (pairsUp bs i ++ rowPairs bs i j)) ⟨s2, ys, _, rfl, h1', by rw [show rowPairs bs i 0 = [] from rfl, List.append_nil]; exact h2'⟩ (fun _ _ _ _ _ => True.intro) (fun j x σ H3 H4 hj h yy => ?_) fun σ H3 h => ?_
    · obtain ⟨s3, ys, z0, rfl, h1, h2⟩ := h
      obtain ⟨rfl, rfl⟩ := yy
      have hjb : i + 1 + j < bs.length := by omega
      have nx : ∀ {H5 : Hp} {zs : List V}, Same H H5 → H5 p = some (.lst zs) → Paired (RPr H5) zs (pairsUp bs i ++ rowPairs bs i (j + 1)) → Same H H5 ∧ ∃ ys z, ([some v, some (.ref p), some (.int (i : Nat)), some y, some (.int ((i : Int) + 1 + (j : Nat)))] : L2.St) = [some v, some (.ref p), some (.int (i : Nat)), some y, z] ∧ H5 p = some (.lst ys) ∧ Paired (RPr H5) ys (pairsUp bs i ++ rowPairs bs i (j + 1)) := fun a b c => ⟨a, _, _, rfl, b, c⟩
      obtain ⟨bv, hf, hb⟩ := (hh.mono s3).boards T
      obtain ⟨y2, hy2, r2⟩ := hb.at (K := K) (i := i + 1 + j) hjb
      refine ⟨_, rfl, _, rfl, _, hf, _, rfl, _, hy2, _, _, _, _, rfl, r.mono (Same.tk s3), r2, ok.bAt hib, ok.bAt hjb, fun H5 s5 => ⟨_, rfl, ite2 (fun c => ?_) fun c => ?_⟩⟩
      · have h5 := s5 _ _ h1
        have len : ys.length < sizeLine := by
          rw [h2.length, List.length_append, sizeLine_eq]
          have e1 := pairsUp_len bs i
          have e2 := rowPairs_len bs i j
          have e3 : i * bs.length ≤ 8 * 8 := Nat.mul_le_mul (by omega) h8
          omega
        refine ⟨_, rfl, .inl ⟨rfl, _, SqL.of h5⟩, _, rfl, _, rfl, two_le, fun t nt => ⟨p, ys, _, rfl, rfl, by rw [upd_ne (fun z => by rw [← z, h5] at nt; cases nt)]; exact h5, len, nx (sput np ((s3.trans s5).trans (Same.new nt))) upd_same ?_⟩⟩
        rw [rowPairs_succ, if_pos c, ← List.append_assoc]
        have k1 : Tk H4 (upd H5 t (.tup [.int (i : Nat), .int ((i : Int) + 1 + (j : Nat))])) := (Same.tk s5).trans (Tk.new nt)
        have k2 : Tk (upd H5 t (.tup [.int (i : Nat), .int ((i : Int) + 1 + (j : Nat))])) (upd (upd H5 t (.tup [.int (i : Nat), .int ((i : Int) + 1 + (j : Nat))])) p (.lst (ys ++ [.ref t]))) :=
          Tk.upd (o := .lst ys) (by rw [upd_ne (fun z => by rw [← z, h5] at nt; cases nt)]; exact h5) fun xs => by intro z; cases z
        exact (pimp (fun _ _ => RPr.mono (k1.trans k2)) h2).snoc (Tp.mono ⟨t, rfl, upd_same⟩ k2)
      · refine nx (s3.trans s5) (s5 _ _ h1) ?_
        rw [rowPairs_succ, if_neg c, List.append_nil]
        exact pimp (fun _ _ => RPr.mono (Same.tk s5)) h2
    · obtain ⟨s3, ys, z0, rfl, h1, h2⟩ := h
      refine ⟨s3, ys, _, _, _, rfl, h1, ?_⟩
      rw [pairsUp_succ]
      rw [show ((bs.length : Int) - ((i : Int) + 1)).toNat = bs.length - (i + 1) by omega] at h2
      exact h2
  · obtain ⟨s1, ys, x0, y0, z0, rfl, h1, h2⟩ := h
    rw [xl] at h2
    exact ⟨_, rfl, q _ _ s1 ⟨p, ys, rfl, h1, h2⟩⟩
abbrev n_Search_init : List Str := ["self", "near", "most"]
theorem sc_Search_init : FnScope ["self", "near", "most"] ["self", "near", "most"] (defScope s_Search_init) := ⟨rfl, rfl, rfl, by decide +kernel, rfl, by decide +kernel, by decide +kernel⟩
theorem ok_Search_init (T : Tx K mg) : Mth P w K mg base 1 (He.ma K (He.ga K "Search") "__init__") ["self", "near", "most"] (fun vs H Q => ∃ (a dx d : Addr) (most : Nat) (nr : List (Nat × List Nat)), vs = [.ref a, .ref d, .int (most : Nat)] ∧ H a = some (.ins (He.ga K "Search") dx []) ∧ RNear H d nr ∧ (keysN nr).Nodup ∧ nr.length < 64 ∧
    ∀ H' lb F bd, SeaAt K H' a d lb F most nr bd → bd.Pairwise (· < ·) → (∀ x, x ∈ bd ↔ x ∈ keysN nr) → H' F = some (.lst []) → H F = none → lb ≠ F → Out a H H' → Q .non H') :=
  Mth.mk T.f_Search_init sc_Search_init (fun _ _ _ _ _ _ us hl => match us, hl with | [_, _, _], _ => rfl) (fun vs H Q h => by obtain ⟨a, dx, d, most, nr, rfl, _⟩ := h; rfl) fun cdv A outer s0 H vs Q E hr h => by
  obtain ⟨a, dx, d, most, nr, rfl, ha, hn, nd, hlen, q⟩ := h
  refine ⟨_, (pss_cons (ps_fld (pv 0) (pv 1) rfl)
  (pss_cons (ps_fld (pv 0) (pe_callB (call_sortedDI rfl) (by rfl) T.b_sorted (by decide +kernel) (pa_cons (pv 1) pa_nil)) rfl)
  (pss_cons (ps_fld (pv 0) (pv 2) rfl)
  (pss_one (ps_fld (pv 0) (pe_lst pa_nil) rfl))))), ?_⟩
  have upa : ∀ {H1 : Hp} {o : HO}, Out a H H1 → Out a H (upd H1 a o) := fun k b o e n => by rw [upd_ne n]; exact k b o e n
  have refl : Out a H H := fun b o e n => e
  refine ⟨_, rfl, _, rfl, a, _, dx, _, rfl, ha, T.cl_Search, T.na_Search_near, by decide, ?_⟩
  have k1 := upa (o := .ins (He.ga K "Search") dx (putF "near" (.ref d) [])) refl
  have a1 : (upd H a (.ins (He.ga K "Search") dx (putF "near" (.ref d) []))) a = some (.ins (He.ga K "Search") dx (putF "near" (.ref d) [])) := upd_same
  generalize upd H a (.ins (He.ga K "Search") dx (putF "near" (.ref d) [])) = H1 at k1 a1
  obtain ⟨kvs, hd, hk⟩ := hn
  have da : d ≠ a := fun z => by rw [z, ha] at hd; cases hd
  have kn : kvs.map (·.1) = (keysN nr).map fun n : Nat => (Sum.inl (n : Int) : Key) := by
    clear hd hlen nd q
    induction hk with
    | nil => rfl
    | cons r t ih => rw [List.map_cons, ih, r.1]; rfl
  have kn' : kvs.map (·.1) = ((keysN nr).map fun n : Nat => (n : Int)).map Sum.inl := by rw [kn, List.map_map]; rfl
  refine ⟨_, rfl, d, kvs, _, rfl, .inl (k1 _ _ hd da), kn', by rw [List.length_map]; unfold keysN; rw [List.length_map]; exact hlen, fun ys lb perm asc nlb => ?_⟩
  -- the sorted keys as naturals
  obtain ⟨bd, hbd⟩ : ∃ bd : List Nat, ys = bd.map fun n : Nat => (n : Int) := ⟨ys.map Int.toNat, by
    rw [List.map_map]
    refine (List.map_id _).symm.trans (List.map_congr_left fun y hy => ?_)
    obtain ⟨n, _, rfl⟩ := List.mem_map.mp (perm.mem_iff.mp hy)
    rfl⟩
  subst hbd
  have inj : ∀ {x y : Nat}, (x : Int) = y → x = y := fun h => by omega
  have mem : ∀ x, x ∈ bd ↔ x ∈ keysN nr := fun x => by
    have := perm.mem_iff (a := (x : Int))
    constructor
    · intro h
      obtain ⟨y, hy, e⟩ := List.mem_map.mp (this.mp (List.mem_map_of_mem (f := fun n : Nat => (n : Int)) h))
      exact inj e ▸ hy
    · intro h
      obtain ⟨y, hy, e⟩ := List.mem_map.mp (this.mpr (List.mem_map_of_mem (f := fun n : Nat => (n : Int)) h))
      exact inj e ▸ hy
  have bnd : bd.Nodup := by
    have h1 : ((keysN nr).map fun n : Nat => (n : Int)).Nodup := List.pairwise_map.mpr (List.Pairwise.imp (fun h e => h (inj e)) nd)
    have h2 := perm.nodup_iff.mpr h1
    exact List.Pairwise.imp (fun h e => h (by rw [e])) (List.pairwise_map.mp h2)
  have basc : bd.Pairwise (· < ·) := by
    have h1 := List.pairwise_map.mp asc
    refine (h1.and bnd).imp fun {x y} h => ?_
    have := h.1
    have := h.2
    omega
  have k2 : Out a H (upd H1 lb (.lst ((bd.map fun n : Nat => (n : Int)).map V.int))) := fun b o e n => Same.new nlb _ _ (k1 _ _ e n)
  have a2 : (upd H1 lb (.lst ((bd.map fun n : Nat => (n : Int)).map V.int))) a = some (.ins (He.ga K "Search") dx (putF "near" (.ref d) [])) := Same.new nlb _ _ a1
  have l2 : (upd H1 lb (.lst ((bd.map fun n : Nat => (n : Int)).map V.int))) lb = some (.lst (nats bd)) := by rw [upd_same, nats_eq]
  generalize upd H1 lb (.lst ((bd.map fun n : Nat => (n : Int)).map V.int)) = H2 at k2 a2 l2
  have lba : lb ≠ a := fun z => by rw [z, a2] at l2; cases l2
  have Hlb : H lb = none := by
    cases e : H lb with
    | none => rfl
    | some o => have := k1 _ _ e lba; rw [nlb] at this; cases this
  refine ⟨_, rfl, a, _, dx, _, rfl, a2, T.cl_Search, T.na_Search_boards, (show 1 < 1000 by decide), _, rfl, _, rfl, a, _, dx, _, rfl, upd_same, T.cl_Search, T.na_Search_most, (show 2 < 1000 by decide), ?_⟩
  have k3 := upa (o := .ins (He.ga K "Search") dx (putF "most" (.int (most : Nat)) (putF "boards" (.ref lb) (putF "near" (.ref d) [])))) (upa (o := .ins (He.ga K "Search") dx (putF "boards" (.ref lb) (putF "near" (.ref d) []))) k2)
  have a3 : (upd (upd H2 a (.ins (He.ga K "Search") dx (putF "boards" (.ref lb) (putF "near" (.ref d) [])))) a (.ins (He.ga K "Search") dx (putF "most" (.int (most : Nat)) (putF "boards" (.ref lb) (putF "near" (.ref d) []))))) a = some (.ins (He.ga K "Search") dx (putF "most" (.int (most : Nat)) (putF "boards" (.ref lb) (putF "near" (.ref d) [])))) := upd_same
  have l3 : (upd (upd H2 a (.ins (He.ga K "Search") dx (putF "boards" (.ref lb) (putF "near" (.ref d) [])))) a (.ins (He.ga K "Search") dx (putF "most" (.int (most : Nat)) (putF "boards" (.ref lb) (putF "near" (.ref d) []))))) lb = some (.lst (nats bd)) := by rw [upd_ne lba, upd_ne lba]; exact l2
  generalize (upd (upd H2 a (.ins (He.ga K "Search") dx (putF "boards" (.ref lb) (putF "near" (.ref d) [])))) a (.ins (He.ga K "Search") dx (putF "most" (.int (most : Nat)) (putF "boards" (.ref lb) (putF "near" (.ref d) []))))) = H3 at k3 a3 l3
  refine ⟨by decide, fun F nF => ?_⟩
  have aF : a ≠ F := fun z => by rw [← z, a3] at nF; cases nF
  have lbF : lb ≠ F := fun z => by rw [← z, l3] at nF; cases nF
  have HF : H F = none := by
    cases e : H F with
    | none => rfl
    | some o => have := k3 _ _ e (Ne.symm aF); rw [nF] at this; cases this
  refine ⟨_, rfl, a, _, dx, _, rfl, by rw [upd_ne aF]; exact a3, T.cl_Search, T.na_Search_found, ?_, q _ lb F bd ⟨⟨dx, by rw [upd_same, putF4]⟩, ⟨kvs, ?_, ?_⟩, ?_⟩ basc mem ?_ HF lbF ?_⟩
  · exact (show 3 < 1000 by decide)
  · rw [upd_ne da]
    exact Same.new nF _ _ (k3 _ _ hd da)
  · refine pimp (fun kv e r => ⟨r.1, ?_⟩) hk
    obtain ⟨l, h1, h2⟩ := r.2
    have la : l ≠ a := fun z => by rw [z, ha] at h2; cases h2
    refine ⟨l, h1, ?_⟩
    rw [upd_ne la]
    exact Same.new nF _ _ (k3 _ _ h2 la)
  · rw [upd_ne lba, upd_ne lbF]; exact l3
  · rw [upd_ne (Ne.symm aF), upd_same]
  · intro b o e n
    rw [upd_ne n]
    exact Same.new nF _ _ (k3 _ _ e n)
end
end Ug

/-! pairs.py: is_stuck -/
namespace Ug
open PySem PySem.Spec PyProof.Rows L2
theorem stuck_in {nb : Nat → List Nat} {tk out : List Nat} {b o : Nat} (h1 : b ∈ out) (h2 : o ∈ nb b) (h3 : o ∈ out) : stuck nb tk out = true := by
  unfold stuck
  rw [Bool.or_eq_true]
  exact .inl (List.any_eq_true.mpr ⟨b, h1, List.any_eq_true.mpr ⟨o, h2, decide_eq_true h3⟩⟩)
theorem stuck_out {nb : Nat → List Nat} {tk out : List Nat} (h : ∀ b ∈ out, ∀ o ∈ nb b, o ∉ out) : stuck nb tk out = decide ((freeOf nb tk out (needOf nb tk out)).length < (needOf nb tk out).length) := by
  unfold stuck
  rw [show (out.any fun b => (nb b).any fun o => decide (o ∈ out)) = false from List.any_eq_false.mpr fun b hb z => by
    obtain ⟨o, ho, e⟩ := List.any_eq_true.mp z
    exact h b hb o ho (of_decide_eq_true e), Bool.false_or]
def needIn (nb : Nat → List Nat) (tk acc : List Nat) (l : List Nat) : List Nat := l.foldl (fun acc o => if o ∈ tk then acc else ins acc o) acc
def freeIn (tk out acc : List Nat) (l : List Nat) : List Nat := l.foldl (fun acc o => if o ∉ tk ∧ o ∉ out then ins acc o else acc) acc
theorem take_snoc {α : Type} {l : List α} {i : Nat} {x : α} (h : l[i]? = some x) : l.take (i + 1) = l.take i ++ [x] := by rw [List.take_add_one, h]; rfl
structure Good (ks l : List Nat) : Prop where
  nd : l.Nodup
  sub : ∀ x ∈ l, x ∈ ks
theorem Good.nil {ks : List Nat} : Good ks [] := ⟨List.nodup_nil, fun x h => by cases h⟩
theorem Good.ins {ks l : List Nat} {x : Nat} (g : Good ks l) (h : x ∈ ks) : Good ks (Ug.ins l x) := ⟨ins_nodup g.nd, fun y hy => (mem_ins.mp hy).elim (g.sub y) fun e => e ▸ h⟩
theorem Good.len {ks l : List Nat} (g : Good ks l) : l.length ≤ ks.length := nodup_len _ _ g.nd g.sub
theorem KeysD.put {H H1 : Hp} {d : Addr} {l : List Nat} {k : Nat} {z : V} {kvs : List (Key × V)} (e : kvs.map (·.1) = l.map fun n : Nat => (Sum.inl (n : Int) : Key)) : KeysD (upd H1 d (.dK (putK kvs (Sum.inl (k : Int)) z))) d (ins l k) := ⟨_, upd_same, keys_putN e⟩
theorem KeysD.other {H : Hp} {d p : Addr} {o : HO} {l : List Nat} (h : KeysD H d l) (n : d ≠ p) : KeysD (upd H p o) d l := let ⟨kvs, h1, h2⟩ := h; ⟨kvs, by rw [upd_ne n]; exact h1, h2⟩
theorem sea_get {K : PySem.W.Frag} {H : Hp} {a d lb F : Addr} {most : Nat} {nr : List (Nat × List Nat)} {bd : List Nat} (sea : SeaAt K H a d lb F most nr bd) {b : Nat} (hb : b ∈ keysN nr) : ∃ l, H l = some (.lst (nats (nbOf nr b))) ∧ ∀ H', Same H H' → DGet H' d (.int (b : Nat)) (some (.ref l)) := by
  obtain ⟨kvs, h1, h2⟩ := sea.near
  obtain ⟨l, e, h3⟩ := near_val h2 hb
  exact ⟨l, h3, fun H' s => e ▸ DGet.k (k := Sum.inl (b : Int)) (s _ _ h1)⟩
theorem SeaAt.mono {K : PySem.W.Frag} {H H' : Hp} {a d lb F : Addr} {most : Nat} {nr : List (Nat × List Nat)} {bd : List Nat} (s : Same H H') (h : SeaAt K H a d lb F most nr bd) : SeaAt K H' a d lb F most nr bd := ⟨h.obj.imp fun dx e => s _ _ e, h.near.mono s, s _ _ h.bds⟩
section
variable {P : Program} {w : World} {K : PySem.W.Frag} {mg : Str → Option Value} {base : Heap}
abbrev n_Search_is_stuck : List Str := ["self", "taken", "out", "needed", "free", "board", "other"]
theorem sc_Search_is_stuck : FnScope ["self", "taken", "out", "needed", "free", "board", "other"] ["self", "taken", "out"] (defScope s_Search_is_stuck) := ⟨rfl, rfl, rfl, by decide +kernel, rfl, by decide +kernel, by decide +kernel⟩
theorem ok_Search_is_stuck (T : Tx K mg) : Mth P w K mg base 1 (He.ma K (He.ga K "Search") "is_stuck") ["self", "taken", "out"] (fun vs H Q => ∃ (a t u d lb F : Addr) (most : Nat) (nr : List (Nat × List Nat)) (bd tk out : List Nat), vs = [.ref a, .ref t, .ref u] ∧ SeaAt K H a d lb F most nr bd ∧ H t = some (.lst (nats tk)) ∧ H u = some (.lst (nats out)) ∧
    (∀ b ∈ out, b ∈ keysN nr) ∧ (∀ b o, o ∈ nbOf nr b → o ∈ keysN nr) ∧ (keysN nr).length < 64 ∧ ∀ H', Same H H' → Q (.bl (stuck (nbOf nr) tk out)) H') :=
  Mth.mk T.f_Search_is_stuck sc_Search_is_stuck (fun _ _ _ _ _ _ us hl => match us, hl with | [_, _, _], _ => rfl) (fun vs H Q h => by obtain ⟨a, t, u, d, lb, F, most, nr, bd, tk, out, rfl, _⟩ := h; rfl) fun cdv A outer s0 H vs Q E hr h => by
  obtain ⟨a, t, u, d, lb, F, most, nr, bd, tk, out, rfl, sea, ht, hu, hok, hkey, hk64, q⟩ := h
  refine ⟨_, (pss_cons (ps_set (i := 3) sc_Search_is_stuck.nd rfl (Or.inl rfl) pe_dnewK)
  (pss_cons (ps_set (i := 4) sc_Search_is_stuck.nd rfl (Or.inl rfl) pe_dnewK)
  (pss_cons (ps_for PassesOwn.never rfl (pi_list (pv 2)) (pg_name (i := 5) sc_Search_is_stuck.nd rfl (Or.inl rfl))
    (pss_one (ps_for PassesOwn.never rfl (pi_list (pe_dget (hu_of hr) (pe_fldA (K := K) rfl tm_var (pv 0) rfl) (pv 5) (fun _ _ => rfl))) (pg_name (i := 6) sc_Search_is_stuck.nd rfl (Or.inl rfl))
      (pss_cons (ps_if (pt_cmpR (inA (K := K) rfl) (pv 6) (pv 2) rfl)
        (pss_one (ps_ret pe_bl)) pss_nil)
      (pss_one (ps_if (pt_cmpR (notInA (K := K) rfl) (pv 6) (pv 1) rfl)
        (pss_one (ps_dput (hu_of hr) (pv 3) (pv 6) pe_bl rfl)) pss_nil))))))
  (pss_cons (ps_lock (ps_for PassesOwn.never rfl (pi_keys (pv 3)) (pg_name (i := 5) sc_Search_is_stuck.nd rfl (Or.inl rfl))
    (pss_one (ps_for PassesOwn.never rfl (pi_list (pe_dget (hu_of hr) (pe_fldA (K := K) rfl tm_var (pv 0) rfl) (pv 5) (fun _ _ => rfl))) (pg_name (i := 6) sc_Search_is_stuck.nd rfl (Or.inl rfl))
      (pss_one (ps_if (PW.pt (pw_and (pt_cmpR (notInA (K := K) rfl) (pv 6) (pv 1) rfl) (pw_and1 (pt_cmpR (notInA (K := K) rfl) (pv 6) (pv 2) rfl))))
        (pss_one (ps_dput (hu_of hr) (pv 4) (pv 6) pe_bl rfl)) pss_nil))))))
  (pss_one (ps_ret (pe_cmpR op_gt (pe_callB call_lenD (by rfl) T.b_len (by decide +kernel) (pa_cons (pv 3) pa_nil)) (pe_callB call_lenD (by rfl) T.b_len (by decide +kernel) (pa_cons (pv 4) pa_nil)) (nomark _)))))))), ?_⟩
  refine fun nd hnd fr hfr => ?_
  have fn : nd ≠ fr := fun z => by rw [← z, upd_same] at hfr; cases hfr
  have Hfr : H fr = none := by rw [upd_ne (Ne.symm fn)] at hfr; exact hfr
  have s0 : Same H (upd (upd H nd (.dK [])) fr (.dK [])) := sput Hfr (Same.new hnd)
  have put1 : ∀ {H1 : Hp} {o : HO}, Same H H1 → Same H (upd H1 nd o) := fun s => sput hnd s
  have put2 : ∀ {H1 : Hp} {o : HO}, Same H H1 → Same H (upd H1 fr o) := fun s => sput Hfr s
  have k0 : KeysD (upd (upd H nd (.dK [])) fr (.dK [])) nd [] := ⟨[], by rw [upd_ne fn]; exact upd_same, rfl⟩
  have f0 : KeysD (upd (upd H nd (.dK [])) fr (.dK [])) fr [] := ⟨[], upd_same, rfl⟩
  generalize upd (upd H nd (.dK [])) fr (.dK []) = H0 at s0 k0 f0
  refine ⟨_, rfl, u, rfl, ⟨_, SqL.of (s0 _ _ hu)⟩, ?_⟩
  refine for_it (walk_list (xs := nats out)) (fun i σ H1 => Same H H1 ∧ ∃ x y, σ = [some (.ref a), some (.ref t), some (.ref u), some (.ref nd), some (.ref fr), x, y] ∧ KeysD H1 nd (needOf (nbOf nr) tk (out.take i)) ∧ KeysD H1 fr [] ∧ Good (keysN nr) (needOf (nbOf nr) tk (out.take i)) ∧ ∀ b ∈ out.take i, ∀ o ∈ nbOf nr b, o ∉ out)
    ⟨s0, none, none, rfl, k0, f0, Good.nil, fun b h => by rw [List.take_zero] at h; cases h⟩ (fun i σ H1 _ h => sql h.1 (SqL.of hu)) (fun i x σ H1 H2 hi h y => ?_) fun σ H1 h => ?_
  · obtain ⟨s1, x0, y0, rfl, h1, h2, h3, h4⟩ := h
    obtain ⟨rfl, hx⟩ := y
    unfold nats at hx
    rw [List.getElem?_map] at hx
    obtain ⟨b, hb, rfl⟩ := Option.map_eq_some_iff.mp hx
    have hbo : b ∈ out := List.mem_of_getElem? hb
    obtain ⟨l, hl0, hgg⟩ := sea_get sea (hok b hbo)
    have stp : needOf (nbOf nr) tk (out.take (i + 1)) = needIn (nbOf nr) tk (needOf (nbOf nr) tk (out.take i)) (nbOf nr b) := by
      rw [take_snoc hb]
      unfold needOf needIn
      rw [List.foldl_append]
      rfl
    refine ⟨_, rfl, _, (sea.mono s1).fnear T, _, rfl, d, _, rfl, hgg _ s1, l, rfl, ⟨_, SqL.of (s1 _ _ hl0)⟩, ?_⟩
    refine for_it (walk_list (xs := nats (nbOf nr b))) (fun j σ H1 => Same H H1 ∧ ∃ y, σ = [some (.ref a), some (.ref t), some (.ref u), some (.ref nd), some (.ref fr), some (.int (b : Nat)), y] ∧ KeysD H1 nd (needIn (nbOf nr) tk (needOf (nbOf nr) tk (out.take i)) ((nbOf nr b).take j)) ∧ KeysD H1 fr [] ∧ Good (keysN nr) (needIn (nbOf nr) tk (needOf (nbOf nr) tk (out.take i)) ((nbOf nr b).take j)) ∧ ∀ o ∈ (nbOf nr b).take j, o ∉ out)
      ⟨s1, _, rfl, h1, h2, h3, fun o h => by rw [List.take_zero] at h; cases h⟩ (fun j σ H1 _ h => sql h.1 (SqL.of hl0)) (fun j x σ H3 H4 hj h y => ?_) fun σ H3 h => ?_
    · obtain ⟨s3, y0, rfl, g1, g2, g3, g4⟩ := h
      obtain ⟨rfl, hx⟩ := y
      unfold nats at hx
      rw [List.getElem?_map] at hx
      obtain ⟨o, ho, rfl⟩ := Option.map_eq_some_iff.mp hx
      have hon : o ∈ nbOf nr b := List.mem_of_getElem? ho
      have tko : needIn (nbOf nr) tk (needOf (nbOf nr) tk (out.take i)) ((nbOf nr b).take (j + 1)) = if o ∈ tk then needIn (nbOf nr) tk (needOf (nbOf nr) tk (out.take i)) ((nbOf nr b).take j) else ins (needIn (nbOf nr) tk (needOf (nbOf nr) tk (out.take i)) ((nbOf nr b).take j)) o := by
        rw [take_snoc ho]
        unfold needIn
        rw [List.foldl_append]
        rfl
      have g4' : o ∉ out → ∀ o ∈ (nbOf nr b).take (j + 1), o ∉ out := fun n x hx => by
        rw [take_snoc ho] at hx
        rcases List.mem_append.mp hx with hx | hx
        · exact g4 x hx
        · rw [List.mem_singleton.mp hx]; exact n
      refine ⟨_, rfl, _, rfl, o, out, nats_l (s3 _ _ hu), _, rfl, ite2 (fun c => ?_) fun c => ?_⟩
      · have := stuck_in (tk := tk) hbo hon (of_decide_eq_true c)
        rw [this] at q
        exact q _ s3
      have no : o ∉ out := fun z => c (decide_eq_true z)
      refine ⟨_, rfl, _, rfl, o, tk, nats_l (s3 _ _ ht), _, rfl, ite2 (fun c => ?_) fun c => ?_⟩
      · have nt : o ∉ tk := by simpa using c
        rw [if_neg nt] at tko
        obtain ⟨kvs, e1, e2, e3⟩ := g1.len
        have ln : kvs.length < sizeLine := by rw [e2, sizeLine_eq]; have := g3.len; omega
        refine ⟨_, rfl, _, rfl, nd, _, rfl, DPut.k (k := Sum.inl (o : Int)) e1 ln, put1 s3, _, rfl, ?_, g2.other (Ne.symm fn), ?_, g4' no⟩
        · rw [tko]; exact KeysD.put (H := H) e3
        · rw [tko]; exact g3.ins (hkey b o hon)
      · have nt : o ∈ tk := by simpa using c
        rw [if_pos nt] at tko
        exact ⟨s3, _, rfl, by rw [tko]; exact g1, g2, by rw [tko]; exact g3, g4' no⟩
    · obtain ⟨s3, y0, rfl, g1, g2, g3, g4⟩ := h
      rw [nats_length, List.take_length] at g1 g3 g4
      refine ⟨s3, _, _, rfl, by rw [stp]; exact g1, g2, by rw [stp]; exact g3, fun b' hb' o ho => ?_⟩
      rw [take_snoc hb] at hb'
      rcases List.mem_append.mp hb' with hb' | hb'
      · exact h4 b' hb' o ho
      · rw [List.mem_singleton.mp hb'] at ho; exact g4 o ho
  obtain ⟨s1, x0, y0, rfl, h1, h2, h3, h4⟩ := h
  rw [nats_length, List.take_length] at h1 h3 h4
  rw [stuck_out h4] at q
  obtain ⟨kvs, e1, e2, e3⟩ := h1.len
  refine ⟨nd, _, e1, True.intro, fun od => ⟨_, rfl, nd, od, rfl, .inl ⟨kvs, upd_same, ?_⟩⟩⟩
  generalize hneed : needOf (nbOf nr) tk out = need at *
  have kat : ∀ {i : Nat} {k : Key} {v : V}, kvs[i]? = some (k, v) → ∃ b, need[i]? = some b ∧ k = Sum.inl (b : Int) := fun {i k v} h => by
    have : (kvs.map (·.1))[i]? = some k := by rw [List.getElem?_map, h]; rfl
    rw [e3, List.getElem?_map] at this
    obtain ⟨b, hb, e⟩ := Option.map_eq_some_iff.mp this
    exact ⟨b, hb, e.symm⟩
  refine for_it (walk_keys (kvs := kvs)) (fun i σ H1 => Same H H1 ∧ H1 nd = some (.frz od (.dK kvs)) ∧ ∃ x y, σ = [some (.ref a), some (.ref t), some (.ref u), some (.ref nd), some (.ref fr), x, y] ∧ KeysD H1 fr (freeOf (nbOf nr) tk out (need.take i)) ∧ Good (keysN nr) (freeOf (nbOf nr) tk out (need.take i)))
    ⟨put1 s1, upd_same, _, _, rfl, h2.other (Ne.symm fn), Good.nil⟩ (fun i σ H1 _ h => h.2.1) (fun i x σ H1 H2 hi h y => ?_) fun σ H1 h => ?_
  · obtain ⟨s2, hf, x1, y1, rfl, g1, g2⟩ := h
    obtain ⟨rfl, k, v, hk, rfl⟩ := y
    obtain ⟨b, hb, rfl⟩ := kat hk
    have hbk := h3.sub b (List.mem_of_getElem? hb)
    obtain ⟨l, hl0, hgg⟩ := sea_get sea hbk
    have stp : freeOf (nbOf nr) tk out (need.take (i + 1)) = freeIn tk out (freeOf (nbOf nr) tk out (need.take i)) (nbOf nr b) := by
      rw [take_snoc hb]
      unfold freeOf freeIn
      rw [List.foldl_append]
      rfl
    refine ⟨_, rfl, _, (sea.mono s2).fnear T, _, rfl, d, _, rfl, hgg _ s2, l, rfl, ⟨_, SqL.of (s2 _ _ hl0)⟩, ?_⟩
    refine for_it (walk_list (xs := nats (nbOf nr b))) (fun j σ H1 => Same H H1 ∧ H1 nd = some (.frz od (.dK kvs)) ∧ ∃ y, σ = [some (.ref a), some (.ref t), some (.ref u), some (.ref nd), some (.ref fr), some (.int (b : Nat)), y] ∧ KeysD H1 fr (freeIn tk out (freeOf (nbOf nr) tk out (need.take i)) ((nbOf nr b).take j)) ∧ Good (keysN nr) (freeIn tk out (freeOf (nbOf nr) tk out (need.take i)) ((nbOf nr b).take j)))
      ⟨s2, hf, _, rfl, g1, g2⟩ (fun j σ H1 _ h => sql h.1 (SqL.of hl0)) (fun j x σ H3 H4 hj h y => ?_) fun σ H3 h => ?_
    · obtain ⟨s3, hf3, y0, rfl, g3, g4⟩ := h
      obtain ⟨rfl, hx⟩ := y
      unfold nats at hx
      rw [List.getElem?_map] at hx
      obtain ⟨o, ho, rfl⟩ := Option.map_eq_some_iff.mp hx
      have hon : o ∈ nbOf nr b := List.mem_of_getElem? ho
      have tko : freeIn tk out (freeOf (nbOf nr) tk out (need.take i)) ((nbOf nr b).take (j + 1)) = if o ∉ tk ∧ o ∉ out then ins (freeIn tk out (freeOf (nbOf nr) tk out (need.take i)) ((nbOf nr b).take j)) o else freeIn tk out (freeOf (nbOf nr) tk out (need.take i)) ((nbOf nr b).take j) := by
        rw [take_snoc ho]
        unfold freeIn
        rw [List.foldl_append]
        rfl
      refine ⟨_, rfl, _, rfl, o, tk, nats_l (s3 _ _ ht), _, rfl, ite2 (fun c => ?_) fun c => ?_⟩
      · have nt : o ∉ tk := by simpa using c
        refine ⟨_, rfl, _, rfl, o, out, nats_l (s3 _ _ hu), _, rfl, ite2 (fun c => ?_) fun c => ?_⟩
        · have no : o ∉ out := by simpa using c
          rw [if_pos ⟨nt, no⟩] at tko
          obtain ⟨kv2, e4, e5, e6⟩ := g3.len
          have ln : kv2.length < sizeLine := by rw [e5, sizeLine_eq]; have := g4.len; omega
          refine ⟨_, rfl, _, rfl, fr, _, rfl, DPut.k (k := Sum.inl (o : Int)) e4 ln, put2 s3, by rw [upd_ne fn]; exact hf3, _, rfl, ?_, ?_⟩
          · rw [tko]; exact KeysD.put (H := H) e6
          · rw [tko]; exact g4.ins (hkey b o hon)
        · have no : o ∈ out := by simpa using c
          rw [if_neg (fun z => z.2 no)] at tko
          exact ⟨s3, hf3, _, rfl, by rw [tko]; exact g3, by rw [tko]; exact g4⟩
      · have nt : o ∈ tk := by simpa using c
        rw [if_neg (fun z => z.1 nt)] at tko
        exact iteF' rfl ⟨s3, hf3, _, rfl, by rw [tko]; exact g3, by rw [tko]; exact g4⟩
    · obtain ⟨s3, hf3, y0, rfl, g3, g4⟩ := h
      rw [nats_length, List.take_length] at g3 g4
      exact ⟨s3, hf3, _, _, rfl, by rw [stp]; exact g3, by rw [stp]; exact g4⟩
  · obtain ⟨s2, hf, x1, y1, rfl, g1, g2⟩ := h
    rw [show kvs.length = need.length from e2, List.take_length] at g1 g2
    obtain ⟨kv2, e4, e5, e6⟩ := g1.len
    refine ⟨hf, _, rfl, nd, kvs, rfl, upd_same, _, rfl, fr, kv2, rfl, by rw [upd_ne (Ne.symm fn)]; exact e4, _, _, rfl, rfl, ?_⟩
    show Q (.bl (decide ((kvs.length : Int) > (kv2.length : Int)))) _
    rw [show decide ((kvs.length : Int) > (kv2.length : Int)) = decide ((freeOf (nbOf nr) tk out need).length < need.length) by
      rw [Bool.eq_iff_iff, decide_eq_true_eq, decide_eq_true_eq, e2, e5]; omega]
    exact q _ (put1 s2)
end
end Ug

/-! pairs.py: the search itself -/
namespace Ug
open PySem PySem.Spec PyProof.Rows L2
/-- the heap without what stands at F -/
def wo (H : Hp) (F : Addr) : Hp := fun a => if a = F then none else H a
theorem wo_at {H : Hp} {F p : Addr} {o : HO} (n : p ≠ F) (h : H p = some o) : wo H F p = some o := (if_neg n).trans h
theorem wo_of {H : Hp} {F p : Addr} {o : HO} (h : wo H F p = some o) : H p = some o ∧ p ≠ F := by
  unfold wo at h
  by_cases c : p = F
  · rw [if_pos c] at h; cases h
  · rw [if_neg c] at h; exact ⟨h, c⟩
theorem wo_sub (H : Hp) (F : Addr) : Same (wo H F) H := fun b o e => (wo_of e).1
theorem wo_same {H H' : Hp} {F : Addr} (s : Same H H') : Same (wo H F) (wo H' F) := fun b o e => wo_at (wo_of e).2 (s _ _ (wo_of e).1)
theorem wo_tk {H H' : Hp} {F : Addr} {xs : List V} (s : Same (wo H F) (wo H' F)) (h : H F = some (.lst xs)) : Tk H H' := fun b ys e =>
  (wo_of (s b _ (wo_at (fun z => by rw [z, h] at e; cases e) e))).1
theorem wo_upd {H : Hp} {F : Addr} {o : HO} : wo (upd H F o) F = wo H F := by
  funext b
  unfold wo
  by_cases c : b = F
  · rw [if_pos c, if_pos c]
  · rw [if_neg c, if_neg c, upd_ne c]
/-- a list, joined to another -/
theorem catL {X : Cx} : OpR X (binaryOp .Add) (fun x y H Q => ∃ a b xs ys, x = V.ref a ∧ y = V.ref b ∧ H a = some (.lst xs) ∧ H b = some (.lst ys) ∧ xs.length + ys.length ≤ 1000000 ∧ ∀ p H', H p = none → Same H H' → H' p = some (.lst (xs ++ ys)) → Q (.ref p) H') :=
  opImp op_cat fun x y H Q ⟨a, b, xs, ys, h1, h2, h3, h4, h5, q⟩ => ⟨a, b, xs, ys, h1, h2, h3, h4, room_le1 h5, fun p hp => q p _ hp (Same.new hp) upd_same⟩
theorem tLst_by {t : TA} {σ : L2.St} {H : Hp} {Q : VK} (h : t σ H fun xs H1 => xs.length ≤ 1000000 ∧ ∀ p H', H1 p = none → Same H1 H' → H' p = some (.lst xs) → Q (.ref p) H') (m : ∀ (Q Q' : List V → Hp → Prop), (∀ xs H1, Q xs H1 → Q' xs H1) → t σ H Q → t σ H Q') : tLst t σ H Q :=
  m _ _ (fun xs H1 ⟨l, q⟩ => ⟨room_le1 l, fun p hp => q p _ hp (Same.new hp) upd_same⟩) h
theorem nats_app (l m : List Nat) : nats l ++ nats m = nats (l ++ m) := by unfold nats; rw [List.map_append]
/-- what go is handed -/
structure GoIn (K : PySem.W.Frag) (H : Hp) (a t u c d lb F : Addr) (most n r : Nat) (nr : List (Nat × List Nat)) (bd : List Nat) (olds : List V) (tk out : List Nat) (ch : List (Nat × Nat)) : Prop where
  sea : SeaAt K (wo H F) a d lb F most nr bd
  found : H F = some (.lst olds)
  at_ : n + r = bd.length
  tk_ : wo H F t = some (.lst (nats tk))
  out_ : wo H F u = some (.lst (nats out))
  ch_ : RPrs (wo H F) (.ref c) ch
  small : bd.length ≤ 1000
  tkl : tk.length ≤ 2 * n
  outl : out.length ≤ n
  chl : ch.length ≤ n
  keys : ∀ b ∈ bd, b ∈ keysN nr
  outk : ∀ b ∈ out, b ∈ keysN nr
  nbk : ∀ b o, o ∈ nbOf nr b → o ∈ keysN nr
  k64 : (keysN nr).length < 64
  room : olds.length + (leaves (nbOf nr) (bd.drop n) tk out ch).length ≤ most
  most : most ≤ 100000
def spGo (K : PySem.W.Frag) (r : Nat) : Prm := fun vs H Q => ∃ (a t u c d lb F : Addr) (most n : Nat) (nr : List (Nat × List Nat)) (bd : List Nat) (olds : List V) (tk out : List Nat) (ch : List (Nat × Nat)),
  vs = [.ref a, .int (n : Nat), .ref t, .ref u, .ref c] ∧ GoIn K H a t u c d lb F most n r nr bd olds tk out ch ∧
  ∀ H' news, Same (wo H F) (wo H' F) → H' F = some (.lst (olds ++ news)) → Paired (RPg H') news (leaves (nbOf nr) (bd.drop n) tk out ch) → Q .non H'
theorem spGo_len {K : PySem.W.Frag} {r : Nat} (vs : List V) (H : Hp) (Q : VK) (h : spGo K r vs H Q) : vs.length = 5 := by
  obtain ⟨a, t, u, c, d, lb, F, most, n, nr, bd, olds, tk, out, ch, rfl, _⟩ := h; rfl
theorem sea_go {a b c d : V} : List.lookup ("go" : Str) ([("near", a), ("boards", b), ("most", c), ("found", d)] : List (Str × V)) = none := sea_meth (by decide +kernel) (by decide +kernel) (by decide +kernel) (by decide +kernel)
theorem sea_stuck {a b c d : V} : List.lookup ("is_stuck" : Str) ([("near", a), ("boards", b), ("most", c), ("found", d)] : List (Str × V)) = none := sea_meth (by decide +kernel) (by decide +kernel) (by decide +kernel) (by decide +kernel)
theorem flat_pre {α β : Type} (f : α → List β) (l : List α) (j : Nat) : ((l.take j).flatMap f).length ≤ (l.flatMap f).length := by
  have : l.flatMap f = (l.take j).flatMap f ++ (l.drop j).flatMap f := by rw [← List.flatMap_append, List.take_append_drop]
  rw [this, List.length_append]; omega
theorem paired_app {α β : Type} {R : α → β → Prop} : ∀ {l l' : List α} {m m' : List β}, Paired R l m → Paired R l' m' → Paired R (l ++ l') (m ++ m')
  | _, _, _, _, .nil, h => h
  | _, _, _, _, .cons r t, h => .cons r (paired_app t h)
section
variable {P : Program} {w : World} {K : PySem.W.Frag} {mg : Str → Option Value} {base : Heap}
abbrev n_Search_go : List Str := ["self", "at", "taken", "out", "chosen", "board", "other"]
theorem sc_Search_go : FnScope ["self", "at", "taken", "out", "chosen", "board", "other"] ["self", "at", "taken", "out", "chosen"] (defScope s_Search_go) := ⟨rfl, rfl, rfl, by decide +kernel, rfl, by decide +kernel, by decide +kernel⟩
theorem ok_Search_go0 (T : Tx K mg) : Mth P w K mg base 2 (He.ma K (He.ga K "Search") "go") ["self", "at", "taken", "out", "chosen"] (spGo K 0) :=
  Mth.mk T.f_Search_go sc_Search_go (fun _ _ _ _ _ _ us hl => match us, hl with | [_, _, _, _, _], _ => rfl) spGo_len fun cdv A outer s0 H vs Q E hr h => by
  obtain ⟨a, t, u, c, d, lb, F, most, n, nr, bd, olds, tk, out, ch, rfl, g, q⟩ := h
  refine ⟨_, (pss_cons (ps_if (pt_cmpR op_gt (pe_callB (lenA (K := K) rfl) (by rfl) T.b_len (by decide +kernel) (pa_cons (pe_fldA (K := K) rfl tm_var (pv 0) rfl) pa_nil)) (pe_fldA (K := K) rfl tm_var (pv 0) rfl) (nomark _))
    (pss_one ps_retN) pss_nil)
  (pss_cons (ps_if (pt_cmpR op_eq (pv 1) (pe_callB (lenA (K := K) rfl) (by rfl) T.b_len (by decide +kernel) (pa_cons (pe_fldA (K := K) rfl tm_var (pv 0) rfl) pa_nil)) (nomark _))
    (pss_cons (ps_expr (pe_bm PySem.F.plainAttrs_list PySem.F.slot_list_append PySem.F.type_list_append mt_append (pe_fldA (K := K) rfl tm_var (pv 0) rfl) (pa_cons (pe_callTy (tupA (K := K) rfl) (by rfl) T.b_tuple boot_tuple (pa_cons (pv 4) pa_nil)) pa_nil)))
    (pss_one ps_retN)) pss_nil)
  pss_never)), ?_⟩
  have sea := g.sea.mono (wo_sub H F)
  have hroom := g.room
  obtain ⟨c', cs, ec, hc, hcs⟩ := g.ch_.mono (wo_sub H F)
  cases ec
  have hn : n = bd.length := by have := g.at_; omega
  refine ⟨_, rfl, _, sea.ffound T, _, len_l g.found, _, rfl, _, sea.fmost T, _, _, rfl, rfl, _, rfl, iteCN (by omega) ?_⟩
  refine ⟨_, rfl, _, rfl, _, sea.fboards T, _, len_l sea.bds, rfl, _, rfl, iteC (by rw [nats_length, hn]) ?_⟩
  refine ⟨_, rfl, _, sea.ffound T, .inl ⟨rfl, _, SqL.of g.found⟩, _, rfl, c, cs, rfl, .inl ⟨SqL.of hc, fun l nl => ?_⟩⟩
  have s1 : Same H (upd H l (.tup cs)) := Same.new nl
  have lF : l ≠ F := fun z => by rw [z, g.found] at nl; cases nl
  refine ⟨F, olds, _, rfl, rfl, s1 _ _ g.found, by have := g.most; rw [sizeLine_eq]; omega, q _ [.ref l] ?_ upd_same ?_⟩
  · rw [wo_upd]; exact wo_same s1
  · have e : bd.drop n = [] := by rw [hn, List.drop_length]
    rw [e]
    have k : Tk (upd H l (.tup cs)) (upd (upd H l (.tup cs)) F (.lst (olds ++ [.ref l]))) := Tk.upd (s1 _ _ g.found) fun xs => by intro z; cases z
    exact .cons ⟨cs, Tp.mono ⟨l, rfl, upd_same⟩ k, pimp (fun _ _ => RPr.mono ((Same.tk s1).trans k)) hcs⟩ .nil
theorem ok_Search_go (T : Tx K mg) : ∀ r : Nat, Mth P w K mg base (r + 2) (He.ma K (He.ga K "Search") "go") ["self", "at", "taken", "out", "chosen"] (spGo K r)
  | 0 => ok_Search_go0 T
  | r + 1 => by
    have D_go : Mth P w K mg base (r + 2) (He.ma K (He.ga K "Search") "go") ["self", "at", "taken", "out", "chosen"] (spGo K r) := ok_Search_go T r
    refine Mth.mk T.f_Search_go sc_Search_go (fun _ _ _ _ _ _ us hl => match us, hl with | [_, _, _, _, _], _ => rfl) spGo_len fun cdv A outer s0 H vs Q E hr h => ?_
    obtain ⟨a, t, u, c, d, lb, F, most, n, nr, bd, olds, tk, out, ch, rfl, g, q⟩ := h
    refine ⟨_, (pss_cons (ps_if (pt_cmpR op_gt (pe_callB (lenA (K := K) rfl) (by rfl) T.b_len (by decide +kernel) (pa_cons (pe_fldA (K := K) rfl tm_var (pv 0) rfl) pa_nil)) (pe_fldA (K := K) rfl tm_var (pv 0) rfl) (nomark _))
    (pss_one ps_retN) pss_nil)
  (pss_cons (ps_if (pt_cmpR op_eq (pv 1) (pe_callB (lenA (K := K) rfl) (by rfl) T.b_len (by decide +kernel) (pa_cons (pe_fldA (K := K) rfl tm_var (pv 0) rfl) pa_nil)) (nomark _))
    (pss_cons (ps_expr (pe_bm PySem.F.plainAttrs_list PySem.F.slot_list_append PySem.F.type_list_append mt_append (pe_fldA (K := K) rfl tm_var (pv 0) rfl) (pa_cons (pe_callTy (tupA (K := K) rfl) (by rfl) T.b_tuple boot_tuple (pa_cons (pv 4) pa_nil)) pa_nil)))
    (pss_one ps_retN)) pss_nil)
  (pss_cons (ps_set (i := 5) sc_Search_go.nd rfl (Or.inl rfl) (pe_ix (ixLA (K := K) rfl) (pe_fldA (K := K) rfl tm_var (pv 0) rfl) (pv 1) (fun _ _ => rfl)))
  (pss_cons (ps_if (pt_cmpR (inA (K := K) rfl) (pv 5) (pv 2) rfl)
    (pss_cons (ps_expr (pe_m D_go T.cl_Search T.me_Search_go hr (pv 0) (pa_cons (pe_op op_add (pv 1) pe_int) (pa_cons (pv 2) (pa_cons (pv 3) (pa_cons (pv 4) pa_nil))))))
    (pss_one ps_retN)) pss_nil)
  (pss_cons (ps_for PassesOwn.never rfl (pi_list (pe_dget (hu_of hr) (pe_fldA (K := K) rfl tm_var (pv 0) rfl) (pv 5) (fun _ _ => rfl))) (pg_name (i := 6) sc_Search_go.nd rfl (Or.inl rfl))
    (pss_one (ps_if (PW.pt (pw_and (pt_cmpR op_gt (pv 6) (pv 5) (nomark _)) (pw_and (pt_cmpR (notInA (K := K) rfl) (pv 6) (pv 2) rfl) (pw_and1 (pt_cmpR (notInA (K := K) rfl) (pv 6) (pv 3) rfl)))))
      (pss_one (ps_expr (pe_m D_go T.cl_Search T.me_Search_go hr (pv 0) (pa_cons (pe_op op_add (pv 1) pe_int) (pa_cons (pe_op catL (pv 2) (pe_lst (pa_cons (pv 5) (pa_cons (pv 6) pa_nil)))) (pa_cons (pv 3) (pa_cons (pe_op catL (pv 4) (pe_lst (pa_cons (pe_tup (pa_cons (pv 5) (pa_cons (pv 6) pa_nil))) pa_nil))) pa_nil))))))) pss_nil)))
  (pss_one (ps_if (pt_not (pt_val (pe_m ((ok_Search_is_stuck T).mono (by omega)) T.cl_Search T.me_Search_is_stuck hr (pv 0) (pa_cons (pv 2) (pa_cons (pe_op catL (pv 3) (pe_lst (pa_cons (pv 5) pa_nil))) pa_nil)))))
    (pss_one (ps_expr (pe_m D_go T.cl_Search T.me_Search_go hr (pv 0) (pa_cons (pe_op op_add (pv 1) pe_int) (pa_cons (pv 2) (pa_cons (pe_op catL (pv 3) (pe_lst (pa_cons (pv 5) pa_nil))) (pa_cons (pv 4) pa_nil))))))) pss_nil))))))), ?_⟩
    have hroom := g.room
    have hmost := g.most
    have hsm := g.small
    have hn : n < bd.length := by have := g.at_; omega
    obtain ⟨b, hb⟩ : ∃ b, bd[n]? = some b := ⟨_, List.getElem?_eq_getElem hn⟩
    have hdrop : bd.drop n = b :: bd.drop (n + 1) := by
      rw [List.drop_eq_getElem_cons hn, (List.getElem?_eq_some_iff.mp hb).2]
    have hbk : b ∈ keysN nr := g.keys b (List.mem_of_getElem? hb)
    -- what every turn knows
    have know : ∀ {H1 : Hp}, Same (wo H F) (wo H1 F) → SeaAt K H1 a d lb F most nr bd ∧ H1 t = some (.lst (nats tk)) ∧ H1 u = some (.lst (nats out)) ∧ RPrs H1 (.ref c) ch := fun {H1} s =>
      have s' := s.trans (wo_sub H1 F)
      ⟨g.sea.mono s', s' _ _ g.tk_, s' _ _ g.out_, g.ch_.mono s'⟩
    rw [hdrop] at hroom q
    obtain ⟨sea, ht, hu, hc⟩ := know (Same.refl _)
    refine ⟨_, rfl, _, sea.ffound T, _, len_l g.found, _, rfl, _, sea.fmost T, _, _, rfl, rfl, _, rfl, iteCN (by omega) ?_⟩
    refine ⟨_, rfl, _, rfl, _, sea.fboards T, _, len_l sea.bds, rfl, _, rfl, iteCN (by rw [nats_length]; intro z; injection z with z; omega) ?_⟩
    have hbn : (nats bd)[n]? = some (V.int (b : Nat)) := by unfold nats; rw [List.getElem?_map, hb]; rfl
    refine ⟨_, rfl, _, sea.fboards T, _, rfl, _, ix_l sea.bds hbn, ?_⟩
    refine ⟨_, rfl, _, rfl, b, tk, nats_l ht, _, rfl, ite2 (fun cc => ?_) fun cc => ?_⟩
    · have hbt : b ∈ tk := of_decide_eq_true cc
      have eL : leaves (nbOf nr) (b :: bd.drop (n + 1)) tk out ch = leaves (nbOf nr) (bd.drop (n + 1)) tk out ch := by
        rw [leaves]; exact if_pos hbt
      rw [eL] at hroom q
      obtain ⟨dx, ho⟩ := sea.obj
      refine ⟨_, rfl, a, dx, _, rfl, ho, sea_go, _, rfl, _, _, rfl, rfl, _, rfl, _, rfl, _, rfl, a, t, u, c, d, lb, F, most, n + 1, nr, bd, olds, tk, out, ch, rfl, { g with at_ := by have := g.at_; omega, tkl := by have := g.tkl; omega, outl := by have := g.outl; omega, chl := by have := g.chl; omega, room := hroom }, q⟩
    have hbt : b ∉ tk := fun z => cc (decide_eq_true z)
    have eL : leaves (nbOf nr) (b :: bd.drop (n + 1)) tk out ch = ((opens (nbOf nr) tk out b).flatMap fun o => leaves (nbOf nr) (bd.drop (n + 1)) (tk ++ [b, o]) out (ch ++ [(b, o)])) ++ (if stuck (nbOf nr) tk (out ++ [b]) = true then [] else leaves (nbOf nr) (bd.drop (n + 1)) tk (out ++ [b]) ch) := by
      rw [leaves]; exact if_neg hbt
    rw [eL] at hroom q
    rw [List.length_append] at hroom
    obtain ⟨l, hl0, hgg⟩ := sea_get g.sea hbk
    have hgg : ∀ H', Same (wo H F) (wo H' F) → DGet H' d (.int (b : Nat)) (some (.ref l)) := fun H' s => hgg H' (s.trans (wo_sub H' F))
    let fo : Nat → Bool := fun o => decide (b < o ∧ o ∉ tk ∧ o ∉ out)
    let sub : Nat → List (List (Nat × Nat)) := fun o => leaves (nbOf nr) (bd.drop (n + 1)) (tk ++ [b, o]) out (ch ++ [(b, o)])
    have eo : opens (nbOf nr) tk out b = (nbOf nr b).filter fo := rfl
    have hroom : olds.length + (((opens (nbOf nr) tk out b).flatMap sub).length + (if stuck (nbOf nr) tk (out ++ [b]) = true then [] else leaves (nbOf nr) (bd.drop (n + 1)) tk (out ++ [b]) ch).length) ≤ most := hroom
    have upto : ∀ j, ((((nbOf nr b).take j).filter fo).flatMap sub).length ≤ ((opens (nbOf nr) tk out b).flatMap sub).length := fun j => by
      rw [eo]
      have : (nbOf nr b).filter fo = ((nbOf nr b).take j).filter fo ++ ((nbOf nr b).drop j).filter fo := by rw [← List.filter_append, List.take_append_drop]
      rw [this, List.flatMap_append, List.length_append]; omega
    refine ⟨_, rfl, _, sea.fnear T, _, rfl, d, _, rfl, hgg H (Same.refl _), l, rfl, ⟨_, SqL.of (wo_sub H F _ _ hl0)⟩, ?_⟩
    refine for_it (walk_list (xs := nats (nbOf nr b))) (fun j σ H1 => Same (wo H F) (wo H1 F) ∧ ∃ y news, σ = [some (.ref a), some (.int (n : Nat)), some (.ref t), some (.ref u), some (.ref c), some (.int (b : Nat)), y] ∧ H1 F = some (.lst (olds ++ news)) ∧ Paired (RPg H1) news ((((nbOf nr b).take j).filter fo).flatMap sub))
      ⟨Same.refl _, none, [], rfl, by rw [List.append_nil]; exact g.found, .nil⟩ (fun j σ H1 _ h => SqL.of ((h.1.trans (wo_sub H1 F)) _ _ hl0)) (fun j x σ H1 H2 hj h y => ?_) fun σ H1 h => ?_
    · obtain ⟨s1, y0, news, rfl, hF, hN⟩ := h
      obtain ⟨rfl, hx⟩ := y
      unfold nats at hx
      rw [List.getElem?_map] at hx
      obtain ⟨o, ho, rfl⟩ := Option.map_eq_some_iff.mp hx
      have hon : o ∈ nbOf nr b := List.mem_of_getElem? ho
      obtain ⟨sea1, ht1, hu1, hc1⟩ := know s1
      have skip : fo o = false → Same (wo H F) (wo H2 F) ∧ ∃ y news, ([some (.ref a), some (.int (n : Nat)), some (.ref t), some (.ref u), some (.ref c), some (.int (b : Nat)), some (.int (o : Nat))] : L2.St) = [some (.ref a), some (.int (n : Nat)), some (.ref t), some (.ref u), some (.ref c), some (.int (b : Nat)), y] ∧ H2 F = some (.lst (olds ++ news)) ∧ Paired (RPg H2) news ((((nbOf nr b).take (j + 1)).filter fo).flatMap sub) := fun hf => by
        refine ⟨s1, _, news, rfl, hF, ?_⟩
        rw [take_snoc ho, List.filter_append, List.filter_cons_of_neg (by rw [hf]; exact Bool.false_ne_true), List.filter_nil, List.append_nil]
        exact hN
      refine ⟨_, rfl, _, rfl, _, _, rfl, rfl, _, rfl, ite2 (fun c1 => ?_) fun c1 => ?_⟩
      · have c1 : b < o := by have := of_decide_eq_true c1; omega
        refine ⟨_, rfl, _, rfl, o, tk, nats_l ht1, _, rfl, ite2 (fun c2 => ?_) fun c2 => ?_⟩
        · have c2 : o ∉ tk := by simpa using c2
          refine ⟨_, rfl, _, rfl, o, out, nats_l hu1, _, rfl, ite2 (fun c3 => ?_) fun c3 => ?_⟩
          · have c3 : o ∉ out := by simpa using c3
            have hf : fo o = true := decide_eq_true ⟨c1, c2, c3⟩
            have tj : (((nbOf nr b).take (j + 1)).filter fo).flatMap sub = (((nbOf nr b).take j).filter fo).flatMap sub ++ sub o := by
              rw [take_snoc ho, List.filter_append, List.filter_cons_of_pos hf, List.filter_nil, List.flatMap_append]
              simp
            have lt := upto (j + 1)
            rw [tj, List.length_append, ← hN.length] at lt
            obtain ⟨dx, hobj⟩ := sea1.obj
            obtain ⟨c', cs, ec, hcl, hcs⟩ := hc1
            cases ec
            refine ⟨_, rfl, a, dx, _, rfl, hobj, sea_go, _, rfl, _, _, rfl, rfl, _, rfl, ?_⟩
            refine tLst_by ⟨_, rfl, _, rfl, by simp, fun p1 H3 n1 s3 e3 => ?_⟩ (fun Q Q' i ⟨v1, a1, v2, a2, a3⟩ => ⟨v1, a1, v2, a2, i _ _ a3⟩)
            refine ⟨t, p1, _, _, rfl, rfl, s3 _ _ ht1, e3, by rw [nats_length]; have := g.tkl; simp; omega, fun p2 H4 n2 s4 e4 => ?_⟩
            refine ⟨_, rfl, _, rfl, ?_⟩
            refine tLst_by (show ∃ v, _ ∧ _ from ⟨_, rfl, _, rfl, two_le, new_by fun p3 H5 n3 s5 e5 => ⟨by simp, fun p4 H6 n4 s6 e6 => ?_⟩⟩) (fun Q Q' i ⟨v1, a1, v2, a2, a3, a4⟩ => ⟨v1, a1, v2, a2, a3, fun p hp => i _ _ (a4 p hp)⟩)
            have s46 := s4.trans (s5.trans s6)
            have s36 := s3.trans s46
            refine ⟨c, p4, cs, _, rfl, rfl, s36 _ _ hcl, e6, by rw [hcs.length]; have := g.chl; simp; omega, fun p5 H7 n5 s7 e7 => ?_⟩
            have s37 := s36.trans s7
            have F4 : H2 F = some (.lst (olds ++ news)) := hF
            have neF : ∀ {p : Addr} {H0 : Hp}, H0 p = none → Same H2 H0 → p ≠ F := fun np s z => by have := s _ _ F4; rw [← z, np] at this; cases this
            have w7 : Same (wo H F) (wo H7 F) := s1.trans (wo_same s37)
            refine ⟨a, p2, u, p5, d, lb, F, most, n + 1, nr, bd, olds ++ news, tk ++ [b, o], out, ch ++ [(b, o)], rfl, ⟨g.sea.mono w7, s37 _ _ hF, by have := g.at_; omega, ?_, w7 _ _ g.out_, ?_, g.small, ?_, by have := g.outl; omega, ?_, g.keys, g.outk, g.nbk, g.k64, ?_, g.most⟩, fun H8 news8 w8 f8 r8 => ?_⟩
            · refine wo_at (neF n2 s3) ?_
              rw [← nats_app]
              exact (s5.trans (s6.trans s7)) _ _ e4
            · refine ⟨p5, _, rfl, wo_at (neF n5 s36) e7, ?_⟩
              have : Paired (RPr (wo H7 F)) cs ch := by
                obtain ⟨c'', cs', ec, hcl', hcs'⟩ := g.ch_.mono w7
                cases ec
                have := (s37 _ _ hcl)
                rw [(wo_of hcl').1] at this
                cases this
                exact hcs'
              exact this.snoc ⟨p3, rfl, wo_at (neF n3 (s3.trans s4)) (s7 _ _ (s6 _ _ e5))⟩
            · rw [List.length_append]; have := g.tkl; simp; omega
            · rw [List.length_append]; have := g.chl; simp; omega
            · rw [List.length_append]
              show olds.length + news.length + (sub o).length ≤ most
              omega
            · refine ⟨w7.trans w8, _, news ++ news8, rfl, by rw [f8, List.append_assoc], ?_⟩
              rw [tj]
              exact paired_app (pimp (fun _ _ => RPg.mono ((Same.tk s37).trans (wo_tk w8 (s37 _ _ hF)))) hN) r8
          · exact skip (decide_eq_false fun z => by simp [z.2.2] at c3)
        · exact skip (decide_eq_false fun z => by simp [z.2.1] at c2)
      · exact skip (decide_eq_false fun z => c1 (decide_eq_true (by omega)))
    · obtain ⟨s1, y0, news, rfl, hF, hN⟩ := h
      rw [nats_length, List.take_length, ← eo] at hN
      obtain ⟨sea1, ht1, hu1, hc1⟩ := know s1
      obtain ⟨dx, hobj⟩ := sea1.obj
      refine ⟨_, rfl, a, dx, _, rfl, hobj, sea_stuck, _, rfl, _, rfl, ?_⟩
      refine tLst_by ⟨_, rfl, by simp, fun p1 H3 n1 s3 e3 => ?_⟩ (fun Q Q' i ⟨v1, a1, a3⟩ => ⟨v1, a1, i _ _ a3⟩)
      refine ⟨u, p1, _, _, rfl, rfl, s3 _ _ hu1, e3, by rw [nats_length]; have := g.outl; simp; omega, fun p2 H4 n2 s4 e4 => ?_⟩
      have s34 := s3.trans s4
      have e4' : H4 p2 = some (.lst (nats (out ++ [b]))) := by rw [← nats_app]; exact e4
      have outk' : ∀ x ∈ out ++ [b], x ∈ keysN nr := fun x hx => (List.mem_append.mp hx).elim (g.outk x) fun z => by rw [List.mem_singleton.mp z]; exact hbk
      refine ⟨a, t, p2, d, lb, F, most, nr, bd, tk, out ++ [b], rfl, sea1.mono s34, s34 _ _ ht1, e4', outk', g.nbk, g.k64, fun H5 s5 => ⟨_, rfl, ite2 (fun c1 => ?_) fun c1 => ?_⟩⟩
      · have hs : stuck (nbOf nr) tk (out ++ [b]) = false := by simpa using c1
        rw [hs, if_neg Bool.false_ne_true] at q hroom
        have s35 := s34.trans s5
        obtain ⟨sea5, ht5, hu5, hc5⟩ := know (s1.trans (wo_same s35))
        obtain ⟨dx5, hobj5⟩ := sea5.obj
        refine ⟨_, rfl, a, dx5, _, rfl, hobj5, sea_go, _, rfl, _, _, rfl, rfl, _, rfl, _, rfl, ?_⟩
        refine tLst_by ⟨_, rfl, by simp, fun p6 H6 n6 s6 e6 => ?_⟩ (fun Q Q' i ⟨v1, a1, a3⟩ => ⟨v1, a1, i _ _ a3⟩)
        refine ⟨u, p6, _, _, rfl, rfl, s6 _ _ hu5, e6, by rw [nats_length]; have := g.outl; simp; omega, fun p7 H7 n7 s7 e7 => ?_⟩
        have s37 := s35.trans (s6.trans s7)
        have w7 : Same (wo H F) (wo H7 F) := s1.trans (wo_same s37)
        have p7F : p7 ≠ F := fun z => by have := (s35.trans s6) _ _ hF; rw [← z, n7] at this; cases this
        refine ⟨_, rfl, a, t, p7, c, d, lb, F, most, n + 1, nr, bd, olds ++ news, tk, out ++ [b], ch, rfl, ⟨g.sea.mono w7, s37 _ _ hF, by have := g.at_; omega, w7 _ _ g.tk_, wo_at p7F (by rw [← nats_app]; exact e7), g.ch_.mono w7, g.small, by have := g.tkl; omega, by rw [List.length_append]; have := g.outl; simp; omega, by have := g.chl; omega, g.keys, outk', g.nbk, g.k64, ?_, g.most⟩, fun H8 news8 w8 f8 r8 => ?_⟩
        · rw [List.length_append, hN.length]; omega
        · refine q H8 (news ++ news8) (w7.trans w8) (by rw [f8, List.append_assoc]) ?_
          exact paired_app (pimp (fun _ _ => RPg.mono ((Same.tk s37).trans (wo_tk w8 (s37 _ _ hF)))) hN) r8
      · have hs : stuck (nbOf nr) tk (out ++ [b]) = true := by simpa using c1
        rw [hs, if_pos rfl, List.append_nil] at q
        have s35 := s34.trans s5
        exact q H5 news (s1.trans (wo_same s35)) (s35 _ _ hF) (pimp (fun _ _ => RPg.mono (Same.tk s35)) hN)
end
end Ug

/-! comprehensions of two for; the empty pairing -/
namespace Ug
open PySem PySem.Spec PyProof.Rows L2
section
variable {K : PySem.W.Frag}
theorem lc2_all {α β : Type} {J : It} {n : Nat} {GH : Hp → Prop} {Y : Nat → Hp → V → Hp → Prop} (w : Walk J n GH Y) {wi1 : TI} {g g1 : TG} {te : TE} {vs vs1 : List Nat} {σ : L2.St} {H1 : Hp} {D : Addr} (hD : H1 D = none) {Qd : Hp → Prop}
    (As : List α) (hl : As.length = n) (B : α → List β) (R : Hp → V → β → Prop) (mono : ∀ H H' b y, Tk H H' → R H y b → R H' y b) (gm : GMono g) (gm1 : GMono g1) (hsm : (As.flatMap B).length ≤ 1000000)
    (hG : ∀ H, Same H1 H → GH H)
    (hs : ∀ i x H H' a, As[i]? = some a → Same H1 H → Y i H x H' → g x (wipe σ vs) H' fun σ2 H2 => wipe σ2 vs = wipe σ vs ∧ ∀ Rk : It → Hp → Prop,
      (∀ (J1 : It) (G1 : Hp → Prop) (Y1 : Nat → Hp → V → Hp → Prop) H4, Same H H4 → Walk J1 (B a).length G1 Y1 → (∀ H5, Same H1 H5 → Tk H4 H5 → G1 H5) →
        (∀ j b x H5 H6, (B a)[j]? = some b → Same H1 H5 → Tk H4 H5 → Y1 j H5 x H6 → g1 x (wipe σ2 vs1) H6 fun σ3 H8 => wipe σ3 vs1 = wipe σ2 vs1 ∧ ∀ Qc : VK, (∀ y H7, Same H5 H7 → R H7 y b → Qc y H7) → te σ3 H8 Qc) → Rk J1 H4) → wi1 σ2 H2 Rk)
    (hd : ∀ H ys, Same H1 H → H D = some (.lst ys) → Paired (R H) ys (As.flatMap B) → Qd H) :
    ∃ W : Nat → Nat → Hp → Prop, (∃ m, W 0 m (upd H1 D (.lst []))) ∧ ∀ i m H, W i m H →
      (J.stop i H ∧ Qd H) ∨ (J.go i H ∧ ∃ Nx : Hp → Prop, (∀ H', Nx H' → ∃ m', m' < m ∧ W (i + 1) m' H') ∧ ∀ x H', J.yld i H x H' → g x (wipe σ vs) H' fun σ2 H2 => wipe σ2 vs = wipe σ vs ∧ tYes σ2 H2 fun b H3 =>
        if b = true then wi1 σ2 H3 fun J1 H4 => ∃ W1 : Nat → Nat → Hp → Prop, (∃ m, W1 0 m H4) ∧ ∀ j k H, W1 j k H → (J1.stop j H ∧ Nx H) ∨ (J1.go j H ∧ ∃ Nx1 : Hp → Prop, (∀ H', Nx1 H' → ∃ k', k' < k ∧ W1 (j + 1) k' H') ∧
          ∀ x H', J1.yld j H x H' → g1 x (wipe σ2 vs1) H' fun σ3 H5 => wipe σ3 vs1 = wipe σ2 vs1 ∧ tYes σ3 H5 fun b H6 => if b = true then te σ3 H6 fun y H7 => ∃ acc, H7 D = some (.lst acc) ∧ acc.length < sizeLine ∧ Nx1 (upd H7 D (.lst (acc ++ [y]))) else Nx1 H6)
        else Nx H3) := by
  let Iv : Nat → Hp → Prop := fun i H => Same H1 H ∧ ∃ ys, H D = some (.lst ys) ∧ Paired (R H) ys ((As.take i).flatMap B)
  refine ⟨fun i m H => m = n - i ∧ i ≤ n ∧ Iv i H, ⟨n, rfl, Nat.zero_le n, Same.new hD, [], upd_same, by rw [List.take_zero]; exact .nil⟩, fun i m H p => ?_⟩
  obtain ⟨rfl, hi, s1, ys, hys, hR⟩ := p
  by_cases lt : i < n
  · refine .inr ⟨w.goes i H lt (hG H s1), fun H' => Iv (i + 1) H', fun H' q => ⟨n - (i + 1), by omega, rfl, lt, q⟩, fun x H' y => ?_⟩
    obtain ⟨a, ha⟩ : ∃ a, As[i]? = some a := ⟨_, List.getElem?_eq_getElem (by omega)⟩
    have tk : (As.take (i + 1)).flatMap B = (As.take i).flatMap B ++ B a := by
      rw [take_snoc ha, List.flatMap_append]; simp
    have pre : ((As.take i).flatMap B).length + (B a).length ≤ (As.flatMap B).length := by
      rw [← List.length_append, ← tk]
      exact flat_pre B As (i + 1)
    refine gm _ _ _ _ _ (fun σ2 H2 q => ?_) (hs i x H H' a ha s1 (w.yields i H x H' lt (hG H s1) y))
    obtain ⟨q1, q2⟩ := q
    refine ⟨q1, ?_⟩
    unfold tYes
    refine iteT (q2 _ fun J1 G1 Y1 H4 s4 w1 hG1 turn => ?_)
    let Iv1 : Nat → Hp → Prop := fun j H => Same H1 H ∧ Tk H4 H ∧ ∃ zs, H D = some (.lst zs) ∧ Paired (R H) zs ((As.take i).flatMap B ++ (B a).take j)
    have start : Iv1 0 H4 := ⟨fun b o e => s4 _ _ (s1 _ _ e), Tk.refl _, ys, s4 _ _ hys, by rw [List.take_zero, List.append_nil]; exact pimp (fun _ _ => mono _ _ _ _ (Same.tk s4)) hR⟩
    refine ⟨fun j k H => k = (B a).length - j ∧ j ≤ (B a).length ∧ Iv1 j H, ⟨_, rfl, Nat.zero_le _, start⟩, fun j k H5 p => ?_⟩
    obtain ⟨rfl, hj, s5, t5, zs, hzs, hZ⟩ := p
    by_cases lt1 : j < (B a).length
    · refine .inr ⟨w1.goes j H5 lt1 (hG1 H5 s5 t5), fun H' => Iv1 (j + 1) H', fun H' q => ⟨(B a).length - (j + 1), by omega, rfl, lt1, q⟩, fun x H6 y => ?_⟩
      obtain ⟨b, hb⟩ : ∃ b, (B a)[j]? = some b := ⟨_, List.getElem?_eq_getElem lt1⟩
      refine gm1 _ _ _ _ _ (fun σ3 H8 q => ?_) (turn j b x H5 H6 hb s5 t5 (w1.yields j H5 x H6 lt1 (hG1 H5 s5 t5) y))
      obtain ⟨q3, q4⟩ := q
      refine ⟨q3, iteT (q4 _ fun z H7 s7 r7 => ?_)⟩
      have e7 : H7 D = some (.lst zs) := s7 _ _ hzs
      have k7 : Tk H7 (upd H7 D (.lst (zs ++ [z]))) := Tk.upd e7 (fun xs => by intro q; cases q)
      have zl : zs.length ≤ 1000000 := by
        rw [hZ.length, List.length_append, List.length_take]; omega
      refine ⟨zs, e7, by rw [sizeLine_eq]; omega, fun b o e => ?_, fun b xs e => k7 _ _ (Same.tk s7 _ _ (t5 _ _ e)), zs ++ [z], upd_same, ?_⟩
      · rw [upd_ne (fun q => by rw [q, hD] at e; cases e)]
        exact s7 _ _ (s5 _ _ e)
      · rw [take_snoc hb, ← List.append_assoc]
        exact (pimp (fun _ _ => mono _ _ _ _ ((Same.tk s7).trans k7)) hZ).snoc (mono _ _ _ _ k7 r7)
    · have ej : j = (B a).length := by omega
      subst ej
      refine .inl ⟨w1.stops H5 (hG1 H5 s5 t5), s5, zs, hzs, ?_⟩
      rw [List.take_length] at hZ
      rw [tk]; exact hZ
  · have ei : i = n := by omega
    subst ei
    refine .inl ⟨w.stops H (hG H s1), hd H ys s1 hys ?_⟩
    rw [List.take_of_length_le (by omega)] at hR
    exact hR
end
theorem nil_leaf {nb : Nat → List Nat} : ∀ (rem out : List Nat) (ch : List (Nat × Nat)), rem.Pairwise (· < ·) → [] ∈ leaves nb rem [] out ch → ch = [] ∧ (rem = [] ∨ stuck nb [] (out ++ rem) = false)
  | [], out, ch, _, h => by
    rw [leaves] at h
    exact ⟨(List.mem_singleton.mp h).symm, .inl rfl⟩
  | b :: rem, out, ch, hp, h => by
    rw [leaves, if_neg (by simp)] at h
    rcases List.mem_append.mp h with h | h
    · obtain ⟨o, _, ho⟩ := List.mem_flatMap.mp h
      obtain ⟨e, he, _⟩ := leaf_ext rem _ out _ (List.pairwise_cons.mp hp).2 _ ho
      simp at he
    · by_cases c : stuck nb [] (out ++ [b]) = true
      · rw [if_pos c] at h; cases h
      · rw [if_neg c] at h
        obtain ⟨h1, h2⟩ := nil_leaf rem (out ++ [b]) ch (List.pairwise_cons.mp hp).2 h
        refine ⟨h1, .inr ?_⟩
        rcases h2 with rfl | h2
        · exact Bool.eq_false_iff.mpr c
        · rw [List.append_assoc] at h2; exact h2
theorem own_nil {bs : List Brd} {nm : Str} (h : [] ∈ own bs nm) : own bs nm = [[]] := by
  have ok := ofName_near bs nm
  have := (nil_leaf (nb := nbOf (near (ofName bs nm))) _ [] [] (ascOf_asc _ _) h).2
  have key : ascOf bs.length (keysN (near (ofName bs nm))) = [] := by
    rcases this with e | e
    · exact e
    · rw [List.nil_append] at e
      cases hk : ascOf bs.length (keysN (near (ofName bs nm))) with
      | nil => rfl
      | cons b r =>
        exfalso
        have hb : b ∈ ascOf bs.length (keysN (near (ofName bs nm))) := by rw [hk]; exact List.mem_cons_self
        obtain ⟨q, hq, eq⟩ := mem_brds.mp ((ok.key b).mp (mem_ascOf.mp hb).2)
        have ex : ∃ o, o ∈ nbOf (near (ofName bs nm)) b := by
          rcases eq with rfl | rfl
          · exact ⟨q.2, (ok.mem _ _).mpr (.inl hq)⟩
          · exact ⟨q.1, (ok.mem _ _).mpr (.inr hq)⟩
        obtain ⟨o, ho⟩ := ex
        have := stuck_in (tk := []) hb ho (nb_key ho)
        rw [e] at this
        cases this
  unfold own
  rw [key]
  rfl
theorem prods_nil (bs : List Brd) : ∀ nms : List Str, [] ∈ prods bs nms → prods bs nms = [[]] := by
  refine rev_ind (fun _ => rfl) fun nms nm ih h => ?_
  rw [prods_snoc] at h ⊢
  obtain ⟨one, h1, h2⟩ := List.mem_flatMap.mp h
  obtain ⟨other, h3, h4⟩ := List.mem_map.mp h2
  obtain ⟨e1, e2⟩ := List.append_eq_nil_iff.mp h4
  subst e1 e2
  rw [ih h1, own_nil h3]
  rfl
theorem paired_right {α β : Type} {R : α → β → Prop} : ∀ {l : List α} {m : List β}, Paired R l m → ∀ a ∈ l, ∃ b ∈ m, R a b := forall2_left
/-- the sorted ones are all not empty, or it is the empty one alone -/
theorem sorted_nil {bs : List Brd} {nms : List Str} {M : List (List (Nat × Nat))} (h : Paired (fun p e => p.Perm e ∧ p.Pairwise (fun a b => a.1 ≤ b.1)) M (prods bs nms)) : (∀ p ∈ M, p ≠ []) ∨ M = [[]] := by
  by_cases c : [] ∈ prods bs nms
  · rw [prods_nil bs nms c] at h
    cases h with
    | cons r t =>
      cases t
      rw [List.perm_nil.mp r.1]
      exact .inr rfl
  · refine .inl fun p hp e => ?_
    obtain ⟨b, hb, r⟩ := paired_right h p hp
    rw [e] at r
    exact c ((List.nil_perm.mp r.1) ▸ hb)
end Ug

/-! pairs.py: greatest_of, greatest, pairings, outcomes -/
namespace Ug
open PySem PySem.Spec PyProof.Rows L2
theorem sortQA {X : Cx} {K : PySem.W.Frag} (hk : X.K = K) (hu : X.A.units + 3 < cLine) : CallR X (.builtin "sorted") (rSortQ K) := by
  subst hk
  exact cr_sortQ hu
/-- near while it is made -/
def NEnt (H0 H : Hp) (kv : Key × V) (e : Nat × List Nat) : Prop := kv.1 = .inl (e.1 : Int) ∧ ∃ l, kv.2 = .ref l ∧ H l = some (.lst (nats e.2)) ∧ H0 l = none
theorem NEnt.mono {H0 H H' : Hp} (k : Same H H') {kv : Key × V} {e : Nat × List Nat} (h : NEnt H0 H kv e) : NEnt H0 H' kv e := ⟨h.1, let ⟨l, h1, h2, h3⟩ := h.2; ⟨l, h1, k _ _ h2, h3⟩⟩
theorem nent_upd {H0 H : Hp} {i j : Nat} {v : V} : ∀ {kvs : List (Key × V)} {nr : List (Nat × List Nat)}, Paired (NEnt H0 H) kvs nr → (kvs.map (·.2)).Nodup → valV kvs (.inl (i : Int)) = some v →
    ∃ l js, v = .ref l ∧ H l = some (.lst (nats js)) ∧ H0 l = none ∧ v ∈ kvs.map (·.2) ∧ (∃ e ∈ nr, e.2 = js) ∧ Paired (NEnt H0 (upd H l (.lst (nats (js ++ [j]))))) kvs (addN nr i j)
  | _, _, .nil, _, h => by cases h
  | (k, u) :: kvs, (c, l0) :: nr, .cons r t, nd, h => by
    obtain ⟨e1, l, e2, e3, e4⟩ := r
    simp only at e1 e2 e3
    subst e1 e2
    rw [List.map_cons] at nd
    obtain ⟨n1, n2⟩ := List.nodup_cons.mp nd
    unfold valV at h
    unfold addN
    by_cases c1 : c = i
    · subst c1
      rw [List.find?_cons_of_pos (by simp)] at h
      cases h
      rw [if_pos rfl]
      refine ⟨l, l0, rfl, e3, e4, List.mem_cons_self, ⟨_, List.mem_cons_self, rfl⟩, .cons ⟨rfl, l, rfl, upd_same, e4⟩ ?_⟩
      induction t with
      | nil => exact .nil
      | cons r t ih =>
        rw [List.map_cons] at n1 n2 nd
        have n1' := fun z => n1 (List.mem_cons_of_mem _ z)
        refine .cons ⟨r.1, ?_⟩ (ih (List.nodup_cons.mpr ⟨n1', (List.nodup_cons.mp n2).2⟩) n1' (List.nodup_cons.mp n2).2)
        obtain ⟨l', h1, h2, h3⟩ := r.2
        exact ⟨l', h1, by rw [upd_ne (fun z => n1 (by rw [h1, z]; exact List.mem_cons_self))]; exact h2, h3⟩
    · rw [List.find?_cons_of_neg (by simp; omega)] at h
      rw [if_neg c1]
      obtain ⟨l', js, h1, h2, h3, h4, ⟨e, he, ee⟩, h5⟩ := nent_upd t n2 h (j := j)
      refine ⟨l', js, h1, h2, h3, List.mem_cons_of_mem _ h4, ⟨e, List.mem_cons_of_mem _ he, ee⟩, .cons ⟨rfl, l, rfl, ?_, e4⟩ h5⟩
      rw [upd_ne (fun z => n1 (by rw [z, ← h1]; exact h4))]
      exact e3
theorem nent_new {H0 H : Hp} {i j : Nat} {z : V} : ∀ {kvs : List (Key × V)} {nr : List (Nat × List Nat)}, Paired (NEnt H0 H) kvs nr → valV kvs (.inl (i : Int)) = none → addN nr i j = nr ++ [(i, [j])] ∧ putK kvs (.inl (i : Int)) z = kvs ++ [((.inl (i : Int) : Key), z)] := by
  intro kvs nr h e
  have nin : ∀ kv ∈ kvs, kv.1 ≠ (.inl (i : Int) : Key) := fun kv hkv ez => by
    unfold valV at e
    have := List.find?_eq_none.mp (Option.map_eq_none_iff.mp e) kv hkv
    simp [ez] at this
  constructor
  · clear e
    induction h with
    | nil => rfl
    | @cons kv e0 kvs nr r t ih =>
      obtain ⟨c, l0⟩ := e0
      have : c ≠ i := fun z => nin kv List.mem_cons_self (by rw [r.1, z])
      unfold addN
      rw [if_neg this, ih fun kv h => nin kv (List.mem_cons_of_mem _ h)]
      rfl
  · unfold putK
    rw [if_neg]
    intro c
    obtain ⟨kv, h1, h2⟩ := List.any_eq_true.mp c
    exact nin kv h1 (of_decide_eq_true h2)
theorem addN_small {c : Nat} (nr : List (Nat × List Nat)) (i j : Nat) (h : ∀ e ∈ nr, e.2.length ≤ c) : ∀ e ∈ addN nr i j, e.2.length ≤ c + 1 := by
  induction nr with
  | nil => intro e he; unfold addN at he; rw [List.mem_singleton.mp he]; simp
  | cons a r ih =>
    obtain ⟨k, l⟩ := a
    intro e he
    unfold addN at he
    have hl := h (k, l) List.mem_cons_self
    have hr := ih fun e he => h e (List.mem_cons_of_mem _ he)
    by_cases c1 : k = i
    · rw [if_pos c1] at he
      rcases List.mem_cons.mp he with rfl | he
      · rw [List.length_append]; simp at hl ⊢; omega
      · have := h e (List.mem_cons_of_mem _ he); omega
    · rw [if_neg c1] at he
      rcases List.mem_cons.mp he with rfl | he
      · simp at hl ⊢; omega
      · exact hr e he
/-- near at d, over what stood in H0 -/
structure NB (H0 H : Hp) (d : Addr) (nr : List (Nat × List Nat)) (kvs : List (Key × V)) (c : Nat) : Prop where
  at_ : H d = some (.dK kvs)
  ent : Paired (NEnt H0 H) kvs nr
  nd : (kvs.map (·.2)).Nodup
  same : Same H0 H
  len : kvs.length ≤ c
  small : ∀ e ∈ nr, e.2.length ≤ c
theorem NB.old {H0 H H1 : Hp} {d : Addr} {nr : List (Nat × List Nat)} {kvs : List (Key × V)} {i j c : Nat} {v : V} (b : NB H0 H d nr kvs c) (s : Same H H1) (h : valV kvs (.inl (i : Int)) = some v) : ∃ l js, v = .ref l ∧ H1 l = some (.lst (nats js)) ∧ js.length ≤ c ∧ NB H0 (upd H1 l (.lst (nats (js ++ [j])))) d (addN nr i j) kvs (c + 1) := by
  obtain ⟨l, js, h1, h2, h3, h4, ⟨e, he, ee⟩, h5⟩ := nent_upd (pimp (fun _ _ => NEnt.mono s) b.ent) b.nd h (j := j)
  refine ⟨l, js, h1, h2, ee ▸ b.small e he, ?_, h5, b.nd, sput h3 (b.same.trans s), Nat.le_succ_of_le b.len, addN_small _ _ _ b.small⟩
  rw [upd_ne (fun z => by have := s _ _ b.at_; rw [z, h2] at this; cases this)]
  exact s _ _ b.at_
theorem NB.new {H0 H : Hp} {d p : Addr} {nr : List (Nat × List Nat)} {kvs : List (Key × V)} {i j c : Nat} (b : NB H0 H d nr kvs c) (n0 : H0 d = none) (np : H p = none) (h : valV kvs (.inl (i : Int)) = none) :
    NB H0 (upd (upd (upd H p (.lst [])) d (.dK (putK kvs (.inl (i : Int)) (.ref p)))) p (.lst (nats [j]))) d (addN nr i j) (putK kvs (.inl (i : Int)) (.ref p)) (c + 1) := by
  obtain ⟨e1, e2⟩ := nent_new (j := j) (z := .ref p) b.ent h
  have dp : d ≠ p := fun z => by have := b.at_; rw [z, np] at this; cases this
  have H0p : H0 p = none := by
    cases e : H0 p with
    | none => rfl
    | some o => have := b.same _ _ e; rw [np] at this; cases this
  have pnew : ∀ kv ∈ kvs, ∃ l, kv.2 = .ref l ∧ l ≠ p := fun kv hkv => by
    obtain ⟨e, he, r⟩ := paired_right b.ent kv hkv
    obtain ⟨l, h1, h2, h3⟩ := r.2
    exact ⟨l, h1, fun z => by rw [z, np] at h2; cases h2⟩
  refine ⟨by rw [upd_ne dp, upd_same], ?_, ?_, sput H0p (sput n0 (sput H0p b.same)), ?_, addN_small _ _ _ b.small⟩
  · rw [e1, e2]
    refine Paired.snoc (pimp (fun kv e r => ⟨r.1, ?_⟩) b.ent) ⟨rfl, p, rfl, upd_same, H0p⟩
    obtain ⟨l, h1, h2, h3⟩ := r.2
    refine ⟨l, h1, ?_, h3⟩
    rw [upd_ne (fun z => by rw [z, np] at h2; cases h2), upd_ne (fun z => by rw [z, b.at_] at h2; cases h2), upd_ne (fun z => by rw [z, np] at h2; cases h2)]
    exact h2
  · rw [e2, List.map_append]
    refine List.nodup_append.mpr ⟨b.nd, by simp, fun x hx y hy e => ?_⟩
    obtain ⟨kv, hkv, rfl⟩ := List.mem_map.mp hx
    obtain ⟨l, h1, h2⟩ := pnew kv hkv
    have : y = .ref p := by simpa using hy
    rw [h1, this] at e
    injection e with e
    exact h2 e
  · rw [e2, List.length_append]; have := b.len; simp; omega
/-- near.setdefault(i, []).append(j) -/
theorem setd_app {K : PySem.W.Frag} {H0 H3 : Hp} {d : Addr} {nr : List (Nat × List Nat)} {kv2 : List (Key × V)} {c i j s0 s1 s2 : Nat} {σ : L2.St} {Qn : Hp → Prop} (b : NB H0 H3 d nr kv2 c) (n0 : H0 d = none) (hc : c ≤ 100000) (e0 : σ[s0]? = some (some (.ref d))) (e1 : σ[s1]? = some (some (.int (i : Nat)))) (e2 : σ[s2]? = some (some (.int (j : Nat))))
    (k : ∀ H4 kv3, NB H0 H4 d (addN nr i j) kv3 (c + 1) → Qn H4) : tBM K "list" rAppend (tDSetd (tVar s0) (tVar s1) (tLst tNil)) (tCons (tVar s2) tNil) σ H3 (fun _ H4 => Qn H4) := by
  refine ⟨_, e0, d, rfl, .inl ⟨kv2, .inl b.at_⟩, _, e1, room_le1 (by simp), fun p1 n1 => ?_⟩
  have s3 : Same H3 (upd H3 p1 (.lst [])) := Same.new n1
  refine ⟨kv2, .inl (i : Int), s3 _ _ b.at_, rfl, by rw [sizeLine_eq]; have := b.len; omega, fun u hu => ?_, fun hn => ?_⟩
  · obtain ⟨l, js, rfl, hl, hj, b2⟩ := b.old (j := j) s3 hu
    refine ⟨.inl ⟨rfl, _, SqL.of hl⟩, _, e2, l, _, _, rfl, rfl, hl, by rw [nats_length, sizeLine_eq]; omega, k _ kv2 ?_⟩
    rw [← nats_app] at b2; exact b2
  · have dp : p1 ≠ d := fun z => by rw [z, b.at_] at n1; cases n1
    have e3 : (upd (upd H3 p1 (.lst [])) d (.dK (putK kv2 (.inl (i : Int)) (.ref p1)))) p1 = some (.lst []) := by rw [upd_ne dp, upd_same]
    exact ⟨.inl ⟨rfl, _, SqL.of e3⟩, _, e2, p1, [], _, rfl, rfl, e3, by rw [sizeLine_eq]; decide, k _ _ (b.new n0 n1 hn)⟩
theorem addN_len (nr : List (Nat × List Nat)) (i j : Nat) : (addN nr i j).length ≤ nr.length + 1 := by
  induction nr with
  | nil => simp [addN]
  | cons a r ih =>
    obtain ⟨k, l⟩ := a
    unfold addN
    split
    · simp
    · rw [List.length_cons, List.length_cons]; omega
theorem near_snoc (ps : List (Nat × Nat)) (q : Nat × Nat) : near (ps ++ [q]) = addBoth (near ps) q := by
  unfold near
  rw [List.foldl_append]
  rfl
/-- lists of pairings -/
def RPgs (H : Hp) (v : V) (L : List (List (Nat × Nat))) : Prop := ∃ a ys, v = .ref a ∧ H a = some (.lst ys) ∧ Paired (RPg H) ys L
theorem RPgs.mono {H H' : Hp} (k : Same H H') {v : V} {L : List (List (Nat × Nat))} (h : RPgs H v L) : RPgs H' v L := let ⟨a, ys, h1, h2, h3⟩ := h; ⟨a, ys, h1, k _ _ h2, pimp (fun _ _ => RPg.mono (Same.tk k)) h3⟩
theorem keys_le {bs : List Brd} {nm : Str} : (keysN (near (ofName bs nm))).length ≤ bs.length := by
  have ok := ofName_near bs nm
  have := nodup_len _ (List.range bs.length) ok.knd fun k hk => by
    obtain ⟨q, hq, e⟩ := mem_brds.mp ((ok.key k).mp hk)
    have := mem_allPairs.mp (mem_ofName.mp hq).1
    rw [List.mem_range]
    omega
  rwa [List.length_range] at this
section
variable {P : Program} {w : World} {K : PySem.W.Frag} {mg : Str → Option Value} {base : Heap}
abbrev n_greatest_of : List Str := ["hall", "some", "most", "near", "one", "other", "search"]
theorem sc_greatest_of : FnScope ["hall", "some", "most", "near", "one", "other", "search"] ["hall", "some", "most"] (defScope s_greatest_of) := ⟨rfl, rfl, rfl, by decide +kernel, rfl, by decide +kernel, by decide +kernel⟩
theorem ok_greatest_of (T : Tx K mg) : Dfn P w K mg base 11 "greatest_of" ["hall", "some", "most"] (fun vs H Q => ∃ (v sv : V) (bs : List Brd) (nm : Str), vs = [v, sv, .int 2000] ∧ RPrs H sv (ofName bs nm) ∧ bs.length ≤ 8 ∧ ∀ H' F news, Same H H' → H' F = some (.lst news) → Paired (RPg H') news (own bs nm) → Q (.ref F) H') :=
  Dfn.mk T.f_greatest_of T.g_greatest_of sc_greatest_of (fun _ _ _ _ _ _ us hl => match us, hl with | [_, _, _], _ => rfl) (fun vs H Q h => by obtain ⟨v, sv, bs, nm, rfl, _⟩ := h; rfl) fun cdv A outer s0 H vs Q E hr h => by
  obtain ⟨v, sv, bs, nm, rfl, hs, h8, q⟩ := h
  have ok := ofName_near bs nm
  have kl := keys_le (bs := bs) (nm := nm)
  have D_go : Mth P w K mg base 10 (He.ma K (He.ga K "Search") "go") ["self", "at", "taken", "out", "chosen"] (spGo K (keysN (near (ofName bs nm))).length) := (ok_Search_go T _).mono (by omega)
  refine ⟨_, (pss_cons (ps_set (i := 3) sc_greatest_of.nd rfl (Or.inl rfl) pe_dnewK)
  (pss_cons (ps_for PassesOwn.never rfl (pi_list (pv 1)) (pg_tup (by rfl) (pgs_cons (pg_name (i := 4) sc_greatest_of.nd rfl (Or.inl rfl)) (pgs_cons (pg_name (i := 5) sc_greatest_of.nd rfl (Or.inl rfl)) pgs_nil)))
    (pss_cons (ps_expr (pe_bm PySem.F.plainAttrs_list PySem.F.slot_list_append PySem.F.type_list_append mt_append (pe_dsetd (pv 3) (pv 4) (pe_lst pa_nil) ⟨rfl, rfl, rfl, rfl⟩) (pa_cons (pv 5) pa_nil)))
    (pss_one (ps_expr (pe_bm PySem.F.plainAttrs_list PySem.F.slot_list_append PySem.F.type_list_append mt_append (pe_dsetd (pv 3) (pv 5) (pe_lst pa_nil) ⟨rfl, rfl, rfl, rfl⟩) (pa_cons (pv 4) pa_nil))))))
  (pss_cons (ps_set (i := 6) sc_greatest_of.nd rfl (Or.inl rfl) (pe_mkr ((ok_Search_init T).mono (by decide : 1 ≤ 9)) T.mk_Search hr (by rfl) T.g_Search (pa_cons (pv 3) (pa_cons (pv 2) pa_nil))))
  (pss_cons (ps_expr (pe_m D_go T.cl_Search T.me_Search_go hr (pv 6) (pa_cons pe_int (pa_cons (pe_lst pa_nil) (pa_cons (pe_lst pa_nil) (pa_cons (pe_lst pa_nil) pa_nil))))))
  (pss_one (ps_ret (pe_fldA (K := K) rfl tm_var (pv 6) rfl))))))), ?_⟩
  intro d hd
  obtain ⟨sa, xs, rfl, ha, hx⟩ := hs
  have xl : xs.length = (ofName bs nm).length := hx.length
  refine ⟨_, rfl, sa, rfl, ⟨_, SqL.of (Same.new hd _ _ ha)⟩, ?_⟩
  have pl : (ofName bs nm).length ≤ 64 := by
    have h3 : (ofName bs nm).length ≤ (allPairs bs).length := by unfold ofName; exact List.length_filter_le _ _
    have h4 : (allPairs bs).length ≤ bs.length * bs.length := pairsUp_len bs bs.length
    have h5 : bs.length * bs.length ≤ 8 * 8 := Nat.mul_le_mul h8 h8
    omega
  refine for_it (walk_list (xs := xs)) (fun i σ H1 => ∃ kvs x y, σ = [some v, some (.ref sa), some (.int 2000), some (.ref d), x, y, none] ∧ NB H H1 d (near ((ofName bs nm).take i)) kvs (2 * i)) ⟨[], none, none, rfl, upd_same, .nil, List.nodup_nil, Same.new hd, by simp, fun e he => by cases he⟩ (fun i σ H1 _ h => by obtain ⟨kvs, x, y, _, b⟩ := h; exact SqL.of (b.same _ _ ha)) (fun i x σ H1 H2 hi h y => ?_) fun σ H1 h => ?_
  · obtain ⟨kvs, x0, y0, rfl, b⟩ := h
    obtain ⟨rfl, hxi⟩ := y
    obtain ⟨p, hp, r⟩ := paired_get hx hxi
    have r := r.mono (Same.tk b.same)
    have eN : near ((ofName bs nm).take (i + 1)) = addN (addN (near ((ofName bs nm).take i)) p.1 p.2) p.2 p.1 := by
      rw [take_snoc hp, near_snoc]; rfl
    refine tg2 r ?_
    refine setd_app b hd (by omega) rfl rfl rfl fun H4 kv4 b4 => ?_
    refine setd_app b4 hd (by omega) rfl rfl rfl fun H5 kv5 b5 => ?_
    exact ⟨kv5, _, _, rfl, by rw [eN]; exact b5⟩
  obtain ⟨kvs, x0, y0, rfl, b⟩ := h
  rw [xl, List.take_length] at b
  have bn : RNear H1 d (near (ofName bs nm)) := ⟨kvs, b.at_, pimp (fun kv e r => ⟨r.1, let ⟨l, h1, h2, _⟩ := r.2; ⟨l, h1, h2⟩⟩) b.ent⟩
  refine ⟨_, rfl, _, rfl, fun x dx nx ndx ne => ?_⟩
  have s2 : Same H1 (upd (upd H1 dx (.own x)) x (.ins (He.ga K "Search") dx [])) := sput nx (Same.new ndx)
  have nl : (near (ofName bs nm)).length < 64 := by
    have : (keysN (near (ofName bs nm))).length = (near (ofName bs nm)).length := by unfold keysN; rw [List.length_map]
    omega
  refine ⟨x, dx, d, 2000, near (ofName bs nm), rfl, upd_same, bn.mono s2, ok.knd, nl, fun H2 lb F bd sea asc mem hF0 nF lbF k2 => ⟨rfl, ?_⟩⟩
  have bdeq : bd = ascOf bs.length (keysN (near (ofName bs nm))) := asc_unique asc (ascOf_asc _ _) fun k => by
    rw [mem, mem_ascOf]
    refine ⟨fun h => ⟨?_, h⟩, fun h => h.2⟩
    obtain ⟨q, hq, e⟩ := mem_brds.mp ((ok.key k).mp h)
    have := mem_allPairs.mp (mem_ofName.mp hq).1
    omega
  have bdl : bd.length = (keysN (near (ofName bs nm))).length := by
    have bnd : bd.Nodup := asc.imp fun {a b} h => Nat.ne_of_lt h
    have h1 := nodup_len bd _ bnd fun x hx => (mem x).mp hx
    have h2 := nodup_len _ bd ok.knd fun x hx => (mem x).mpr hx
    omega
  have keep : Same H1 (wo H2 F) := fun c o e => by
    have e2 := s2 _ _ e
    refine wo_at (fun z => by rw [z, nF] at e2; cases e2) (k2 _ _ e2 fun z => by rw [z, nx] at e; cases e)
  have xF : x ≠ F := fun z => by
    obtain ⟨dx', e⟩ := sea.obj
    rw [z, hF0] at e; cases e
  obtain ⟨dx2, ho⟩ := sea.obj
  have sea2 : SeaAt K (wo H2 F) x d lb F 2000 (near (ofName bs nm)) bd := ⟨⟨dx2, wo_at xF ho⟩, bn.mono keep, wo_at lbF sea.bds⟩
  -- go
  refine ⟨_, rfl, x, dx2, _, rfl, ho, sea_go, ?_⟩
  refine ⟨room_le1 (by simp), fun p1 n1 => ⟨room_le1 (by simp), fun p2 n2 => ⟨room_le1 (by simp), fun p3 n3 => ?_⟩⟩⟩
  have s3 : Same H2 (upd H2 p1 (.lst [])) := Same.new n1
  have e3 : (upd H2 p1 (.lst [])) p1 = some (.lst []) := upd_same
  generalize upd H2 p1 (.lst []) = H3 at *
  have s4 : Same H3 (upd H3 p2 (.lst [])) := Same.new n2
  have e4 : (upd H3 p2 (.lst [])) p2 = some (.lst []) := upd_same
  generalize upd H3 p2 (.lst []) = H4 at *
  have s5 : Same H4 (upd H4 p3 (.lst [])) := Same.new n3
  have e5 : (upd H4 p3 (.lst [])) p3 = some (.lst []) := upd_same
  generalize upd H4 p3 (.lst []) = H5 at *
  have s35 := s3.trans (s4.trans s5)
  have F2 := hF0
  have w5 : Same (wo H2 F) (wo H5 F) := wo_same s35
  have q1 : p1 ≠ F := fun z => by rw [z, hF0] at n1; cases n1
  have q2 : p2 ≠ F := fun z => by have := s3 _ _ hF0; rw [← z, n2] at this; cases this
  have q3 : p3 ≠ F := fun z => by have := (s3.trans s4) _ _ hF0; rw [← z, n3] at this; cases this
  have own_eq : leaves (nbOf (near (ofName bs nm))) (bd.drop 0) [] [] [] = own bs nm := by
    rw [List.drop_zero, bdeq]; rfl
  refine ⟨x, p1, p2, p3, d, lb, F, 2000, 0, near (ofName bs nm), bd, [], [], [], [], rfl, ⟨sea2.mono w5, s35 _ _ hF0, by omega, wo_at q1 (s5 _ _ (s4 _ _ e3)), wo_at q2 (s5 _ _ e4), ⟨p3, [], rfl, wo_at q3 e5, .nil⟩, by omega, by simp, by simp, by simp, fun k hk => (mem k).mp hk, (fun k hk => by cases hk), fun k o ho => ?_, by omega, ?_, by omega⟩, fun H6 news w6 f6 r6 => ?_⟩
  · have := nb_key ho
    exact (mem_ascOf.mp this).2
  · rw [own_eq]
    have := own_764 bs h8 nm
    simp
    omega
  · rw [own_eq] at r6
    have sea6 : SeaAt K H6 x d lb F 2000 (near (ofName bs nm)) bd := sea2.mono ((w5.trans w6).trans (wo_sub _ _))
    refine ⟨_, rfl, _, sea6.ffound T, q H6 F news (b.same.trans (keep.trans ((w5.trans w6).trans (wo_sub _ _)))) (by rw [f6]; rfl) r6⟩
end
end Ug

/-! pairs.py: greatest, pairings, outcomes; the law's own test of a pairing -/
namespace Ug
open PySem PySem.Spec PyProof.Rows L2
theorem whole_len {bs : List Brd} {e : List (Nat × Nat)} (nd : (brds e).Nodup) (h : ∀ q ∈ e, q ∈ allPairs bs) : e.length ≤ bs.length := by
  have := nodup_len (brds e) (List.range bs.length) nd fun k hk => by
    obtain ⟨q, hq, e⟩ := mem_brds.mp hk
    have := mem_allPairs.mp (h q hq)
    rw [List.mem_range]
    omega
  rw [List.length_range, brds_len] at this
  omega
theorem listed {α β : Type} {R : α → β → Prop} {G : Nat → β → Prop} : ∀ {l : List α}, (∀ (i : Nat) (x : α), l[i]? = some x → ∃ y, R x y ∧ G i y) → ∃ m : List β, Paired R l m ∧ ∀ (i : Nat) (y : β), m[i]? = some y → G i y
  | [], _ => ⟨[], .nil, fun i y h => by simp at h⟩
  | x :: l, h => by
    obtain ⟨y, h1, h2⟩ := h 0 x rfl
    obtain ⟨m, h3, h4⟩ := listed (l := l) (G := fun i => G (i + 1)) fun i z hz => h (i + 1) z hz
    refine ⟨y :: m, .cons h1 h3, fun i z hz => ?_⟩
    cases i with
    | zero => cases hz; exact h2
    | succ i => exact h4 i z hz
theorem outStep_snoc (p : List (Nat × Nat)) (q : Nat × Nat) (l : List (List (Nat × Nat))) : (p ++ [q]).foldl outStep [0] = outStep (p.foldl outStep [0]) q := by rw [List.foldl_append]; rfl
theorem outStep_len (l : List Nat) (a : Nat × Nat) : (outStep l a).length = 2 * l.length := by
  unfold outStep
  rw [List.length_append, List.length_map, List.length_map]
  omega
theorem outFold_len (p : List (Nat × Nat)) : (p.foldl outStep [0]).length = 2 ^ p.length := by
  refine rev_ind (P := fun p => (p.foldl outStep [0]).length = 2 ^ p.length) rfl (fun l a ih => ?_) p
  rw [outStep_snoc l a [], outStep_len, ih, List.length_append]
  show 2 * 2 ^ l.length = 2 ^ (l.length + 1)
  rw [Nat.pow_succ, Nat.mul_comm]
section
variable {P : Program} {w : World} {K : PySem.W.Frag} {mg : Str → Option Value} {base : Heap}
abbrev n_check_size : List Str := ["hall"]
theorem sc_check_size : FnScope ["hall"] ["hall"] (defScope s_check_size) := ⟨rfl, rfl, rfl, by decide +kernel, rfl, by decide +kernel, by decide +kernel⟩
theorem ok_check_size (T : Tx K mg) : Dfn P w K mg base 1 "check_size" ["hall"] (fun vs H Q => ∃ (v : V) (bs : List Brd) (nms : List Str), vs = [v] ∧ RHall K H v bs nms ∧ Q .non H) :=
  Dfn.mk T.f_check_size T.g_check_size sc_check_size (fun _ _ _ _ _ _ us hl => match us, hl with | [_], _ => rfl) (fun vs H Q h => by obtain ⟨v, bs, nms, rfl, _⟩ := h; rfl) fun cdv A outer s0 H vs Q E hr h => by
  obtain ⟨v, bs, nms, rfl, hh, q⟩ := h
  refine ⟨_, (pss_one (ps_if (pt_cmpR op_gt (pe_callB (lenA (K := K) rfl) (by rfl) T.b_len (by decide +kernel) (pa_cons (pe_fldA (K := K) rfl tm_var (pv 0) rfl) pa_nil)) (pe_gI (by rfl) T.c_MOST_BOARDS_pairs) (nomark _)) pss_never pss_nil)), ?_⟩
  have ok : BdsOk bs := (let ⟨_, _, _, _, _, _, _, _, h, _⟩ := hh; h)
  obtain ⟨bv, hf, hb⟩ := hh.boards T
  exact ⟨_, rfl, _, hf, _, hb.lenIs, _, _, rfl, rfl, _, rfl, iteCN (by have := ok.hi; omega) q⟩
abbrev n_greatest : List Str := ["hall", "some", "found", "name", "own", "pair", "one", "other", "pairing"]
theorem sc_greatest : FnScope ["hall", "some", "found", "name", "own", "pair", "one", "other", "pairing"] ["hall", "some"] (defScope s_greatest) := ⟨rfl, rfl, rfl, by decide +kernel, rfl, by decide +kernel, by decide +kernel⟩
theorem ok_greatest (T : Tx K mg) : Dfn P w K mg base 12 "greatest" ["hall", "some"] (fun vs H Q => ∃ (v sv : V) (bs : List Brd) (nms : List Str), vs = [v, sv] ∧ RHall K H v bs nms ∧ RPrs H sv (allPairs bs) ∧ ∀ H' r L, Same H H' → RPgs H' r L → Greatest bs nms L → Q r H') :=
  Dfn.mk T.f_greatest T.g_greatest sc_greatest (fun _ _ _ _ _ _ us hl => match us, hl with | [_, _], _ => rfl) (fun vs H Q h => by obtain ⟨v, sv, bs, nms, rfl, _⟩ := h; rfl) fun cdv A outer s0 H vs Q E hr h => by
  obtain ⟨v, sv, bs, nms, rfl, hh, hs, q⟩ := h
  refine ⟨_, (pss_cons (ps_expr (pe_c ((ok_check_size T).mono (by decide)) hr (pa_cons (pv 0) pa_nil)))
  (pss_cons (ps_set (i := 2) sc_greatest.nd rfl (Or.inl rfl) (pe_lst (pa_cons (pe_tup pa_nil) pa_nil)))
  (pss_cons (ps_for PassesOwn.never rfl (pi_tup (pe_fldA (K := K) rfl tm_var (pv 0) rfl)) (pg_name (i := 3) sc_greatest.nd rfl (Or.inr rfl))
    (pss_cons (ps_set (i := 4) sc_greatest.nd rfl (Or.inr rfl) (pe_c ((ok_greatest_of T).mono (by decide)) hr (pa_cons (pv 0) (pa_cons (pe_lc (own := [("pair", 5)]) (g := (gName 5)) rfl sc_greatest.nd (pi_list (pv 1)) (blkOk_by (own := [("pair", 5)]) (N := n_greatest) (sc := defScope s_greatest) (by decide +kernel)) (fun _ _ _ _ _ => (pg_name (i := 5) sc_greatest.nd rfl (Or.inl rfl))) (fun _ _ _ _ _ => (pts_one (pt_cmpR op_eq (pe_ix (ixA (K := K) rfl) (pe_ix (ixA (K := K) rfl) (pe_fldA (K := K) rfl tm_var (pv 0) rfl) (pe_ix (ixA (K := K) rfl) (pv 5) pe_int (fun _ _ => rfl)) (fun _ _ => rfl)) pe_int (fun _ _ => rfl)) (pv 3) (nomark _)))) (fun _ _ _ _ _ => (pv 5))) (pa_cons (pe_gI (by rfl) T.c_MOST_PAIRINGS) pa_nil)))))
    (pss_cons (ps_if (pt_cmpR op_gt (pe_op op_mul (pe_callB (lenA (K := K) rfl) (by rfl) T.b_len (by decide +kernel) (pa_cons (pv 4) pa_nil)) (pe_callB (lenA (K := K) rfl) (by rfl) T.b_len (by decide +kernel) (pa_cons (pv 2) pa_nil))) (pe_gI (by rfl) T.c_MOST_PAIRINGS) (nomark _)) pss_never pss_nil)
    (pss_one (ps_setLc2 (i := 2) (own := [("one", 6), ("other", 7)]) (vs1 := [7]) (g := (gName 6)) (g1 := (gName 7)) (tt := tYes) (tt1 := tYes) rfl sc_greatest.nd rfl rfl (sw_true rfl rfl rfl (by decide +kernel)) (pi_list (pv 2)) (blkOk_by (own := [("one", 6), ("other", 7)]) (N := n_greatest) (sc := defScope s_greatest) (by decide +kernel)) (by decide) (fun _ _ _ _ _ => (pg_name (i := 6) sc_greatest.nd rfl (Or.inl rfl))) (fun _ _ _ _ _ => pts_nil) (fun _ _ _ _ _ => (piL (K := K) rfl (pv 4))) (fun _ _ _ _ _ => (pg_name (i := 7) sc_greatest.nd rfl (Or.inl rfl))) (fun _ _ _ _ _ => pts_nil) (fun _ _ _ _ _ => (pe_op catA (pv 6) (pv 7))))))))
  (pss_one (ps_ret (pe_callB (cr_sortP (by have := hr.units; exact Nat.lt_of_le_of_lt (Nat.add_le_add_left (by decide : 4 ≤ 64) _) this)) (by rfl) T.b_sorted (by decide +kernel) (pa_cons (pe_lc (own := [("pairing", 8)]) (g := (gName 8)) (tt := tYes) rfl sc_greatest.nd (pi_list (pv 2)) (blkOk_by (own := [("pairing", 8)]) (N := n_greatest) (sc := defScope s_greatest) (by decide +kernel)) (fun _ _ _ _ _ => (pg_name (i := 8) sc_greatest.nd rfl (Or.inl rfl))) (fun _ _ _ _ _ => pts_nil) (fun _ _ _ _ _ => (pe_callTy (tupA (K := K) rfl) (by rfl) T.b_tuple boot_tuple (pa_cons (pe_callB (sortQA (K := K) rfl (by have := hr.units; exact Nat.lt_of_le_of_lt (Nat.add_le_add_left (by decide : 3 ≤ 64) _) this)) (by rfl) T.b_sorted (by decide +kernel) (pa_cons (pv 8) pa_nil)) pa_nil)))) pa_nil))))))), ?_⟩
  have ok : BdsOk bs := (let ⟨_, _, _, _, _, _, _, _, h, _⟩ := hh; h)
  have nok : NamesOk bs nms := (let ⟨_, _, _, _, _, _, _, _, _, h⟩ := hh; h)
  have h8 := ok.hi
  obtain ⟨sa, sx, rfl, hsa, hsx⟩ := hs
  have sxl : sx.length = (allPairs bs).length := hsx.length
  have apl : (allPairs bs).length ≤ 64 := by
    have h4 : (allPairs bs).length ≤ bs.length * bs.length := pairsUp_len bs bs.length
    have h5 : bs.length * bs.length ≤ 8 * 8 := Nat.mul_le_mul h8 h8
    omega
  refine ⟨_, rfl, _, bs, nms, rfl, hh, ?_⟩
  refine ⟨room_le1 (by simp), fun t0 nt0 => ⟨room_le1 (by simp), fun f0 nf0 => ?_⟩⟩
  have s1 : Same H (upd (upd H t0 (.tup [])) f0 (.lst [.ref t0])) := (Same.new nt0).trans (Same.new nf0)
  have ef : (upd (upd H t0 (.tup [])) f0 (.lst [.ref t0])) f0 = some (.lst [.ref t0]) := upd_same
  have et : (upd (upd H t0 (.tup [])) f0 (.lst [.ref t0])) t0 = some (.tup []) := Same.new nf0 _ _ upd_same
  generalize upd (upd H t0 (.tup [])) f0 (.lst [.ref t0]) = H1 at *
  obtain ⟨nv, hnf, hnt⟩ := (hh.mono s1).names T
  obtain ⟨na, rfl, hna⟩ := hnt
  obtain ⟨nv', hnf', hnt'⟩ := hh.names T
  have hna0 : H na = some (.tup (nms.map V.str)) := by
    obtain ⟨a', e1, e2⟩ := hnt'
    obtain ⟨x1, C1, d1, g1, e3, e4, _, _, e5⟩ := hnf
    obtain ⟨x2, C2, d2, g2, e6, e7, _, _, e8⟩ := hnf'
    subst e3
    cases e6
    have := s1 _ _ e7
    rw [e4] at this
    cases this
    rw [e5] at e8
    cases e8
    cases e1
    exact e2
  refine ⟨_, rfl, _, hnf, na, rfl, ⟨_, SqT.of hna⟩, ?_⟩
  refine for_it (walk_tup (xs := nms.map V.str)) (fun i σ H2 => Same H H2 ∧ ∃ fo ys x y, σ = [some v, some (.ref sa), some (.ref fo), x, y, none, none, none, none] ∧ H2 fo = some (.lst ys) ∧ Paired (RPg H2) ys (prods bs (nms.take i))) ⟨s1, f0, _, _, _, rfl, ef, .cons ⟨[], ⟨t0, rfl, et⟩, .nil⟩ .nil⟩ (fun i σ H2 _ h => sqt h.1 (SqT.of hna0)) (fun i x σ H2 H3 hi h y => ?_) fun σ H2 h => ?_
  · obtain ⟨s2, fo, ys, x0, y0, rfl, hfo, hys⟩ := h
    obtain ⟨rfl, hx⟩ := y
    rw [List.getElem?_map] at hx
    obtain ⟨nm, hnm, rfl⟩ := Option.map_eq_some_iff.mp hx
    refine ⟨_, rfl, _, rfl, sa, rfl, ⟨_, SqL.of (s2 _ _ hsa)⟩, fun D hD => ?_⟩
    refine lc_filt (walk_list (xs := sx)) (by omega) hD (allPairs bs) sxl.symm (fun q => decide ((bAt bs q.1).nm = nm)) RPr gm_name (fun H H' b y k => RPr.mono k) (fun H4 s4 => SqL.of ((s2.trans s4) _ _ hsa)) (fun k x H4 H5 b hb s4 y => ?_) fun H4 zs s4 hzs hZ => ?_
    · obtain ⟨rfl, hx⟩ := y
      obtain ⟨b', hb', r⟩ := paired_get hsx hx
      rw [hb] at hb'
      cases hb'
      have s24 := s2.trans s4
      have r := r.mono (Same.tk s24)
      have hbp := mem_allPairs.mp (List.mem_of_getElem? hb)
      obtain ⟨bv, hf, hbd⟩ := (hh.mono s24).boards T
      obtain ⟨y1, hy1, rr, hy2, hy3⟩ := hbd.at (K := K) (i := b.1) (by omega)
      refine ⟨rfl, fun Qb kk => ⟨_, rfl, _, hf, _, rfl, _, ix_0 r, _, hy1, _, ix_0 hy2, _, rfl, rfl, _, rfl, ?_⟩, fun H6 Qc s6 hfb kk => ⟨_, rfl, kk _ _ s6 (r.mono (Same.tk s6))⟩⟩
      rw [str_dec]
      exact kk _ (Same.refl _)
    have s24 := s2.trans s4
    refine ⟨_, _, bs, nm, rfl, ⟨D, zs, rfl, hzs, hZ⟩, h8, fun H6 F news s6 hF hN => ?_⟩
    have s26 := s4.trans s6
    have hfo6 := s26 _ _ hfo
    have hys6 := pimp (fun _ _ => RPg.mono (Same.tk s26)) hys
    have tk : nms.take (i + 1) = nms.take i ++ [nm] := take_snoc hnm
    have pnd : (nms.take (i + 1)).Nodup := nok.nd.sublist (List.take_sublist _ _)
    have plen := prods_764 bs h8 pnd
    rw [tk, prods_len_snoc, ← hys.length, ← hN.length] at plen
    have e0 : ((news.length : Nat) : Int) * (ys.length : Nat) = ((ys.length * news.length : Nat) : Int) := by rw [Int.natCast_mul, Int.mul_comm]
    have nl : news.length ≤ 764 := by rw [hN.length]; exact own_764 bs h8 nm
    refine ⟨_, rfl, _, len_l hF, _, rfl, _, len_l hfo6, _, _, rfl, rfl, .inl ⟨by omega, by omega⟩, _, _, rfl, rfl, _, rfl, iteCN (by rw [e0]; omega) ?_⟩
    refine ⟨_, rfl, fo, rfl, ⟨_, SqL.of hfo6⟩, fun D2 hD2 => ?_⟩
    have pe : prods bs (nms.take (i + 1)) = (prods bs (nms.take i)).flatMap fun one => (own bs nm).map fun other => one ++ other := by rw [tk, prods_snoc]
    refine lc2_all (walk_list (xs := ys)) hD2 (prods bs (nms.take i)) hys.length.symm (fun one => (own bs nm).map fun other => one ++ other) RPg (fun H H' b y k => RPg.mono k) gm_name gm_name (by rw [← prods_snoc, prods_len_snoc, ← hys.length, ← hN.length]; omega) (fun H7 s7 => SqL.of (s7 _ _ hfo6)) (fun k x H7 H8 a ha s7 y => ?_) fun H7 zs2 s7 hz2 hZ2 => ?_
    · obtain ⟨rfl, hx⟩ := y
      obtain ⟨a', ha', ra⟩ := paired_get hys6 hx
      rw [ha] at ha'
      cases ha'
      refine ⟨rfl, fun Rk kk => ⟨_, rfl, F, rfl, ⟨_, SqL.of (s7 _ _ hF)⟩, kk (Itl K F) (fun H => SqL K H F news) (YAt news) _ (Same.refl _) (by rw [List.length_map, ← hN.length]; exact walk_list) (fun H9 s9 _ => SqL.of (s9 _ _ hF)) fun j b x2 H9 H10 hb s9 t9 y => ?_⟩⟩
      obtain ⟨rfl, hx2⟩ := y
      obtain ⟨o, ho, ro⟩ := paired_get hN hx2
      rw [List.getElem?_map, ho] at hb
      cases hb
      obtain ⟨xs1, t1, p1⟩ := ra.mono (Same.tk s9)
      obtain ⟨xs2, t2, p2⟩ := ro.mono (Same.tk s9)
      refine ⟨rfl, fun Qc kk => ⟨_, rfl, _, rfl, xs1, xs2, t1, t2, ?_, fun v1 H11 s11 hv => kk v1 H11 s11 ⟨_, hv, paired_app (pimp (fun _ _ => RPr.mono (Same.tk s11)) p1) (pimp (fun _ _ => RPr.mono (Same.tk s11)) p2)⟩⟩⟩
      have w1 := prods_whole bs _ (nok.nd.sublist (List.take_sublist i _)) a (List.mem_of_getElem? ha)
      have w2 := own_leaf (List.mem_of_getElem? ho)
      have l1 := whole_len w1.nd fun q hq => (w1.mem q hq).1
      have l2 := whole_len w2.nd fun q hq => (w2.mem q hq).1
      rw [p1.length, p2.length]
      omega
    · exact ⟨s2.trans (s26.trans s7), D2, zs2, _, _, rfl, hz2, by rw [pe]; exact hZ2⟩
  · obtain ⟨s2, fo, ys, x0, y0, rfl, hfo, hys⟩ := h
    rw [List.length_map, List.take_length] at hys
    have yl := hys.length
    have p764 := prods_764 bs h8 nok.nd
    refine ⟨_, rfl, fo, rfl, ⟨_, SqL.of hfo⟩, fun D hD => ?_⟩
    refine lc_all (walk_list (xs := ys)) (by omega) hD (fun H i y => ∃ p, RPg H y p ∧ ∃ e, (prods bs nms)[i]? = some e ∧ p.Perm e ∧ p.Pairwise (fun a b => a.1 ≤ b.1)) (fun H H' i y k h => h.imp fun p h => ⟨h.1.mono k, h.2⟩) (fun H3 s3 => SqL.of (s3 _ _ hfo)) (fun i x H3 H4 Qc hi s3 y k => ?_) fun H3 zs s3 hzs hl hZ => ?_
    · obtain ⟨rfl, hx⟩ := y
      obtain ⟨e, he, r⟩ := paired_get hys hx
      refine ⟨rfl, _, rfl, _, e, rfl, r.mono (Same.tk s3), fun ys2 p b hy2 perm asc nb => ⟨b, ys2, rfl, .inl ⟨SqL.of upd_same, fun l nl => k _ _ ((Same.new nb).trans (Same.new nl)) ⟨p, ⟨ys2, ⟨l, rfl, upd_same⟩, pimp (fun _ _ => RPr.mono (Same.tk ((Same.new nb).trans (Same.new nl)))) hy2⟩, e, he, perm, asc⟩⟩⟩⟩
    · obtain ⟨M, hM, hG⟩ := listed hZ
      have hP : Paired (fun p e => p.Perm e ∧ p.Pairwise (fun a b => a.1 ≤ b.1)) M (prods bs nms) := paired_of (by rw [← hM.length, hl, yl]) fun i p e hp he => by
        obtain ⟨e', he', h1, h2⟩ := hG i p hp
        rw [he] at he'
        cases he'
        exact ⟨h1, h2⟩
      refine ⟨D, zs, M, rfl, hzs, hM, sorted_nil hP, fun ys2 L b hy2 perm nb => q _ _ L ((s2.trans s3).trans (Same.new nb)) ⟨b, ys2, rfl, upd_same, pimp (fun _ _ => RPg.mono (Tk.new nb)) hy2⟩ ⟨M, perm, hP⟩⟩
abbrev n_pairings : List Str := ["hall"]
theorem sc_pairings : FnScope ["hall"] ["hall"] (defScope s_pairings) := ⟨rfl, rfl, rfl, by decide +kernel, rfl, by decide +kernel, by decide +kernel⟩
theorem ok_pairings (T : Tx K mg) : Dfn P w K mg base 13 "pairings" ["hall"] (fun vs H Q => ∃ (v : V) (bs : List Brd) (nms : List Str), vs = [v] ∧ RHall K H v bs nms ∧ ∀ H' r L, Same H H' → RPgs H' r L → Greatest bs nms L → Q r H') :=
  Dfn.mk T.f_pairings T.g_pairings sc_pairings (fun _ _ _ _ _ _ us hl => match us, hl with | [_], _ => rfl) (fun vs H Q h => by obtain ⟨v, bs, nms, rfl, _⟩ := h; rfl) fun cdv A outer s0 H vs Q E hr h => by
  obtain ⟨v, bs, nms, rfl, hh, q⟩ := h
  refine ⟨_, (pss_one (ps_ret (pe_c ((ok_greatest T).mono (by decide)) hr (pa_cons (pv 0) (pa_cons (pe_c ((ok_all_pairs T).mono (by decide)) hr (pa_cons (pv 0) pa_nil)) pa_nil))))), ?_⟩
  exact ⟨_, rfl, _, rfl, _, bs, nms, rfl, hh, fun H1 r s1 hr1 => ⟨_, _, bs, nms, rfl, hh.mono s1, hr1, fun H2 r2 L s2 h2 hg => q H2 r2 L (s1.trans s2) h2 hg⟩⟩
abbrev n_outcomes : List Str := ["pairing", "found", "one", "other", "mask"]
theorem sc_outcomes : FnScope ["pairing", "found", "one", "other", "mask"] ["pairing"] (defScope s_outcomes) := ⟨rfl, rfl, rfl, by decide +kernel, rfl, by decide +kernel, by decide +kernel⟩
theorem ok_outcomes (T : Tx K mg) : Dfn P w K mg base 1 "outcomes" ["pairing"] (fun vs H Q => ∃ (v : V) (p : List (Nat × Nat)), vs = [v] ∧ RPg H v p ∧ p.length ≤ 8 ∧ (∀ q ∈ p, q.1 < 1000 ∧ q.2 < 1000) ∧ ∀ H' a, Same H H' → H' a = some (.lst (nats (outc p))) → Q (.ref a) H') :=
  Dfn.mk T.f_outcomes T.g_outcomes sc_outcomes (fun _ _ _ _ _ _ us hl => match us, hl with | [_], _ => rfl) (fun vs H Q h => by obtain ⟨v, p, rfl, _⟩ := h; rfl) fun cdv A outer s0 H vs Q E hr h => by
  obtain ⟨v, p, rfl, ⟨xs, ⟨a, rfl, ha⟩, hx⟩, h8, hq, q⟩ := h
  refine ⟨_, (pss_cons (ps_set (i := 1) sc_outcomes.nd rfl (Or.inl rfl) (pe_lst (pa_cons pe_int pa_nil)))
  (pss_cons (ps_for PassesOwn.never rfl (pi_tup (pv 0)) (pg_tup (by rfl) (pgs_cons (pg_name (i := 2) sc_outcomes.nd rfl (Or.inr rfl)) (pgs_cons (pg_name (i := 3) sc_outcomes.nd rfl (Or.inr rfl)) pgs_nil)))
    (pss_one (ps_set (i := 1) sc_outcomes.nd rfl (Or.inl rfl) (pe_op catL (pe_lc (own := [("mask", 4)]) (g := (gName 4)) (tt := tYes) rfl sc_outcomes.nd (pi_list (pv 1)) (blkOk_by (own := [("mask", 4)]) (N := n_outcomes) (sc := defScope s_outcomes) (by decide +kernel)) (fun _ _ _ _ _ => (pg_name (i := 4) sc_outcomes.nd rfl (Or.inl rfl))) (fun _ _ _ _ _ => pts_nil) (fun _ _ _ _ _ => (pe_op op_or (pv 4) (pe_op op_shl pe_int (pv 2))))) (pe_lc (own := [("mask", 4)]) (g := (gName 4)) (tt := tYes) rfl sc_outcomes.nd (pi_list (pv 1)) (blkOk_by (own := [("mask", 4)]) (N := n_outcomes) (sc := defScope s_outcomes) (by decide +kernel)) (fun _ _ _ _ _ => (pg_name (i := 4) sc_outcomes.nd rfl (Or.inl rfl))) (fun _ _ _ _ _ => pts_nil) (fun _ _ _ _ _ => (pe_op op_or (pv 4) (pe_op op_shl pe_int (pv 3)))))))))
  (pss_one (ps_ret (pv 1))))), ?_⟩
  have xl : xs.length = p.length := hx.length
  refine ⟨room_le1 (by simp), fun f0 nf0 => ?_⟩
  have s1 : Same H (upd H f0 (.lst [.int 0])) := Same.new nf0
  refine ⟨_, rfl, a, rfl, ⟨_, SqT.of (s1 _ _ ha)⟩, ?_⟩
  refine for_it (walk_tup (xs := xs)) (fun i σ H2 => Same H H2 ∧ ∃ fo x y, σ = [some (.ref a), some (.ref fo), x, y, none] ∧ H2 fo = some (.lst (nats ((p.take i).foldl outStep [0])))) ⟨s1, f0, _, _, rfl, upd_same⟩ (fun i σ H2 _ h => sqt h.1 (SqT.of ha)) (fun i x σ H2 H3 hi h y => ?_) fun σ H2 h => ?_
  · obtain ⟨s2, fo, x0, y0, rfl, hfo⟩ := h
    obtain ⟨rfl, hxi⟩ := y
    obtain ⟨b, hb, r⟩ := paired_get hx hxi
    have r := r.mono (Same.tk s2)
    obtain ⟨hb1, hb2⟩ := hq b (List.mem_of_getElem? hb)
    have fl : ((p.take i).foldl outStep [0]).length ≤ 256 := by
      rw [outFold_len]
      exact Nat.pow_le_pow_right (n := 2) (by decide) (show (p.take i).length ≤ 8 by rw [List.length_take]; omega)
    have e1 : (p.take (i + 1)).foldl outStep [0] = outStep ((p.take i).foldl outStep [0]) b := by rw [take_snoc hb]; exact outStep_snoc _ _ []
    generalize (p.take i).foldl outStep [0] = ms at hfo fl e1
    refine tg2 r ?_
    have made : ∀ {H4 : Hp} {ys : List V} {k : Nat}, ys.length = ms.length → (∀ (j : Nat) (y : V), ys[j]? = some y → ∃ m, ms[j]? = some m ∧ y = V.int ((m ||| (1 <<< k) : Nat) : Int)) → ys = nats (ms.map fun m => m ||| (1 <<< k)) := fun {H4 ys k} hl hy => by
      refine List.ext_getElem? fun j => ?_
      unfold nats
      rw [List.getElem?_map, List.getElem?_map]
      cases e : ys[j]? with
      | none =>
        have : ms.length ≤ j := by rw [← hl]; exact List.getElem?_eq_none_iff.mp e
        rw [List.getElem?_eq_none this]; rfl
      | some y =>
        obtain ⟨m, h1, h2⟩ := hy j y e
        rw [h1, h2]; rfl
    refine ⟨_, rfl, fo, rfl, ⟨_, SqL.of hfo⟩, fun D hD => ?_⟩
    refine lc_all (walk_list (xs := nats ms)) (by rw [nats_length]; omega) hD (fun _ j y => ∃ m, ms[j]? = some m ∧ y = V.int ((m ||| (1 <<< b.1) : Nat) : Int)) (fun _ _ _ _ _ e => e) (fun H4 s4 => SqL.of (s4 _ _ hfo)) (fun j x H4 H5 Qc hj s4 y k => ?_) fun H4 ys s4 hys hl hY => ?_
    · obtain ⟨rfl, hx⟩ := y
      unfold nats at hx
      rw [List.getElem?_map] at hx
      obtain ⟨m, hm, rfl⟩ := Option.map_eq_some_iff.mp hx
      refine ⟨rfl, _, rfl, _, rfl, _, _, rfl, rfl, ⟨Int.natCast_nonneg _, by omega, by decide⟩, _, _, rfl, rfl, k _ _ (Same.refl _) ⟨m, hm, ?_⟩⟩
      rw [← or_nat]
    rw [nats_length] at hl
    have ey := made (H4 := H4) hl hY
    refine ⟨_, rfl, fo, rfl, ⟨_, SqL.of (s4 _ _ hfo)⟩, fun D2 hD2 => ?_⟩
    refine lc_all (walk_list (xs := nats ms)) (by rw [nats_length]; omega) hD2 (fun _ j y => ∃ m, ms[j]? = some m ∧ y = V.int ((m ||| (1 <<< b.2) : Nat) : Int)) (fun _ _ _ _ _ e => e) (fun H5 s5 => SqL.of (s5 _ _ (s4 _ _ hfo))) (fun j x H5 H6 Qc hj s5 y k => ?_) fun H5 ys2 s5 hys2 hl2 hY2 => ?_
    · obtain ⟨rfl, hx⟩ := y
      unfold nats at hx
      rw [List.getElem?_map] at hx
      obtain ⟨m, hm, rfl⟩ := Option.map_eq_some_iff.mp hx
      refine ⟨rfl, _, rfl, _, rfl, _, _, rfl, rfl, ⟨Int.natCast_nonneg _, by omega, by decide⟩, _, _, rfl, rfl, k _ _ (Same.refl _) ⟨m, hm, ?_⟩⟩
      rw [← or_nat]
    rw [nats_length] at hl2
    have ey2 := made (H4 := H5) hl2 hY2
    refine ⟨D, D2, ys, ys2, rfl, rfl, s5 _ _ hys, hys2, by omega, fun p1 H6 n6 s6 e6 => ⟨s2.trans (s4.trans (s5.trans s6)), p1, _, _, rfl, ?_⟩⟩
    rw [e6, ey, ey2, nats_app, e1]
    rfl
  · obtain ⟨s2, fo, x0, y0, rfl, hfo⟩ := h
    rw [xl, List.take_length] at hfo
    exact ⟨_, rfl, q H2 fo s2 hfo⟩
abbrev n__law_is_int : List Str := ["_law_thing"]
theorem sc__law_is_int : FnScope ["_law_thing"] ["_law_thing"] (defScope s__law_is_int) := ⟨rfl, rfl, rfl, by decide +kernel, rfl, by decide +kernel, by decide +kernel⟩
theorem ok__law_is_int (T : Tx K mg) : Dfn P w K mg base 1 "_law_is_int" ["_law_thing"] (fun vs H Q => ∃ n, vs = [.int n] ∧ Q (.bl true) H) :=
  Dfn.mk T.f__law_is_int T.g__law_is_int sc__law_is_int (fun _ _ _ _ _ _ us hl => match us, hl with | [_], _ => rfl) (fun vs H Q h => by obtain ⟨v, rfl, _⟩ := h; rfl) fun cdv A outer s H vs Q E hr h => by
  obtain ⟨n, rfl, q⟩ := h
  refine ⟨_, (pss_one (ps_ret (pe_and (pe_callB (isiA (K := K) rfl) (by rfl) T.b_isinstance (by decide +kernel) (pa_cons (pv 0) (pa_cons (pe_bltn (v := .ty "int") (by rfl) T.b_int boot_int rfl) pa_nil))) (pe_one (pe_not (pe_callB (isiA (K := K) rfl) (by rfl) T.b_isinstance (by decide +kernel) (pa_cons (pv 0) (pa_cons (pe_bltn (v := .ty "bool") (by rfl) T.b_bool boot_bool rfl) pa_nil)))))))), ?_⟩
  exact ⟨_, rfl, _, isi_ii, _, rfl, iteT ⟨_, rfl, _, isi_ib, _, rfl, q⟩⟩
abbrev n__law_is_pairing : List Str := ["_law_boards_here", "_law_thing", "_law_taken", "_law_k", "_law_pair"]
theorem sc__law_is_pairing : FnScope ["_law_boards_here", "_law_thing", "_law_taken", "_law_k", "_law_pair"] ["_law_boards_here", "_law_thing"] (defScope s__law_is_pairing) := ⟨rfl, rfl, rfl, by decide +kernel, rfl, by decide +kernel, by decide +kernel⟩
theorem ok__law_is_pairing (T : Tx K mg) : Dfn P w K mg base 3 "_law_is_pairing" ["_law_boards_here", "_law_thing"] (fun vs H Q => ∃ (v u : V) (bs : List Brd) (p : List (Nat × Nat)), vs = [v, u] ∧ RBds H v bs ∧ BdsOk bs ∧ RPg H u p ∧ PgOk bs p ∧ ∀ H', Same H H' → Q (.bl true) H') :=
  Dfn.mk T.f__law_is_pairing T.g__law_is_pairing sc__law_is_pairing (fun _ _ _ _ _ _ us hl => match us, hl with | [_, _], _ => rfl) (fun vs H Q h => by obtain ⟨v, u, bs, p, rfl, _⟩ := h; rfl) fun cdv A outer s0 H vs Q E hr h => by
  obtain ⟨v, u, bs, p, rfl, hb, ok, ⟨xs, htp, hx⟩, pok, q⟩ := h
  refine ⟨_, (pss_cons (ps_if (pt_not (pt_val (pe_callB (isiA (K := K) rfl) (by rfl) T.b_isinstance (by decide +kernel) (pa_cons (pv 1) (pa_cons (pe_bltn (v := .ty "tuple") (by rfl) T.b_tuple boot_tuple rfl) pa_nil))))) pss_never pss_nil)
  (pss_cons (ps_set (i := 2) sc__law_is_pairing.nd rfl (Or.inl rfl) (pe_lst pa_nil))
  (pss_cons (ps_for PassesOwn.never rfl (pi_range1 (by rfl) T.b_range (pa_cons (pe_callB (lenA (K := K) rfl) (by rfl) T.b_len (by decide +kernel) (pa_cons (pv 1) pa_nil)) pa_nil)) (pg_name (i := 3) sc__law_is_pairing.nd rfl (Or.inl rfl))
    (pss_cons (ps_set (i := 4) sc__law_is_pairing.nd rfl (Or.inl rfl) (pe_ix (ixA (K := K) rfl) (pv 1) (pv 3) (fun _ _ => rfl)))
    (pss_cons (ps_if (PW.pt (pw_or (pt_not (pt_val (pe_callB (isiA (K := K) rfl) (by rfl) T.b_isinstance (by decide +kernel) (pa_cons (pv 4) (pa_cons (pe_bltn (v := .ty "tuple") (by rfl) T.b_tuple boot_tuple rfl) pa_nil))))) (pw_or (pt_cmpR op_ne (pe_callB (lenA (K := K) rfl) (by rfl) T.b_len (by decide +kernel) (pa_cons (pv 4) pa_nil)) pe_int (nomark _)) (pw_or (pt_not (pt_val (pe_c ((ok__law_is_int T).mono (by decide)) hr (pa_cons (pe_ix (ixA (K := K) rfl) (pv 4) pe_int (fun _ _ => rfl)) pa_nil)))) (pw_or1 (pt_not (pt_val (pe_c ((ok__law_is_int T).mono (by decide)) hr (pa_cons (pe_ix (ixA (K := K) rfl) (pv 4) pe_int (fun _ _ => rfl)) pa_nil))))))))) pss_never pss_nil)
    (pss_cons (ps_if (PW.pt (pw_or (pt_cmpR op_lt (pe_ix (ixA (K := K) rfl) (pv 4) pe_int (fun _ _ => rfl)) pe_int (nomark _)) (pw_or (pt_cmpR op_ge (pe_ix (ixA (K := K) rfl) (pv 4) pe_int (fun _ _ => rfl)) (pe_ix (ixA (K := K) rfl) (pv 4) pe_int (fun _ _ => rfl)) (nomark _)) (pw_or (pt_cmpR op_ge (pe_ix (ixA (K := K) rfl) (pv 4) pe_int (fun _ _ => rfl)) (pe_callB (lenA (K := K) rfl) (by rfl) T.b_len (by decide +kernel) (pa_cons (pv 0) pa_nil)) (nomark _)) (pw_or (pt_cmpR (inA (K := K) rfl) (pe_ix (ixA (K := K) rfl) (pv 4) pe_int (fun _ _ => rfl)) (pv 2) rfl) (pw_or1 (pt_cmpR (inA (K := K) rfl) (pe_ix (ixA (K := K) rfl) (pv 4) pe_int (fun _ _ => rfl)) (pv 2) rfl))))))) pss_never pss_nil)
    (pss_cons (ps_if (PW.pt (pw_or (pt_not (pt_val (pe_c ((ok__law_are_pair T).mono (by decide)) hr (pa_cons (pe_ix (ixA (K := K) rfl) (pv 0) (pe_ix (ixA (K := K) rfl) (pv 4) pe_int (fun _ _ => rfl)) (fun _ _ => rfl)) (pa_cons (pe_ix (ixA (K := K) rfl) (pv 0) (pe_ix (ixA (K := K) rfl) (pv 4) pe_int (fun _ _ => rfl)) (fun _ _ => rfl)) pa_nil))))) (pw_or1 (PW.pt (pw_and (pt_cmpR op_gt (pv 3) pe_int (nomark _)) (pw_and1 (pt_cmpR (geTA (K := K) rfl hr.units0) (pe_ix (ixA (K := K) rfl) (pv 1) (pe_op op_sub (pv 3) pe_int) (fun _ _ => rfl)) (pv 4) (nomark _)))))))) pss_never pss_nil)
    (pss_one (ps_set (i := 2) sc__law_is_pairing.nd rfl (Or.inl rfl) (pe_op catL (pv 2) (pe_lst (pa_cons (pe_ix (ixA (K := K) rfl) (pv 4) pe_int (fun _ _ => rfl)) (pa_cons (pe_ix (ixA (K := K) rfl) (pv 4) pe_int (fun _ _ => rfl)) pa_nil)))))))))))
  (pss_one (ps_ret pe_bl))))), ?_⟩
  have xl : xs.length = p.length := hx.length
  have plen := pok.len
  have h8 := ok.hi
  refine ⟨_, rfl, _, isi_tt htp, _, rfl, iteF ⟨room_le1 (by simp), fun t0 nt0 => ?_⟩⟩
  have s1 : Same H (upd H t0 (.lst [])) := Same.new nt0
  refine ⟨_, rfl, _, len_t (stp s1 htp), xs.length, rfl, by omega, by omega, ?_⟩
  refine for_it (walk_range (lo := 0) (n := ((xs.length : Nat) : Int).toNat)) (fun i σ H2 => Same H H2 ∧ ∃ to x y, σ = [some v, some u, some (.ref to), x, y] ∧ H2 to = some (.lst (nats (brds (p.take i))))) ⟨s1, t0, _, _, rfl, upd_same⟩ (fun _ _ _ _ _ => True.intro) (fun i x σ H2 H3 hi h y => ?_) fun σ H2 h => ?_
  · obtain ⟨s2, to, x0, y0, rfl, hto⟩ := h
    obtain ⟨rfl, rfl⟩ := y
    have hip : i < p.length := by rw [Int.toNat_natCast] at hi; omega
    obtain ⟨b, hpb⟩ : ∃ b, p[i]? = some b := ⟨_, List.getElem?_eq_getElem hip⟩
    obtain ⟨x, hxi, r⟩ := paired_at hx hpb
    have r := r.mono (Same.tk s2)
    obtain ⟨lt1, lt2, hpair⟩ := pok.lt b (List.mem_of_getElem? hpb)
    have e0 : (0 : Int) + (i : Nat) = (i : Nat) := by omega
    have tk : p.take (i + 1) = p.take i ++ [b] := take_snoc hpb
    have nd2 : (brds (p.take i) ++ [b.1, b.2]).Nodup := by
      have nd := pok.nd
      have e : brds p = brds (p.take (i + 1)) ++ brds (p.drop (i + 1)) := by rw [← brds_append, List.take_append_drop]
      rw [e, tk, brds_append] at nd
      exact (List.nodup_append.mp nd).1
    have n1 : b.1 ∉ brds (p.take i) := fun z => (List.nodup_append.mp nd2).2.2 _ z b.1 (by simp) rfl
    have n2 : b.2 ∉ brds (p.take i) := fun z => (List.nodup_append.mp nd2).2.2 _ z b.2 (by simp) rfl
    have ixk : IxIs K H3 u (.int (0 + (i : Nat))) x := by rw [e0]; exact ix_t (stp s2 htp) hxi
    refine ⟨_, rfl, _, rfl, _, ixk, ?_⟩
    refine ⟨_, rfl, _, isi_tt r, _, rfl, iteF ⟨_, rfl, _, len_t r, rfl, _, rfl, iteNS rfl ⟨_, rfl, _, ix_0 r, _, rfl, _, rfl, iteF ⟨_, rfl, _, ix_1 r, _, rfl, _, rfl, iteF ?_⟩⟩⟩⟩
    have hbm := hb.mono (Same.tk s2)
    refine ⟨_, rfl, _, ix_0 r, _, _, rfl, rfl, _, rfl, iteCN (by omega) ⟨_, rfl, _, ix_0 r, _, rfl, _, ix_1 r, _, _, rfl, rfl, _, rfl, iteCN (by omega) ⟨_, rfl, _, ix_1 r, _, rfl, _, hbm.lenIs, _, _, rfl, rfl, _, rfl, iteCN (by omega)
      ⟨_, rfl, _, ix_0 r, _, rfl, b.1, brds (p.take i), nats_l hto, _, rfl, iteCN n1 ⟨_, rfl, _, ix_1 r, _, rfl, b.2, brds (p.take i), nats_l hto, _, rfl, iteCN n2 ?_⟩⟩⟩⟩⟩
    obtain ⟨y1, hy1, r1⟩ := hbm.at (K := K) (i := b.1) (by omega)
    obtain ⟨y2, hy2, r2⟩ := hbm.at (K := K) (i := b.2) (by omega)
    refine ⟨_, rfl, _, rfl, _, ix_0 r, _, hy1, _, rfl, _, rfl, _, ix_1 r, _, hy2, _, _, _, _, rfl, r1, r2, ok.bAt (by omega), ok.bAt (by omega), fun H4 s4 => ⟨_, rfl, ?_⟩⟩
    have s24 := s2.trans s4
    have r4 := r.mono (Same.tk s4)
    have rest : ∀ {H5 : Hp}, Same H4 H5 → ∀ {Qn : L2.St → Hp → Prop}, (∀ H6 to', Same H H6 → H6 to' = some (.lst (nats (brds (p.take (i + 1))))) → Qn [some v, some u, some (.ref to'), some (.int (0 + (i : Nat))), some x] H6) →
        tAsg (tOp (fun x y H Q => ∃ a b xs ys, x = V.ref a ∧ y = V.ref b ∧ H a = some (.lst xs) ∧ H b = some (.lst ys) ∧ xs.length + ys.length ≤ 1000000 ∧ ∀ p H', H p = none → Same H H' → H' p = some (.lst (xs ++ ys)) → Q (.ref p) H') (tVar 2) (tLst (tCons (tOp (fun x y H Q => ∃ v, IxIs K H x y v ∧ Q v H) (tVar 4) (tC (.int 0))) (tCons (tOp (fun x y H Q => ∃ v, IxIs K H x y v ∧ Q v H) (tVar 4) (tC (.int 1))) tNil)))) (gName 2)
          { nx := Qn, rt := Q } [some v, some u, some (.ref to), some (.int (0 + (i : Nat))), some x] H5 := fun {H5} s5 {Qn} k => by
      have s45 := s4.trans s5
      have r5 := r.mono (Same.tk s45)
      refine ⟨_, rfl, _, rfl, _, ix_0 r5, _, rfl, _, ix_1 r5, room_le1 (by simp), fun l nl => ⟨to, l, _, _, rfl, rfl, Same.new nl _ _ (s45 _ _ hto), upd_same, ?_, fun p1 H6 n6 s6 e6 => k H6 p1 (s2.trans (s45.trans ((Same.new nl).trans s6))) ?_⟩⟩
      · rw [nats_length, brds_len, List.length_take]; simp; omega
      · rw [e6, tk, brds_append, ← nats_app]; rfl
    have fin : ∀ H6 to', Same H H6 → H6 to' = some (.lst (nats (brds (p.take (i + 1))))) → Same H H6 ∧ ∃ to x_1 y, ([some v, some u, some (.ref to'), some (.int (0 + (i : Nat))), some x] : L2.St) = [some v, some u, some (.ref to), x_1, y] ∧ H6 to = some (.lst (nats (brds (p.take (i + 1))))) := fun H6 to' a b => ⟨a, _, _, _, rfl, b⟩
    refine iteF' (by rw [hpair]; rfl) ⟨_, rfl, _, _, rfl, rfl, _, rfl, ite2 (fun c => ?_) fun c => ?_⟩
    · have hi0 : 0 < i := by have := of_decide_eq_true c; omega
      obtain ⟨b0, hb0⟩ : ∃ b, p[i - 1]? = some b := ⟨_, List.getElem?_eq_getElem (by omega)⟩
      obtain ⟨x1, hx1, r1⟩ := paired_at hx hb0
      obtain ⟨a1, rfl, h1⟩ := r1.mono (Same.tk s24)
      obtain ⟨a2, rfl, h2⟩ := r4
      have e1 : (0 : Int) + (i : Nat) - 1 = ((i - 1 : Nat) : Int) := by omega
      have ixk1 : IxIs K H4 u (.int (0 + (i : Nat) - 1)) (.ref a1) := by rw [e1]; exact ix_t (stp s24 htp) hx1
      refine ⟨_, rfl, _, rfl, _, _, rfl, rfl, _, ixk1, _, rfl, a1, a2, [(b0.1 : Int), b0.2], [(b.1 : Int), b.2], rfl, rfl, SqT.of h1, SqT.of h2, _, rfl, iteF' (geI_pair ?_) (rest (Same.refl _) fin)⟩
      obtain ⟨g1, rfl⟩ := List.getElem?_eq_some_iff.mp hb0
      obtain ⟨g2, rfl⟩ := List.getElem?_eq_some_iff.mp hpb
      have := List.pairwise_iff_getElem.mp pok.asc (i - 1) i (by rw [List.length_map]; exact g1) (by rw [List.length_map]; exact g2) (by omega)
      rw [List.getElem_map, List.getElem_map] at this
      omega
    · exact rest (Same.refl _) fin
  · obtain ⟨s2, to, x0, y0, rfl, hto⟩ := h
    exact q H2 s2
end
end Ug

/-! sums, sets of texts, aims on the heap -/
namespace Ug
open PySem PySem.Spec PyProof.Rows L2
def IntsAt (K : PySem.W.Frag) (H : Hp) (xs : List V) (ns : List Int) : Prop := ∃ a, xs = [V.ref a] ∧ SqL K H a (ns.map V.int)
theorem sumA {X : Cx} {K : PySem.W.Frag} (hc : X.calm = true) (hk : X.K = K) : CallR X (.builtin "sum") (fun xs H Q => ∃ ns, IntsAt K H xs ns ∧ Q (.int ns.sum) H) := by
  subst hk
  exact callImp (cr_sum hc) fun xs H Q ⟨ns, ⟨a, h1, h2⟩, q⟩ => ⟨a, ns, h1, h2, q⟩
theorem minA {X : Cx} {K : PySem.W.Frag} (hc : X.calm = true) (hk : X.K = K) : CallR X (.builtin "min") (fun xs H Q => ∃ i j, IntsAt K H xs [i, j] ∧ Q (.int (if j < i then j else i)) H) := by
  subst hk
  refine callImp (cr_min hc) fun xs H Q ⟨i, j, ⟨a, h1, h2⟩, q⟩ => ⟨a, [i, j], h1, h2, by simp, fun m hm hle => ?_⟩
  have : m = if j < i then j else i := by
    have h1 := hle i (by simp)
    have h2 := hle j (by simp)
    rcases List.mem_cons.mp hm with rfl | hm
    · split <;> omega
    · have : m = j := by simpa using hm
      subst this
      split <;> omega
  rw [this]; exact q
theorem min_if (a b : Nat) : (if (b : Int) < (a : Int) then (b : Int) else (a : Int)) = ((min a b : Nat) : Int) := by
  by_cases c : b < a
  · rw [if_pos (by omega), Nat.min_eq_right (Nat.le_of_lt c)]
  · rw [if_neg (by omega), Nat.min_eq_left (by omega)]
theorem sum_nat (l : List Nat) : (l.map fun n : Nat => (n : Int)).sum = ((l.sum : Nat) : Int) := by
  induction l with
  | nil => rfl
  | cons a l ih => rw [List.map_cons, List.sum_cons, List.sum_cons, ih]; omega
theorem sc_txt {w : World} {J : It} {n : Nat} {GH : Hp → Prop} {Y : Nat → Hp → V → Hp → Prop} (w1 : Walk J n GH Y) {g : TG} {te : TE} {vs : List Nat} {σ : L2.St} {H1 : Hp} {D : Addr} (hD : H1 D = none) {Qd : Hp → Prop} (bs : List Str) (hl : bs.length = n) (hn : n ≤ 1000) (gm : GMono g)
    (hG : ∀ H, Same H1 H → GH H)
    (hs : ∀ i x H H' b, bs[i]? = some b → Same H1 H → Y i H x H' → g x (wipe σ vs) H' fun σ2 H2 => wipe σ2 vs = wipe σ vs ∧ ∀ Qc : VK, (∀ H4, Same H H4 → Qc (.str b) H4) → te σ2 H2 Qc)
    (hd : ∀ H xs, Same H1 H → H D = some (SetSO w D xs) → xs.Nodup → (∀ n, n ∈ xs ↔ n ∈ bs) → xs.length ≤ n → Qd H) :
    ∃ W : Nat → Nat → Hp → Prop, (∃ m, W 0 m (upd H1 D (SetSO w D []))) ∧ ∀ i m H, W i m H →
      (J.stop i H ∧ Qd H) ∨ (J.go i H ∧ ∃ Nx : Hp → Prop, (∀ H', Nx H' → ∃ m', m' < m ∧ W (i + 1) m' H') ∧ ∀ x H', J.yld i H x H' → g x (wipe σ vs) H' fun σ2 H2 => wipe σ2 vs = wipe σ vs ∧
        te σ2 H2 fun y H4 => ∃ (c : Str) (xs : List Str), y = .str c ∧ H4 D = some (SetSO w D xs) ∧ xs.length ≤ 1000 ∧ Nx (upd H4 D (SetSO w D (insS xs c)))) := by
  let Iv : Nat → Hp → Prop := fun i H => Same H1 H ∧ ∃ xs, H D = some (SetSO w D xs) ∧ xs.Nodup ∧ (∀ n, n ∈ xs ↔ n ∈ bs.take i) ∧ xs.length ≤ i
  refine ⟨fun i m H => m = n - i ∧ i ≤ n ∧ Iv i H, ⟨n, rfl, Nat.zero_le n, Same.new hD, [], upd_same, List.nodup_nil, fun n => by simp, by simp⟩, fun i m H p => ?_⟩
  obtain ⟨rfl, hi, s1, xs, hxs, nd, hm, xl⟩ := p
  by_cases lt : i < n
  · refine .inr ⟨w1.goes i H lt (hG H s1), fun H' => Iv (i + 1) H', fun H' q => ⟨n - (i + 1), by omega, rfl, lt, q⟩, fun x H' y => ?_⟩
    obtain ⟨b, hb⟩ : ∃ b, bs[i]? = some b := ⟨_, List.getElem?_eq_getElem (by omega)⟩
    refine gm _ _ _ _ _ (fun σ2 H2 q => ?_) (hs i x H H' b hb s1 (w1.yields i H x H' lt (hG H s1) y))
    obtain ⟨q1, q2⟩ := q
    refine ⟨q1, q2 _ fun H4 s4 => ⟨b, xs, rfl, s4 _ _ hxs, by omega, ?_⟩⟩
    refine ⟨fun c o e => ?_, insS xs b, upd_same, ?_, fun c => ?_, ?_⟩
    · rw [upd_ne (fun q => by rw [q, hD] at e; cases e)]
      exact s4 _ _ (s1 _ _ e)
    · unfold insS
      split
      · exact nd
      · rename_i c
        exact List.nodup_append.mpr ⟨nd, List.nodup_cons.mpr ⟨by simp, List.nodup_nil⟩, fun x hx y hy e => by rw [List.mem_singleton.mp hy] at e; exact c (e ▸ hx)⟩
    · rw [take_snoc hb, List.mem_append, List.mem_singleton, ← hm]
      unfold insS
      split
      · rename_i z
        exact ⟨.inl, fun q => q.elim id fun e => e ▸ z⟩
      · rw [List.mem_append, List.mem_singleton]
    · unfold insS
      split
      · omega
      · rw [List.length_append]; simp; omega
  · have ei : i = n := by omega
    subst ei
    refine .inl ⟨w1.stops H (hG H s1), hd H xs s1 hxs nd ?_ xl⟩
    intro c
    rw [hm, List.take_of_length_le (by omega)]
/-- an aim: at least n of the boards in cnt -/
def RAim (H : Hp) (v : V) (n : Nat) (cnt : List Nat) : Prop := ∃ t, Tp H v [.str "least", .int (n : Nat), t] ∧ Tp H t (nats cnt)
theorem RAim.mono {H H' : Hp} (k : Same H H') {v : V} {n : Nat} {cnt : List Nat} (h : RAim H v n cnt) : RAim H' v n cnt := let ⟨t, h1, h2⟩ := h; ⟨t, stp k h1, stp k h2⟩
structure AimOk (bs : List Brd) (n : Nat) (cnt : List Nat) : Prop where
  n : n ≤ 25
  len : cnt.length ≤ 24
  lt : ∀ k ∈ cnt, k < bs.length
/-- the points: one number a board -/
structure PtsOk (bs : List Brd) (pts : List Nat) : Prop where
  len : pts.length = bs.length
  le : ∀ k ∈ pts, k ≤ 1000000000
theorem nats_at {l : List Nat} {i : Nat} {x : V} (h : (nats l)[i]? = some x) : ∃ k, l[i]? = some k ∧ x = .int (k : Nat) := by
  unfold nats at h
  rw [List.getElem?_map] at h
  obtain ⟨k, hk, rfl⟩ := Option.map_eq_some_iff.mp h
  exact ⟨k, hk, rfl⟩
theorem nats_get {l : List Nat} {i : Nat} (h : i < l.length) : (nats l)[i]? = some (.int (l.getD i 0 : Nat)) := by
  unfold nats
  rw [List.getElem?_map, List.getElem?_eq_getElem h, List.getD_eq_getElem?_getD, List.getElem?_eq_getElem h]
  rfl
theorem bit_at (m k : Nat) : decide (V.int (Builtin.bitAnd ((m : Int) / 2 ^ ((k : Int)).toNat) 1) = V.int 1) = m.testBit k := by
  have e : ((m : Int) / 2 ^ ((k : Int)).toNat) = ((m / 2 ^ k : Nat) : Int) := by
    rw [Int.toNat_natCast]
    exact (Int.natCast_ediv m (2 ^ k)).symm ▸ (by rw [Int.natCast_pow]; rfl)
  have ba : Builtin.bitAnd ((m / 2 ^ k : Nat) : Int) 1 = (((m / 2 ^ k) % 2 : Nat) : Int) := by
    rw [bitAnd_pp (Int.natCast_nonneg _) (by decide), Int.toNat_natCast]
    show ((((m / 2 ^ k) &&& 1 : Nat)) : Int) = _
    rw [Nat.and_one_is_mod]
  rw [e, ba, Nat.testBit_eq_decide_div_mod_eq]
  rw [Bool.eq_iff_iff, decide_eq_true_eq, decide_eq_true_eq]
  constructor
  · intro h; injection h with h; omega
  · intro h; rw [h]; rfl
end Ug

/-! points.py, aims.py -/
namespace Ug
open PySem PySem.Spec PyProof.Rows L2
/-- a stock: name, side, points, and the number 1 -/
def RSt (H : Hp) (v : V) (s : Str × Nat × Nat) : Prop := Tp H v [.str s.1, .int (s.2.1 : Nat), .int (s.2.2 : Nat), .int 1]
def RSts (H : Hp) (v : V) (st : List (Str × Nat × Nat)) : Prop := ∃ a ys, v = .ref a ∧ H a = some (.lst ys) ∧ Paired (RSt H) ys st
theorem RSts.mono {H H' : Hp} (k : Same H H') {v : V} {st : List (Str × Nat × Nat)} (h : RSts H v st) : RSts H' v st := let ⟨a, ys, h1, h2, h3⟩ := h; ⟨a, ys, h1, k _ _ h2, pimp (fun _ _ h => stp k h) h3⟩
def stSum (st : List (Str × Nat × Nat)) (nm : Str) (sd : Nat) : Nat := (st.map fun s => if s.1 = nm ∧ s.2.1 = sd then s.2.2 else 0).sum
theorem tg4 {K : PySem.W.Frag} {H : Hp} {v : V} {i j k l : Nat} {x y z u : V} {σ : L2.St} {Q : L2.St → Hp → Prop} (h : Tp H v [x, y, z, u]) (q : Q ((((σ.set i (some x)).set j (some y)).set k (some z)).set l (some u)) H) : gTup K 4 (gCons (gName i) (gCons (gName j) (gCons (gName k) (gCons (gName l) gNil)))) v σ H Q :=
  let ⟨a, ea, t⟩ := h; ⟨a, [x, y, z, u], ea, SqT.of t, rfl, x, [y, z, u], rfl, y, [z, u], rfl, z, [u], rfl, u, [], rfl, rfl, q⟩
section
variable {P : Program} {w : World} {K : PySem.W.Frag} {mg : Str → Option Value} {base : Heap}
abbrev n_check_points : List Str := ["hall", "points", "number"]
theorem sc_check_points : FnScope ["hall", "points", "number"] ["hall", "points"] (defScope s_check_points) := ⟨rfl, rfl, rfl, by decide +kernel, rfl, by decide +kernel, by decide +kernel⟩
theorem ok_check_points (T : Tx K mg) : Dfn P w K mg base 3 "check_points" ["hall", "points"] (fun vs H Q => ∃ (v ptv : V) (bs : List Brd) (nms : List Str) (pts : List Nat), vs = [v, ptv] ∧ RHall K H v bs nms ∧ Tp H ptv (nats pts) ∧ PtsOk bs pts ∧ ∀ H', Same H H' → Q .non H') :=
  Dfn.mk T.f_check_points T.g_check_points sc_check_points (fun _ _ _ _ _ _ us hl => match us, hl with | [_, _], _ => rfl) (fun vs H Q h => by obtain ⟨v, ptv, bs, nms, pts, rfl, _⟩ := h; rfl) fun cdv A outer s0 H vs Q E hr h => by
  obtain ⟨v, ptv, bs, nms, pts, rfl, hh, hp, pok, q⟩ := h
  refine ⟨_, (pss_cons (ps_if (PW.pt (pw_or (pt_not (pt_val (pe_callB (isiA (K := K) rfl) (by rfl) T.b_isinstance (by decide +kernel) (pa_cons (pv 1) (pa_cons (pe_bltn (v := .ty "tuple") (by rfl) T.b_tuple boot_tuple rfl) pa_nil))))) (pw_or1 (pt_cmpR op_ne (pe_callB (lenA (K := K) rfl) (by rfl) T.b_len (by decide +kernel) (pa_cons (pv 1) pa_nil)) (pe_callB (lenA (K := K) rfl) (by rfl) T.b_len (by decide +kernel) (pa_cons (pe_fldA (K := K) rfl tm_var (pv 0) rfl) pa_nil)) (nomark _))))) pss_never pss_nil)
  (pss_one (ps_if (pt_not (pt_val (pe_callB (allA (K := K) rfl rfl) (by rfl) T.b_all (by decide +kernel) (pa_cons (pe_lc (own := [("number", 2)]) (g := (gName 2)) (tt := tYes) rfl sc_check_points.nd (pi_tup (pv 1)) (blkOk_by (own := [("number", 2)]) (N := n_check_points) (sc := defScope s_check_points) (by decide +kernel)) (fun _ _ _ _ _ => (pg_name (i := 2) sc_check_points.nd rfl (Or.inl rfl))) (fun _ _ _ _ _ => pts_nil) (fun _ _ _ _ _ => (pe_c ((ok_is_within T).mono (by decide)) hr (pa_cons (pv 2) (pa_cons pe_int (pa_cons (pe_gI (by rfl) T.c_MOST_POINTS) pa_nil)))))) pa_nil)))) pss_never pss_nil))), ?_⟩
  have ok : BdsOk bs := (let ⟨_, _, _, _, _, _, _, _, h, _⟩ := hh; h)
  obtain ⟨bv, hf, hb⟩ := hh.boards T
  have hp0 := hp
  obtain ⟨a, rfl, ha⟩ := hp0
  refine ⟨_, rfl, _, isi_tt hp, _, rfl, iteF ⟨_, rfl, _, len_t hp, _, rfl, _, hf, _, hb.lenIs, rfl, _, rfl, iteNS (by rw [nats_length, pok.len]) ?_⟩⟩
  refine ⟨_, rfl, a, rfl, ⟨_, SqT.of ha⟩, fun D hD => ?_⟩
  refine lc_all (walk_tup (xs := nats pts)) (by rw [nats_length, pok.len]; have := ok.hi; omega) hD (fun _ _ y => y = V.bl true) (fun _ _ _ _ _ e => e) (fun H2 s2 => sqt s2 (SqT.of ha)) (fun i x H2 H3 Qc hi s2 y k => ?_) fun H2 ys s2 hys hl hat => ⟨_, all_true hys hat, true, by rw [all_rep], iteF (q H2 s2)⟩
  obtain ⟨rfl, hx⟩ := y
  obtain ⟨n, hn, rfl⟩ := nats_at hx
  have hle := pok.le n (List.mem_of_getElem? hn)
  refine ⟨rfl, _, rfl, _, _, _, rfl, .inl ⟨_, rfl, k _ _ (Same.refl _) ?_⟩⟩
  rw [decide_eq_true (show (0 : Int) ≤ n by omega), decide_eq_true (show (n : Int) ≤ 1000000000 by omega)]
  rfl
abbrev n_sum_of : List Str := ["points", "pairing", "one", "other"]
theorem sc_sum_of : FnScope ["points", "pairing", "one", "other"] ["points", "pairing"] (defScope s_sum_of) := ⟨rfl, rfl, rfl, by decide +kernel, rfl, by decide +kernel, by decide +kernel⟩
theorem ok_sum_of (T : Tx K mg) : Dfn P w K mg base 1 "sum_of" ["points", "pairing"] (fun vs H Q => ∃ (v u : V) (pts : List Nat) (p : List (Nat × Nat)), vs = [v, u] ∧ Tp H v (nats pts) ∧ RPg H u p ∧ p.length ≤ 1000 ∧ (∀ q ∈ p, q.1 < pts.length ∧ q.2 < pts.length) ∧ ∀ H', Same H H' → Q (.int (sumMin (fun k => pts.getD k 0) p : Nat)) H') :=
  Dfn.mk T.f_sum_of T.g_sum_of sc_sum_of (fun _ _ _ _ _ _ us hl => match us, hl with | [_, _], _ => rfl) (fun vs H Q h => by obtain ⟨v, u, pts, p, rfl, _⟩ := h; rfl) fun cdv A outer s0 H vs Q E hr h => by
  obtain ⟨v, u, pts, p, rfl, hp, ⟨xs, ⟨a, rfl, ha⟩, hx⟩, hl, hlt, q⟩ := h
  refine ⟨_, (pss_one (ps_ret (pe_callB (sumA (K := K) rfl rfl) (by rfl) T.b_sum (by decide +kernel) (pa_cons (pe_lc (own := [("one", 2), ("other", 3)]) (g := (gTup K 2 (gCons (gName 2) (gCons (gName 3) gNil)))) (tt := tYes) rfl sc_sum_of.nd (pi_tup (pv 1)) (blkOk_by (own := [("one", 2), ("other", 3)]) (N := n_sum_of) (sc := defScope s_sum_of) (by decide +kernel)) (fun _ _ _ _ _ => (pg_tup (by rfl) (pgs_cons (pg_name (i := 2) sc_sum_of.nd rfl (Or.inl rfl)) (pgs_cons (pg_name (i := 3) sc_sum_of.nd rfl (Or.inl rfl)) pgs_nil)))) (fun _ _ _ _ _ => pts_nil) (fun _ _ _ _ _ => (pe_callB (call_min2 rfl) (by rfl) T.b_min (by decide +kernel) (pa_cons (pe_ix (ixA (K := K) rfl) (pv 0) (pv 2) (fun _ _ => rfl)) (pa_cons (pe_ix (ixA (K := K) rfl) (pv 0) (pv 3) (fun _ _ => rfl)) pa_nil))))) pa_nil)))), ?_⟩
  have xl := hx.length
  refine ⟨_, rfl, a, rfl, ⟨_, SqT.of ha⟩, fun D hD => ?_⟩
  refine lc_all (walk_tup (xs := xs)) (by omega) hD (fun _ i y => ∃ b, p[i]? = some b ∧ y = V.int ((min (pts.getD b.1 0) (pts.getD b.2 0) : Nat) : Int)) (fun _ _ _ _ _ e => e) (fun H2 s2 => sqt s2 (SqT.of ha)) (fun i x H2 H3 Qc hi s2 y k => ?_) fun H2 ys s2 hys hl2 hY => ?_
  · obtain ⟨rfl, hxi⟩ := y
    obtain ⟨b, hb, r⟩ := paired_get hx hxi
    have r := r.mono (Same.tk s2)
    have hp2 := stp s2 hp
    obtain ⟨l1, l2⟩ := hlt b (List.mem_of_getElem? hb)
    refine tg2 r ⟨rfl, _, rfl, _, rfl, _, ix_t hp2 (nats_get l1), _, rfl, _, rfl, _, ix_t hp2 (nats_get l2), _, _, rfl, k _ _ (Same.refl _) ⟨b, hb, ?_⟩⟩
    rw [min_if]
  · have e : ys = ((p.map fun b => min (pts.getD b.1 0) (pts.getD b.2 0)).map fun n : Nat => (n : Int)).map V.int := by
      refine List.ext_getElem? fun j => ?_
      rw [List.getElem?_map, List.getElem?_map, List.getElem?_map]
      cases e : ys[j]? with
      | none =>
        have : p.length ≤ j := by rw [← xl, ← hl2]; exact List.getElem?_eq_none_iff.mp e
        rw [List.getElem?_eq_none this]; rfl
      | some y =>
        obtain ⟨b, h1, h2⟩ := hY j y e
        rw [h1, h2]; rfl
    refine ⟨_, ⟨D, rfl, SqL.of (by rw [hys, e])⟩, ?_⟩
    rw [sum_nat]
    exact q H2 s2
abbrev n_most_points : List Str := ["hall", "points", "best", "pairing", "number"]
theorem sc_most_points : FnScope ["hall", "points", "best", "pairing", "number"] ["hall", "points"] (defScope s_most_points) := ⟨rfl, rfl, rfl, by decide +kernel, rfl, by decide +kernel, by decide +kernel⟩
theorem ok_most_points (T : Tx K mg) : Dfn P w K mg base 14 "most_points" ["hall", "points"] (fun vs H Q => ∃ (v ptv : V) (bs : List Brd) (nms : List Str) (pts : List Nat), vs = [v, ptv] ∧ RHall K H v bs nms ∧ Tp H ptv (nats pts) ∧ PtsOk bs pts ∧
    ∀ H' r u L p, Same H H' → Tp H' r [.int (sumMin (fun k => pts.getD k 0) p : Nat), u] → RPg H' u p → Greatest bs nms L → p ∈ L → (∀ q ∈ L, sumMin (fun k => pts.getD k 0) q ≤ sumMin (fun k => pts.getD k 0) p) → Q r H') :=
  Dfn.mk T.f_most_points T.g_most_points sc_most_points (fun _ _ _ _ _ _ us hl => match us, hl with | [_, _], _ => rfl) (fun vs H Q h => by obtain ⟨v, ptv, bs, nms, pts, rfl, _⟩ := h; rfl) fun cdv A outer s0 H vs Q E hr h => by
  obtain ⟨v, ptv, bs, nms, pts, rfl, hh, hp, pok, q⟩ := h
  refine ⟨_, (pss_cons (ps_expr (pe_c ((ok_check_points T).mono (by decide)) hr (pa_cons (pv 0) (pa_cons (pv 1) pa_nil))))
  (pss_cons (ps_set (i := 2) sc_most_points.nd rfl (Or.inl rfl) pe_non)
  (pss_cons (ps_for PassesOwn.never rfl (pi_list (pe_c ((ok_pairings T).mono (by decide)) hr (pa_cons (pv 0) pa_nil))) (pg_name (i := 3) sc_most_points.nd rfl (Or.inl rfl))
    (pss_cons (ps_set (i := 4) sc_most_points.nd rfl (Or.inl rfl) (pe_c ((ok_sum_of T).mono (by decide)) hr (pa_cons (pv 1) (pa_cons (pv 3) pa_nil))))
    (pss_one (ps_if (PW.pt (pw_or (pt_cmpR op_isN (pv 2) pe_non (nomark _)) (pw_or1 (pt_cmpR op_gt (pv 4) (pe_ix (ixA (K := K) rfl) (pv 2) pe_int (fun _ _ => rfl)) (nomark _)))))
      (pss_one (ps_set (i := 2) sc_most_points.nd rfl (Or.inl rfl) (pe_tup (pa_cons (pv 4) (pa_cons (pv 3) pa_nil))))) pss_nil))))
  (pss_one (ps_ret (pv 2)))))), ?_⟩
  have ok : BdsOk bs := (let ⟨_, _, _, _, _, _, _, _, h, _⟩ := hh; h)
  have nok : NamesOk bs nms := (let ⟨_, _, _, _, _, _, _, _, _, h⟩ := hh; h)
  have h8 := ok.hi
  refine ⟨_, rfl, _, rfl, _, _, bs, nms, pts, rfl, hh, hp, pok, fun H1 s1 => ?_⟩
  refine ⟨_, rfl, _, bs, nms, rfl, hh.mono s1, fun H2 r L s2 hL hg => ?_⟩
  obtain ⟨la, ys, rfl, hla, hys⟩ := hL
  have s12 := s1.trans s2
  have yl := hys.length
  have Ll : L.length ≤ 764 := by rw [hg.len]; exact prods_764 bs h8 nok.nd
  refine ⟨la, rfl, ⟨_, SqL.of hla⟩, ?_⟩
  let sm : List (Nat × Nat) → Nat := sumMin (fun k => pts.getD k 0)
  refine for_it (walk_list (xs := ys)) (fun i σ H3 => Same H2 H3 ∧ ∃ bv x y, σ = [some v, some ptv, some bv, x, y] ∧ ((i = 0 ∧ bv = .non) ∨ ∃ u p, Tp H3 bv [.int (sm p : Nat), u] ∧ RPg H3 u p ∧ p ∈ L ∧ ∀ q ∈ L.take i, sm q ≤ sm p)) ⟨Same.refl _, .non, _, _, rfl, .inl ⟨rfl, rfl⟩⟩ (fun i σ H3 _ h => sql h.1 (SqL.of hla)) (fun i x σ H3 H4 hi h y => ?_) fun σ H3 h => ?_
  · obtain ⟨s3, bv, x0, y0, rfl, hbest⟩ := h
    obtain ⟨rfl, hx⟩ := y
    obtain ⟨b, hb, r⟩ := paired_get hys hx
    have r3 := r.mono (Same.tk s3)
    have hbL := List.mem_of_getElem? hb
    have pg := (hg.pg nok.nd b hbL).ok
    have plen := pg.len
    refine ⟨_, rfl, _, rfl, _, _, pts, b, rfl, stp (s12.trans s3) hp, r3, by omega, fun q hq => ?_, fun H5 s5 => ?_⟩
    · have := pg.lt q hq
      rw [pok.len]
      omega
    have s35 := s3.trans s5
    have tk := take_snoc hb
    -- the new best
    have put : ∀ {bv : V}, (∀ q ∈ L.take i, sm q ≤ sm b) → ∀ t, H5 t = none → Same H2 (upd H5 t (.tup [.int (sm b : Nat), x])) ∧ ∃ bv' x' y', ([some v, some ptv, some (.ref t), some x, some (.int (sm b : Nat))] : L2.St) = [some v, some ptv, some bv', x', y'] ∧ ((i + 1 = 0 ∧ bv' = .non) ∨ ∃ u p, Tp (upd H5 t (.tup [.int (sm b : Nat), x])) bv' [.int (sm p : Nat), u] ∧ RPg (upd H5 t (.tup [.int (sm b : Nat), x])) u p ∧ p ∈ L ∧ ∀ q ∈ L.take (i + 1), sm q ≤ sm p) := fun {bv} hle t nt =>
      ⟨s35.trans (Same.new nt), _, _, _, rfl, .inr ⟨x, b, ⟨t, rfl, upd_same⟩, r3.mono ((Same.tk s5).trans (Tk.new nt)), hbL, fun q hq => by
        rw [tk] at hq
        rcases List.mem_append.mp hq with hq | hq
        · exact hle q hq
        · rw [List.mem_singleton.mp hq]; exact Nat.le_refl _⟩⟩
    rcases hbest with ⟨i0, rfl⟩ | ⟨u, p, hbt, hup, hpL, hall⟩
    · subst i0
      refine ⟨_, rfl, rfl, _, rfl, iteC rfl ⟨_, rfl, _, rfl, two_le, fun t nt => ?_⟩⟩
      exact put (bv := .non) (fun q hq => by rw [List.take_zero] at hq; cases hq) t nt
    · have nn : ¬ bv = V.non := by
        obtain ⟨a, rfl, _⟩ := hbt
        intro z; cases z
      have hbt5 := stp s5 hbt
      refine ⟨_, rfl, rfl, _, rfl, iteCN nn ⟨_, rfl, _, rfl, _, ix_0 hbt5, _, _, rfl, rfl, _, rfl, ite2 (fun c => ?_) fun c => ?_⟩⟩
      · have c : sm p < sm b := by
          have c : ((sumMin (fun k => pts.getD k 0) b : Nat) : Int) > ((sumMin (fun k => pts.getD k 0) p : Nat) : Int) := of_decide_eq_true c
          show sumMin (fun k => pts.getD k 0) p < sumMin (fun k => pts.getD k 0) b
          omega
        exact ⟨_, rfl, _, rfl, two_le, fun t nt => put (bv := bv) (fun q hq => Nat.le_trans (hall q hq) (Nat.le_of_lt c)) t nt⟩
      · have c : sm b ≤ sm p := by
          refine Nat.le_of_not_lt fun z => c (decide_eq_true ?_)
          have z : sumMin (fun k => pts.getD k 0) p < sumMin (fun k => pts.getD k 0) b := z
          show (sumMin (fun k => pts.getD k 0) b : Int) > (sm p : Nat)
          show (sumMin (fun k => pts.getD k 0) b : Int) > (sumMin (fun k => pts.getD k 0) p : Nat)
          omega
        refine ⟨s35, bv, _, _, rfl, .inr ⟨u, p, hbt5, hup.mono (Same.tk s5), hpL, fun q hq => ?_⟩⟩
        rw [tk] at hq
        rcases List.mem_append.mp hq with hq | hq
        · exact hall q hq
        · rw [List.mem_singleton.mp hq]; exact c
  · obtain ⟨s3, bv, x0, y0, rfl, hbest⟩ := h
    rcases hbest with ⟨i0, _⟩ | ⟨u, p, hbt, hup, hpL, hall⟩
    · exact absurd (List.eq_nil_of_length_eq_zero (by omega)) hg.some
    · rw [yl, List.take_length] at hall
      exact ⟨_, rfl, q H3 _ u L p (s12.trans s3) hbt hup hg hpL hall⟩
abbrev n_names_of : List Str := ["stocks", "name", "side", "points", "number"]
theorem sc_names_of : FnScope ["stocks", "name", "side", "points", "number"] ["stocks"] (defScope s_names_of) := ⟨rfl, rfl, rfl, by decide +kernel, rfl, by decide +kernel, by decide +kernel⟩
theorem ok_names_of (T : Tx K mg) : Dfn P w K mg base 1 "names_of" ["stocks"] (fun vs H Q => ∃ (v : V) (st : List (Str × Nat × Nat)), vs = [v] ∧ RSts H v st ∧ st.length ≤ 1000 ∧ ∀ H' (p : Addr) (ys : List Str), Same H H' → H' p = some (.lst (ys.map V.str)) → ys.Nodup → (∀ n, n ∈ ys ↔ n ∈ st.map (·.1)) → ys.length ≤ st.length → Q (.ref p) H') :=
  Dfn.mk T.f_names_of T.g_names_of sc_names_of (fun _ _ _ _ _ _ us hl => match us, hl with | [_], _ => rfl) (fun vs H Q h => by obtain ⟨v, st, rfl, _⟩ := h; rfl) fun cdv A outer s0 H vs Q E hr h => by
  obtain ⟨v, st, rfl, ⟨a, ys, rfl, ha, hys⟩, hl, q⟩ := h
  refine ⟨_, (pss_one (ps_ret (pe_callB (cr_sortS rfl (by have := hr.units; exact Nat.lt_of_le_of_lt (Nat.add_le_add_left (by decide : 3 ≤ 64) _) this)) (by rfl) T.b_sorted (by decide +kernel) (pa_cons (pe_scS (own := [("name", 1), ("side", 2), ("points", 3), ("number", 4)]) (g := (gTup K 4 (gCons (gName 1) (gCons (gName 2) (gCons (gName 3) (gCons (gName 4) gNil)))))) rfl sc_names_of.nd (pi_list (pv 0)) (blkOk_by (own := [("name", 1), ("side", 2), ("points", 3), ("number", 4)]) (N := n_names_of) (sc := defScope s_names_of) (by decide +kernel)) (fun _ _ _ _ _ => (pg_tup (by rfl) (pgs_cons (pg_name (i := 1) sc_names_of.nd rfl (Or.inl rfl)) (pgs_cons (pg_name (i := 2) sc_names_of.nd rfl (Or.inl rfl)) (pgs_cons (pg_name (i := 3) sc_names_of.nd rfl (Or.inl rfl)) (pgs_cons (pg_name (i := 4) sc_names_of.nd rfl (Or.inl rfl)) pgs_nil)))))) (fun _ _ _ _ _ => (pv 1))) pa_nil)))), ?_⟩
  have yl := hys.length
  refine ⟨_, rfl, a, rfl, ⟨_, SqL.of ha⟩, fun D hD => ?_⟩
  refine sc_txt (w := w) (walk_list (xs := ys)) hD (st.map (·.1)) (by rw [List.length_map, yl]) (by omega) (gm_tup (gm_cons gm_name (gm_cons gm_name (gm_cons gm_name (gm_cons gm_name gm_nil))))) (fun H2 s2 => sql s2 (SqL.of ha)) (fun i x H2 H3 b hb s2 y => ?_) fun H2 xs s2 hx nd mem xl => ?_
  · obtain ⟨rfl, hxi⟩ := y
    obtain ⟨s, hs, r⟩ := paired_get hys hxi
    rw [List.getElem?_map, hs] at hb
    cases hb
    exact tg4 (stp s2 r) ⟨rfl, fun Qc k => ⟨_, rfl, k _ (Same.refl _)⟩⟩
  · refine ⟨D, xs, rfl, hx, by omega, fun zs p perm np => q _ p zs (s2.trans (Same.new np)) upd_same (perm.nodup_iff.mpr nd) (fun n => by rw [perm.mem_iff, mem]) (by rw [perm.length_eq]; omega)⟩
abbrev n_met_of : List Str := ["stocks", "found", "name", "sums", "other", "side", "points", "number"]
theorem sc_met_of : FnScope ["stocks", "found", "name", "sums", "other", "side", "points", "number"] ["stocks"] (defScope s_met_of) := ⟨rfl, rfl, rfl, by decide +kernel, rfl, by decide +kernel, by decide +kernel⟩
theorem ok_met_of (T : Tx K mg) : Dfn P w K mg base 2 "met_of" ["stocks"] (fun vs H Q => ∃ (v : V) (st : List (Str × Nat × Nat)), vs = [v] ∧ RSts H v st ∧ st.length ≤ 1000 ∧ (∀ s ∈ st, s.2.1 < 2 ∧ s.2.2 ≤ 1000000000) ∧
    ∀ H' (ys : List Str), Same H H' → ys.Nodup → (∀ n, n ∈ ys ↔ n ∈ st.map (·.1)) → Q (.int ((ys.map fun nm => min (stSum st nm 0) (stSum st nm 1)).sum : Nat)) H') :=
  Dfn.mk T.f_met_of T.g_met_of sc_met_of (fun _ _ _ _ _ _ us hl => match us, hl with | [_], _ => rfl) (fun vs H Q h => by obtain ⟨v, st, rfl, _⟩ := h; rfl) fun cdv A outer s0 H vs Q E hr h => by
  obtain ⟨v, st, rfl, hst, hl, hok, q⟩ := h
  obtain ⟨a, ys, rfl, ha, hys⟩ := id hst
  refine ⟨_, (pss_cons (ps_set (i := 1) sc_met_of.nd rfl (Or.inl rfl) pe_int)
  (pss_cons (ps_for PassesOwn.never rfl (pi_list (pe_c ((ok_names_of T).mono (by decide)) hr (pa_cons (pv 0) pa_nil))) (pg_name (i := 2) sc_met_of.nd rfl (Or.inl rfl))
    (pss_cons (ps_set (i := 3) sc_met_of.nd rfl (Or.inl rfl) (pe_lst (pa_cons pe_int (pa_cons pe_int pa_nil))))
    (pss_cons (ps_for PassesOwn.never rfl (pi_list (pv 0)) (pg_tup (by rfl) (pgs_cons (pg_name (i := 4) sc_met_of.nd rfl (Or.inl rfl)) (pgs_cons (pg_name (i := 5) sc_met_of.nd rfl (Or.inl rfl)) (pgs_cons (pg_name (i := 6) sc_met_of.nd rfl (Or.inl rfl)) (pgs_cons (pg_name (i := 7) sc_met_of.nd rfl (Or.inl rfl)) pgs_nil)))))
      (pss_one (ps_if (pt_cmpR op_eq (pv 4) (pv 2) (nomark _))
        (pss_one (ps_augS (pv 3) (pv 5) pget_list (pe_op op_mul (pv 6) (pv 7)) ip_add set_list)) pss_nil)))
    (pss_one (ps_aug (i := 1) sc_met_of.nd rfl (Or.inl rfl) (pe_callB (minA (K := K) rfl rfl) (by rfl) T.b_min (by decide +kernel) (pa_cons (pv 3) pa_nil)) ip_add)))))
  (pss_one (ps_ret (pv 1))))), ?_⟩
  have yl := hys.length
  refine ⟨_, rfl, _, st, rfl, hst, hl, fun H1 np ns s1 hnp nnd nmem nlen => ?_⟩
  refine ⟨np, rfl, ⟨_, SqL.of hnp⟩, ?_⟩
  refine for_it (walk_list (xs := ns.map V.str)) (fun i σ H2 => Same H1 H2 ∧ ∃ x y z u p n, σ = [some (.ref a), some (.int (((ns.take i).map fun nm => min (stSum st nm 0) (stSum st nm 1)).sum : Nat)), x, y, z, u, p, n]) ⟨Same.refl _, _, _, _, _, _, _, rfl⟩ (fun i σ H2 _ h => sql h.1 (SqL.of hnp)) (fun i x σ H2 H3 hi h y => ?_) fun σ H2 h => ?_
  · obtain ⟨s2, x1, x2, x3, x4, x5, x6, rfl⟩ := h
    obtain ⟨rfl, hx⟩ := y
    rw [List.getElem?_map] at hx
    obtain ⟨nm, hnm, rfl⟩ := Option.map_eq_some_iff.mp hx
    refine ⟨two_le, fun sp nsp => ?_⟩
    have s3 : Same H1 (upd H3 sp (.lst [.int 0, .int 0])) := s2.trans (Same.new nsp)
    have hsp : (upd H3 sp (.lst [.int 0, .int 0])) sp = some (.lst [.int 0, .int 0]) := upd_same
    have H1sp : H1 sp = none := by
      cases e : H1 sp with
      | none => rfl
      | some o => have := s2 _ _ e; rw [nsp] at this; cases this
    generalize upd H3 sp (.lst [.int 0, .int 0]) = H4 at s3 hsp
    refine ⟨_, rfl, a, rfl, ⟨_, SqL.of (s3 _ _ (s1 _ _ ha))⟩, ?_⟩
    refine for_it (walk_list (xs := ys)) (fun j σ H5 => Same H1 H5 ∧ ∃ z u p n, σ = [some (.ref a), some (.int (((ns.take i).map fun nm => min (stSum st nm 0) (stSum st nm 1)).sum : Nat)), some (.str nm), some (.ref sp), z, u, p, n] ∧ H5 sp = some (.lst [.int (stSum (st.take j) nm 0 : Nat), .int (stSum (st.take j) nm 1 : Nat)])) ⟨s3, _, _, _, _, rfl, hsp⟩ (fun j σ H5 _ h => SqL.of ((s1.trans h.1) _ _ ha)) (fun j x σ H5 H6 hj h y => ?_) fun σ H5 h => ?_
    · obtain ⟨s5, y1, y2, y3, y4, rfl, hsp5⟩ := h
      obtain ⟨rfl, hxj⟩ := y
      obtain ⟨s, hs, r⟩ := paired_get hys hxj
      obtain ⟨sd2, ple⟩ := hok s (List.mem_of_getElem? hs)
      have sums : ∀ k, stSum (st.take (j + 1)) nm k = stSum (st.take j) nm k + (if s.1 = nm ∧ s.2.1 = k then s.2.2 else 0) := fun k => by
        unfold stSum
        rw [take_snoc hs, List.map_append, List.sum_append]
        simp
      refine tg4 (stp (s1.trans s5) r) ⟨_, rfl, _, rfl, rfl, _, rfl, ite2 (fun c => ?_) fun c => ?_⟩
      · rw [str_dec] at c
        have c : s.1 = nm := of_decide_eq_true c
        have h0 : ([V.int (stSum (st.take j) nm 0 : Nat), V.int (stSum (st.take j) nm 1 : Nat)] : List V)[((s.2.1 : Nat) : Int).toNat]? = some (.int (stSum (st.take j) nm s.2.1 : Nat)) := by
          rw [Int.toNat_natCast]
          rcases (show s.2.1 = 0 ∨ s.2.1 = 1 by omega) with e | e <;> rw [e] <;> rfl
        have ex : ixN 2 ((s.2.1 : Nat) : Int) = some s.2.1 := by
          rcases (show s.2.1 = 0 ∨ s.2.1 = 1 by omega) with e | e <;> rw [e] <;> rfl
        refine ⟨_, rfl, _, rfl, sp, _, _, _, rfl, rfl, SqL.of hsp5, Int.natCast_nonneg _, h0, _, rfl, _, rfl, _, _, rfl, rfl, .inl ⟨by omega, by omega⟩, _, _, rfl, rfl, sp, _, _, s.2.1, rfl, rfl, hsp5, ex, ?_⟩
        refine ⟨sput H1sp s5, _, _, _, _, rfl, ?_⟩
        rw [upd_same, sums, sums]
        have e1 : (stSum (st.take j) nm s.2.1 : Int) + (s.2.2 : Int) * 1 = ((stSum (st.take j) nm s.2.1 + s.2.2 : Nat) : Int) := by omega
        show some (HO.lst ([V.int (stSum (st.take j) nm 0 : Nat), V.int (stSum (st.take j) nm 1 : Nat)].set s.2.1 (V.int ((stSum (st.take j) nm s.2.1 : Int) + (s.2.2 : Int) * 1)))) = _
        rw [e1]
        rcases (show s.2.1 = 0 ∨ s.2.1 = 1 by omega) with e | e
        · rw [if_pos ⟨c, e⟩, if_neg (fun z => by omega), e]; rfl
        · rw [if_neg (fun z => by omega), if_pos ⟨c, e⟩, e]; rfl
      · rw [str_dec] at c
        have c : ¬ s.1 = nm := fun z => c (decide_eq_true z)
        refine ⟨s5, _, _, _, _, rfl, ?_⟩
        rw [sums, sums, if_neg (fun z => c z.1), if_neg (fun z => c z.1)]
        exact hsp5
    · obtain ⟨s5, y1, y2, y3, y4, rfl, hsp5⟩ := h
      rw [yl, List.take_length] at hsp5
      have e2 : ((((ns.take (i + 1)).map fun nm => min (stSum st nm 0) (stSum st nm 1)).sum : Nat) : Int) = ((((ns.take i).map fun nm => min (stSum st nm 0) (stSum st nm 1)).sum : Nat) : Int) + (if ((stSum st nm 1 : Nat) : Int) < ((stSum st nm 0 : Nat) : Int) then ((stSum st nm 1 : Nat) : Int) else ((stSum st nm 0 : Nat) : Int)) := by
        rw [take_snoc hnm, List.map_append, List.sum_append, min_if]
        simp
      refine ⟨_, rfl, _, rfl, _, _, ⟨sp, rfl, SqL.of hsp5⟩, _, _, rfl, rfl, s5, some (.str nm), some (.ref sp), y1, y2, y3, y4, ?_⟩
      rw [e2]
      rfl
  · obtain ⟨s2, x1, x2, x3, x4, x5, x6, rfl⟩ := h
    rw [List.length_map, List.take_length]
    exact ⟨_, rfl, q H2 ns (s1.trans s2) nnd nmem⟩
abbrev n_met_points : List Str := ["hall", "points", "name", "side", "begun", "number"]
theorem sc_met_points : FnScope ["hall", "points", "name", "side", "begun", "number"] ["hall", "points"] (defScope s_met_points) := ⟨rfl, rfl, rfl, by decide +kernel, rfl, by decide +kernel, by decide +kernel⟩
theorem ok_met_points (T : Tx K mg) : Dfn P w K mg base 4 "met_points" ["hall", "points"] (fun vs H Q => ∃ (v ptv : V) (bs : List Brd) (nms : List Str) (pts : List Nat), vs = [v, ptv] ∧ RHall K H v bs nms ∧ (∀ b ∈ bs, b.rw = []) ∧ Tp H ptv (nats pts) ∧ PtsOk bs pts ∧ ∀ H', Same H H' → Q (.int (metOf bs pts nms : Nat)) H') :=
  Dfn.mk T.f_met_points T.g_met_points sc_met_points (fun _ _ _ _ _ _ us hl => match us, hl with | [_, _], _ => rfl) (fun vs H Q h => by obtain ⟨v, ptv, bs, nms, pts, rfl, _⟩ := h; rfl) fun cdv A outer s0 H vs Q E hr h => by
  obtain ⟨v, ptv, bs, nms, pts, rfl, hh, hfr, hp, pok, q⟩ := h
  refine ⟨_, (pss_cons (ps_if (pt_not (pt_val (pe_c ((ok_is_fresh T).mono (by decide)) hr (pa_cons (pv 0) pa_nil)))) pss_never pss_nil)
  (pss_cons (ps_expr (pe_c ((ok_check_points T).mono (by decide)) hr (pa_cons (pv 0) (pa_cons (pv 1) pa_nil))))
  (pss_one (ps_ret (pe_c ((ok_met_of T).mono (by decide)) hr (pa_cons (pe_lc (own := [("number", 5), ("name", 2), ("side", 3), ("begun", 4)]) (g := (gTup K 2 (gCons (gTup K 3 (gCons (gName 2) (gCons (gName 3) (gCons (gName 4) gNil)))) (gCons (gName 5) gNil)))) (tt := tYes) rfl sc_met_points.nd (RZ.pi_zipA (by rfl) T.b_zip (pa_cons (pe_fldA (K := K) rfl tm_var (pv 0) rfl) (pa_cons (pv 1) pa_nil))) (blkOk_by (own := [("number", 5), ("name", 2), ("side", 3), ("begun", 4)]) (N := n_met_points) (sc := defScope s_met_points) (by decide +kernel)) (fun _ _ _ _ _ => (pg_tup (by rfl) (pgs_cons (pg_tup (by rfl) (pgs_cons (pg_name (i := 2) sc_met_points.nd rfl (Or.inl rfl)) (pgs_cons (pg_name (i := 3) sc_met_points.nd rfl (Or.inl rfl)) (pgs_cons (pg_name (i := 4) sc_met_points.nd rfl (Or.inl rfl)) pgs_nil)))) (pgs_cons (pg_name (i := 5) sc_met_points.nd rfl (Or.inl rfl)) pgs_nil)))) (fun _ _ _ _ _ => pts_nil) (fun _ _ _ _ _ => (pe_tup (pa_cons (pv 2) (pa_cons (pv 3) (pa_cons (pv 5) (pa_cons pe_int pa_nil))))))) pa_nil)))))), ?_⟩
  have ok : BdsOk bs := (let ⟨_, _, _, _, _, _, _, _, h, _⟩ := hh; h)
  have nok : NamesOk bs nms := (let ⟨_, _, _, _, _, _, _, _, _, h⟩ := hh; h)
  have h8 := ok.hi
  refine ⟨_, rfl, _, bs, nms, rfl, hh, hfr, fun H1 s1 => ⟨_, rfl, iteF ⟨_, rfl, _, rfl, _, _, bs, nms, pts, rfl, hh.mono s1, stp s1 hp, pok, fun H2 s2 => ?_⟩⟩⟩
  have s12 := s1.trans s2
  obtain ⟨bv, hf, hb⟩ := (hh.mono s12).boards T
  obtain ⟨xs, ⟨t, rfl, ht⟩, hx⟩ := hb
  have xl := hx.length
  obtain ⟨pa, rfl, hpa⟩ := stp s12 hp
  refine ⟨_, rfl, _, hf, _, rfl, t, pa, xs, nats pts, rfl, .inr ⟨SqT.of ht, SqT.of hpa, fun D hD => ?_⟩⟩
  have nl : (nats pts).length = bs.length := by rw [nats_length, pok.len]
  refine lc_all (walk_zipT (n := bs.length) (by rw [xl, nl, Nat.min_self])) (by omega) hD (fun H i y => ∃ s, ((List.range bs.length).map fun k => ((bAt bs k).nm, (bAt bs k).sd, pts.getD k 0))[i]? = some s ∧ RSt H y s) (fun H H' i y k h => h.imp fun s h => ⟨h.1, Tp.mono h.2 k⟩) (fun H3 s3 => ⟨sqt s3 (SqT.of ht), sqt s3 (SqT.of hpa)⟩) (fun i x H3 H4 Qc hi s3 y k => ?_) fun H3 ys s3 hys hl hY => ?_
  · obtain ⟨T1, y1, y2, rfl, nT, rfl, hy1, hy2⟩ := y
    have hy1 : xs[i]? = some y1 := hy1
    have hy2 : (nats pts)[i]? = some y2 := hy2
    obtain ⟨b, hb, r⟩ := paired_get hx hy1
    rw [nats_get (by rw [pok.len]; exact hi)] at hy2
    cases hy2
    have s4 : Same H3 (upd H3 T1 (.tup [y1, .int (pts.getD i 0 : Nat)])) := Same.new nT
    obtain ⟨rr, hr1, hr2⟩ := r.mono (Same.tk (s3.trans s4))
    have hr1 := hr1
    refine ⟨T1, _, rfl, SqT.of upd_same, rfl, _, _, rfl, tg3 hr1 ⟨_, _, rfl, rfl, rfl, _, rfl, _, rfl, _, rfl, room_le1 (by simp), fun T2 n2 => k _ _ (s4.trans (Same.new n2)) ⟨(b.nm, b.sd, pts.getD i 0), ?_, ⟨T2, rfl, upd_same⟩⟩⟩⟩
    rw [List.getElem?_map, List.getElem?_range hi, ← bAt_get hb]
    rfl
  · obtain ⟨M, hM, hG⟩ := listed (R := RSt H3) (G := fun i s => ((List.range bs.length).map fun k => ((bAt bs k).nm, (bAt bs k).sd, pts.getD k 0))[i]? = some s) fun i y h => (let ⟨s, a, b⟩ := hY i y h; ⟨s, b, a⟩)
    have eM : M = (List.range bs.length).map fun k => ((bAt bs k).nm, (bAt bs k).sd, pts.getD k 0) := by
      refine List.ext_getElem? fun j => ?_
      cases e : M[j]? with
      | none =>
        have h1 := List.getElem?_eq_none_iff.mp e
        rw [← hM.length, hl] at h1
        rw [List.getElem?_eq_none (by rw [List.length_map, List.length_range]; exact h1)]
      | some s => exact (hG j s e).symm
    rw [eM] at hM
    have Ml : ((List.range bs.length).map fun k => ((bAt bs k).nm, (bAt bs k).sd, pts.getD k 0)).length = bs.length := by rw [List.length_map, List.length_range]
    refine ⟨_, _, rfl, ⟨D, ys, rfl, hys, hM⟩, by omega, fun s hs => ?_, fun H4 ns s4 nnd nmem => ?_⟩
    · obtain ⟨k, hk, rfl⟩ := List.mem_map.mp hs
      have hk := List.mem_range.mp hk
      refine ⟨(ok.bAt hk).sd, ?_⟩
      show pts.getD k 0 ≤ _
      have hkp : k < pts.length := by rw [pok.len]; exact hk
      rw [List.getD_eq_getElem?_getD, List.getElem?_eq_getElem hkp]
      exact pok.le _ (List.getElem_mem hkp)
    · have e1 : ∀ nm sd, stSum ((List.range bs.length).map fun k => ((bAt bs k).nm, (bAt bs k).sd, pts.getD k 0)) nm sd = sideSum bs pts nm sd := fun nm sd => by
        unfold stSum sideSum
        rw [List.map_map]
        rfl
      have e2 : ns.Perm nms := (List.perm_ext_iff_of_nodup nnd nok.nd).mpr fun n => by
        rw [nmem, nok.mem, List.map_map, List.mem_map]
        constructor
        · rintro ⟨k, hk, e⟩
          exact ⟨bAt bs k, bAt_mem (List.mem_range.mp hk), e⟩
        · rintro ⟨b, hb, e⟩
          obtain ⟨k, hk, rfl⟩ := List.getElem_of_mem hb
          exact ⟨k, List.mem_range.mpr hk, by rw [← e]; show (bAt bs k).nm = _; rw [bAt_get (List.getElem?_eq_getElem hk)]⟩
      have e3 : (ns.map fun nm => min (stSum ((List.range bs.length).map fun k => ((bAt bs k).nm, (bAt bs k).sd, pts.getD k 0)) nm 0) (stSum ((List.range bs.length).map fun k => ((bAt bs k).nm, (bAt bs k).sd, pts.getD k 0)) nm 1)).sum = metOf bs pts nms := by
        rw [← metOf_perm (bs := bs) (pts := pts) e2]
        unfold metOf
        congr 1
        exact List.map_congr_left fun nm _ => by rw [e1, e1]
      rw [e3]
      exact q H4 (s12.trans (s3.trans s4))
end
end Ug

/-! aims.py -/
namespace Ug
open PySem PySem.Spec PyProof.Rows L2
theorem nin23 : (3 ∈ [2, 3]) := by decide
section
variable {P : Program} {w : World} {K : PySem.W.Frag} {mg : Str → Option Value} {base : Heap}
abbrev n_aims_in : List Str := ["thing"]
theorem sc_aims_in : FnScope ["thing"] ["thing"] (defScope s_aims_in) := ⟨rfl, rfl, rfl, by decide +kernel, rfl, by decide +kernel, by decide +kernel⟩
theorem ok_aims_in (T : Tx K mg) : Dfn P w K mg base 3 "aims_in" ["thing"] (fun vs H Q => ∃ (v t : V) (n : Nat) (cnt : List Nat), vs = [v] ∧ Tp H v [.str "least", .int (n : Nat), t] ∧ Tp H t (nats cnt) ∧ n ≤ 25 ∧ cnt.length ≤ 24 ∧ ∀ H', Same H H' → Q t H') :=
  Dfn.mk T.f_aims_in T.g_aims_in sc_aims_in (fun _ _ _ _ _ _ us hl => match us, hl with | [_], _ => rfl) (fun vs H Q h => by obtain ⟨v, t, n, cnt, rfl, _⟩ := h; rfl) fun cdv A outer s0 H vs Q E hr h => by
  obtain ⟨v, t, n, cnt, rfl, hv, ht, hn, hl, q⟩ := h
  refine ⟨_, (pss_cons (ps_if (PW.pt (pw_or (pt_not (pt_val (pe_callB (isiA (K := K) rfl) (by rfl) T.b_isinstance (by decide +kernel) (pa_cons (pv 0) (pa_cons (pe_bltn (v := .ty "tuple") (by rfl) T.b_tuple boot_tuple rfl) pa_nil))))) (pw_or (pt_cmpR (notInA (K := K) rfl) (pe_callB (lenA (K := K) rfl) (by rfl) T.b_len (by decide +kernel) (pa_cons (pv 0) pa_nil)) (pe_tup (pa_cons pe_int (pa_cons pe_int pa_nil))) rfl) (pw_or1 (pt_not (pt_val (pe_callB (isiA (K := K) rfl) (by rfl) T.b_isinstance (by decide +kernel) (pa_cons (pe_ix (ixA (K := K) rfl) (pv 0) pe_int (fun _ _ => rfl)) (pa_cons (pe_bltn (v := .ty "str") (by rfl) T.b_str boot_str rfl) pa_nil))))))))) pss_never pss_nil)
  (pss_cons (ps_if (PW.pt (pw_and (pt_cmpR op_eq (pe_callB (lenA (K := K) rfl) (by rfl) T.b_len (by decide +kernel) (pa_cons (pv 0) pa_nil)) pe_int (nomark _)) (pw_and1 (pt_cmpR op_notIn_seq (pe_ix (ixA (K := K) rfl) (pv 0) pe_int (fun _ _ => rfl)) (pe_tup (pa_cons pe_str (pa_cons pe_str pa_nil))) rfl)))) pss_never pss_nil)
  (pss_cons (ps_if (PW.pt (pw_and (pt_cmpR op_eq (pe_callB (lenA (K := K) rfl) (by rfl) T.b_len (by decide +kernel) (pa_cons (pv 0) pa_nil)) pe_int (nomark _)) (pw_and1 (PW.pt (pw_or (pt_cmpR op_ne (pe_ix (ixA (K := K) rfl) (pv 0) pe_int (fun _ _ => rfl)) pe_str (nomark _)) (pw_or1 (pt_not (pt_val (pe_c ((ok_is_within T).mono (by decide)) hr (pa_cons (pe_ix (ixA (K := K) rfl) (pv 0) pe_int (fun _ _ => rfl)) (pa_cons pe_int (pa_cons (pe_gI (by rfl) T.c_MOST_LEAST) pa_nil)))))))))))) pss_never pss_nil)
  (pss_cons (ps_if (PW.pt (pw_or (pt_not (pt_val (pe_callB (isiA (K := K) rfl) (by rfl) T.b_isinstance (by decide +kernel) (pa_cons (pe_ix (ixA (K := K) rfl) (pv 0) (pe_un un_neg pe_int) (fun _ _ => rfl)) (pa_cons (pe_bltn (v := .ty "tuple") (by rfl) T.b_tuple boot_tuple rfl) pa_nil))))) (pw_or1 (pt_cmpR op_gt (pe_callB (lenA (K := K) rfl) (by rfl) T.b_len (by decide +kernel) (pa_cons (pe_ix (ixA (K := K) rfl) (pv 0) (pe_un un_neg pe_int) (fun _ _ => rfl)) pa_nil)) (pe_gI (by rfl) T.c_MOST_AIMS) (nomark _))))) pss_never pss_nil)
  (pss_one (ps_ret (pe_ix (ixA (K := K) rfl) (pv 0) (pe_un un_neg pe_int) (fun _ _ => rfl)))))))), ?_⟩
  refine ⟨_, rfl, _, isi_tt hv, _, rfl, iteF ⟨_, rfl, _, len_t hv, two_le, fun p np => ⟨3, [2, 3], ⟨rfl, p, rfl, .inr (SqT.of upd_same)⟩, _, rfl, iteNS nin23 ⟨_, rfl, _, ix_0 (stp (Same.new np) hv), _, isi_ss, _, rfl, iteF ?_⟩⟩⟩⟩
  have s1 : Same H (upd H p (.tup [.int 2, .int 3])) := Same.new np
  have hv1 := stp s1 hv
  have ht1 := stp s1 ht
  have hv1' : Tp (upd H p (.tup [.int 2, .int 3])) v ([.str "least", .int (n : Nat)] ++ [t]) := hv1
  refine ⟨_, rfl, _, len_t hv1, rfl, _, rfl, iteCN (by intro z; injection z with z; exact absurd z (show ¬ ((3 : Nat) : Int) = 2 by decide)) ?_⟩
  refine ⟨_, rfl, _, len_t hv1, rfl, _, rfl, iteC rfl ⟨_, rfl, _, ix_0 hv1, rfl, _, rfl, iteNS rfl ⟨_, rfl, _, ix_1 hv1, _, _, _, rfl, .inl ⟨_, rfl, _, rfl, iteF' ?_ ?_⟩⟩⟩⟩
  · rw [decide_eq_true (show (0 : Int) ≤ n by omega), decide_eq_true (show (n : Int) ≤ 25 by omega)]
    rfl
  refine ⟨_, rfl, _, rfl, _, ix_tm hv1', _, isi_tt ht1, _, rfl, iteF ⟨_, rfl, _, rfl, _, ix_tm hv1', _, len_t ht1, _, _, rfl, rfl, _, rfl, iteCN (by rw [nats_length]; omega) ?_⟩⟩
  exact ⟨_, rfl, _, rfl, _, ix_tm hv1', q _ s1⟩
abbrev n_parts_of : List Str := ["thing", "most", "deep", "inner", "found", "aim", "more"]
theorem sc_parts_of : FnScope ["thing", "most", "deep", "inner", "found", "aim", "more"] ["thing", "most", "deep"] (defScope s_parts_of) := ⟨rfl, rfl, rfl, by decide +kernel, rfl, by decide +kernel, by decide +kernel⟩
theorem ok_parts_of0 (T : Tx K mg) : Dfn P w K mg base 3 "parts_of" ["thing", "most", "deep"] (fun vs H Q => ∃ (k m : Nat) (d : Int), vs = [.int (k : Nat), .int ((m : Nat) : Int), .int d] ∧ k ≤ m ∧ Q (.int 1) H) :=
  Dfn.mk T.f_parts_of T.g_parts_of sc_parts_of (fun _ _ _ _ _ _ us hl => match us, hl with | [_, _, _], _ => rfl) (fun vs H Q h => by obtain ⟨k, m, d, rfl, _⟩ := h; rfl) fun cdv A outer s0 H vs Q E hr h => by
  obtain ⟨k, m, d, rfl, hk, q⟩ := h
  refine ⟨_, (pss_cons (ps_if (pt_val (pe_c ((ok_is_within T).mono (by decide)) hr (pa_cons (pv 0) (pa_cons pe_int (pa_cons (pv 1) pa_nil)))))
    (pss_one (ps_ret pe_int)) pss_nil)
  pss_never), ?_⟩
  refine ⟨_, rfl, _, rfl, _, _, _, rfl, .inl ⟨_, rfl, _, rfl, iteC' ?_ q⟩⟩
  rw [decide_eq_true (show (0 : Int) ≤ k by omega), decide_eq_true (show (k : Int) ≤ m by omega)]
  rfl
theorem ok_parts_of (T : Tx K mg) : Dfn P w K mg base 4 "parts_of" ["thing", "most", "deep"] (fun vs H Q => ∃ (v : V) (n m : Nat) (cnt : List Nat), vs = [v, .int ((m : Nat) : Int), .int 8] ∧ RAim H v n cnt ∧ n ≤ 25 ∧ cnt.length ≤ 24 ∧ (∀ k ∈ cnt, k ≤ m) ∧ ∀ H' i, Same H H' → Q (.int i) H') := by
  have D_parts : Dfn P w K mg base 3 "parts_of" ["thing", "most", "deep"] (fun vs H Q => ∃ (k m : Nat) (d : Int), vs = [.int (k : Nat), .int ((m : Nat) : Int), .int d] ∧ k ≤ m ∧ Q (.int 1) H) := ok_parts_of0 T
  refine Dfn.mk T.f_parts_of T.g_parts_of sc_parts_of (fun _ _ _ _ _ _ us hl => match us, hl with | [_, _, _], _ => rfl) (fun vs H Q h => by obtain ⟨v, n, m, cnt, rfl, _⟩ := h; rfl) fun cdv A outer s0 H vs Q E hr h => ?_
  obtain ⟨v, n, m, cnt, rfl, ⟨t, hv, ht⟩, hn, hl, hk, q⟩ := h
  refine ⟨_, (pss_cons (ps_if (pt_val (pe_c ((ok_is_within T).mono (by decide)) hr (pa_cons (pv 0) (pa_cons pe_int (pa_cons (pv 1) pa_nil)))))
    (pss_one (ps_ret pe_int)) pss_nil)
  (pss_cons (ps_set (i := 3) sc_parts_of.nd rfl (Or.inl rfl) (pe_c ((ok_aims_in T).mono (by decide)) hr (pa_cons (pv 0) pa_nil)))
  (pss_cons (ps_if (PW.pt (pw_or (pt_cmpR op_isN (pv 3) pe_non (nomark _)) (pw_or1 (PW.pt (pw_and (pt_cmpR op_eq (pv 2) pe_int (nomark _)) (pw_and1 (pt_cmpR op_gt (pe_callB (lenA (K := K) rfl) (by rfl) T.b_len (by decide +kernel) (pa_cons (pv 3) pa_nil)) pe_int (nomark _))))))))
    (pss_one (ps_ret pe_non)) pss_nil)
  (pss_cons (ps_set (i := 4) sc_parts_of.nd rfl (Or.inl rfl) pe_int)
  (pss_cons (ps_for PassesOwn.never rfl (pi_tup (pv 3)) (pg_name (i := 5) sc_parts_of.nd rfl (Or.inl rfl))
    (pss_cons (ps_set (i := 6) sc_parts_of.nd rfl (Or.inl rfl) (pe_c D_parts hr (pa_cons (pv 5) (pa_cons (pv 1) (pa_cons (pe_op op_sub (pv 2) pe_int) pa_nil)))))
    (pss_cons (ps_if (PW.pt (pw_or (pt_cmpR op_isN (pv 6) pe_non (nomark _)) (pw_or1 (pt_cmpR op_gt (pe_op op_add (pv 4) (pv 6)) (pe_gI (by rfl) T.c_MOST_PARTS) (nomark _)))))
      (pss_one (ps_ret pe_non)) pss_nil)
    (pss_one (ps_aug (i := 4) sc_parts_of.nd rfl (Or.inl rfl) (pv 6) ip_add)))))
  (pss_one (ps_ret (pv 4)))))))), ?_⟩
  refine ⟨_, rfl, _, rfl, _, _, _, rfl, .inr ⟨⟨_, hv⟩, _, rfl, iteF ?_⟩⟩
  refine ⟨_, rfl, _, t, n, cnt, rfl, hv, ht, hn, hl, fun H1 s1 => ?_⟩
  obtain ⟨ta, rfl, hta⟩ := stp s1 ht
  refine ⟨_, rfl, rfl, _, rfl, iteCN (by intro z; cases z) ⟨_, rfl, rfl, _, rfl, iteCN (by decide) ?_⟩⟩
  refine ⟨_, rfl, ta, rfl, ⟨_, SqT.of hta⟩, ?_⟩
  refine for_it (walk_tup (xs := nats cnt)) (fun i σ H2 => Same H1 H2 ∧ ∃ x y, σ = [some v, some (.int ((m : Nat) : Int)), some (.int 8), some (.ref ta), some (.int ((1 + i : Nat) : Int)), x, y]) ⟨Same.refl _, _, _, rfl⟩ (fun i σ H2 _ h => sqt h.1 (SqT.of hta)) (fun i x σ H2 H3 hi h y => ?_) fun σ H2 h => ?_
  · obtain ⟨s2, x0, y0, rfl⟩ := h
    obtain ⟨rfl, hx⟩ := y
    obtain ⟨k, hkc, rfl⟩ := nats_at hx
    rw [nats_length] at hi
    refine ⟨_, rfl, _, rfl, _, rfl, _, _, rfl, rfl, k, m, _, rfl, hk k (List.mem_of_getElem? hkc), ?_⟩
    refine ⟨_, rfl, rfl, _, rfl, iteCN (by intro z; cases z) ⟨_, rfl, _, rfl, _, _, rfl, rfl, _, _, rfl, rfl, _, rfl, iteCN (by omega) ?_⟩⟩
    exact ⟨_, rfl, _, rfl, _, _, rfl, rfl, s2, _, _, rfl⟩
  · obtain ⟨s2, x0, y0, rfl⟩ := h
    exact ⟨_, rfl, q H2 _ (s1.trans s2)⟩
abbrev n_is_any_aim : List Str := ["thing", "most"]
theorem sc_is_any_aim : FnScope ["thing", "most"] ["thing", "most"] (defScope s_is_any_aim) := ⟨rfl, rfl, rfl, by decide +kernel, rfl, by decide +kernel, by decide +kernel⟩
theorem ok_is_any_aim (T : Tx K mg) : Dfn P w K mg base 5 "is_any_aim" ["thing", "most"] (fun vs H Q => ∃ (v : V) (n m : Nat) (cnt : List Nat), vs = [v, .int ((m : Nat) : Int)] ∧ RAim H v n cnt ∧ n ≤ 25 ∧ cnt.length ≤ 24 ∧ (∀ k ∈ cnt, k ≤ m) ∧ ∀ H', Same H H' → Q (.bl true) H') :=
  Dfn.mk T.f_is_any_aim T.g_is_any_aim sc_is_any_aim (fun _ _ _ _ _ _ us hl => match us, hl with | [_, _], _ => rfl) (fun vs H Q h => by obtain ⟨v, n, m, cnt, rfl, _⟩ := h; rfl) fun cdv A outer s0 H vs Q E hr h => by
  obtain ⟨v, n, m, cnt, rfl, hv, hn, hl, hk, q⟩ := h
  refine ⟨_, (pss_one (ps_ret (pe_cmpR op_notN (pe_c ((ok_parts_of T).mono (by decide)) hr (pa_cons (pv 0) (pa_cons (pv 1) (pa_cons (pe_gI (by rfl) T.c_MOST_DEEP) pa_nil)))) pe_non (nomark _)))), ?_⟩
  exact ⟨_, rfl, _, rfl, v, n, m, cnt, rfl, hv, hn, hl, hk, fun H1 i s1 => ⟨rfl, q H1 s1⟩⟩
abbrev n_is_aim : List Str := ["hall", "thing"]
theorem sc_is_aim : FnScope ["hall", "thing"] ["hall", "thing"] (defScope s_is_aim) := ⟨rfl, rfl, rfl, by decide +kernel, rfl, by decide +kernel, by decide +kernel⟩
theorem ok_is_aim (T : Tx K mg) : Dfn P w K mg base 6 "is_aim" ["hall", "thing"] (fun vs H Q => ∃ (v u : V) (bs : List Brd) (nms : List Str) (n : Nat) (cnt : List Nat), vs = [v, u] ∧ RHall K H v bs nms ∧ RAim H u n cnt ∧ AimOk bs n cnt ∧ ∀ H', Same H H' → Q (.bl true) H') :=
  Dfn.mk T.f_is_aim T.g_is_aim sc_is_aim (fun _ _ _ _ _ _ us hl => match us, hl with | [_, _], _ => rfl) (fun vs H Q h => by obtain ⟨v, u, bs, nms, n, cnt, rfl, _⟩ := h; rfl) fun cdv A outer s0 H vs Q E hr h => by
  obtain ⟨v, u, bs, nms, n, cnt, rfl, hh, hv, ok, q⟩ := h
  refine ⟨_, (pss_one (ps_ret (pe_c ((ok_is_any_aim T).mono (by decide)) hr (pa_cons (pv 1) (pa_cons (pe_op op_sub (pe_callB (lenA (K := K) rfl) (by rfl) T.b_len (by decide +kernel) (pa_cons (pe_fldA (K := K) rfl tm_var (pv 0) rfl) pa_nil)) pe_int) pa_nil))))), ?_⟩
  have bok : BdsOk bs := (let ⟨_, _, _, _, _, _, _, _, h, _⟩ := hh; h)
  obtain ⟨bv, hf, hb⟩ := hh.boards T
  have lo := bok.lo
  refine ⟨_, rfl, _, rfl, _, hf, _, hb.lenIs, _, _, rfl, rfl, u, n, bs.length - 1, cnt, ?_, hv, ok.n, ok.len, fun k hk => by have := ok.lt k hk; omega, q⟩
  rw [show ((bs.length - 1 : Nat) : Int) = (bs.length : Int) - 1 by omega]
  rfl
abbrev n_check_aim : List Str := ["hall", "thing"]
theorem sc_check_aim : FnScope ["hall", "thing"] ["hall", "thing"] (defScope s_check_aim) := ⟨rfl, rfl, rfl, by decide +kernel, rfl, by decide +kernel, by decide +kernel⟩
theorem ok_check_aim (T : Tx K mg) : Dfn P w K mg base 7 "check_aim" ["hall", "thing"] (fun vs H Q => ∃ (v u : V) (bs : List Brd) (nms : List Str) (n : Nat) (cnt : List Nat), vs = [v, u] ∧ RHall K H v bs nms ∧ RAim H u n cnt ∧ AimOk bs n cnt ∧ ∀ H', Same H H' → Q .non H') :=
  Dfn.mk T.f_check_aim T.g_check_aim sc_check_aim (fun _ _ _ _ _ _ us hl => match us, hl with | [_, _], _ => rfl) (fun vs H Q h => by obtain ⟨v, u, bs, nms, n, cnt, rfl, _⟩ := h; rfl) fun cdv A outer s0 H vs Q E hr h => by
  obtain ⟨v, u, bs, nms, n, cnt, rfl, hh, hv, ok, q⟩ := h
  refine ⟨_, (pss_one (ps_if (pt_not (pt_val (pe_c ((ok_is_aim T).mono (by decide)) hr (pa_cons (pv 0) (pa_cons (pv 1) pa_nil))))) pss_never pss_nil)), ?_⟩
  exact ⟨_, rfl, _, rfl, v, u, bs, nms, n, cnt, rfl, hh, hv, ok, fun H1 s1 => ⟨_, rfl, iteF (q H1 s1)⟩⟩
abbrev n_holds : List Str := ["aim", "mask", "told", "one"]
theorem sc_holds : FnScope ["aim", "mask", "told", "one"] ["aim", "mask"] (defScope s_holds) := ⟨rfl, rfl, rfl, by decide +kernel, rfl, by decide +kernel, by decide +kernel⟩
theorem ok_holds0 (T : Tx K mg) : Dfn P w K mg base 1 "holds" ["aim", "mask"] (fun vs H Q => ∃ (k m : Nat), vs = [.int (k : Nat), .int (m : Nat)] ∧ Q (.bl (m.testBit k)) H) :=
  Dfn.mk T.f_holds T.g_holds sc_holds (fun _ _ _ _ _ _ us hl => match us, hl with | [_, _], _ => rfl) (fun vs H Q h => by obtain ⟨k, m, rfl, _⟩ := h; rfl) fun cdv A outer s0 H vs Q E hr h => by
  obtain ⟨k, m, rfl, q⟩ := h
  refine ⟨_, (pss_cons (ps_if (pt_not (pt_val (pe_callB (isiA (K := K) rfl) (by rfl) T.b_isinstance (by decide +kernel) (pa_cons (pv 0) (pa_cons (pe_bltn (v := .ty "tuple") (by rfl) T.b_tuple boot_tuple rfl) pa_nil)))))
    (pss_one (ps_ret (pe_cmpR op_eq (pe_op op_and (pe_op op_shr (pv 1) (pv 0)) pe_int) pe_int (nomark _)))) pss_nil)
  pss_never), ?_⟩
  refine ⟨_, rfl, _, isi_it, _, rfl, iteT ⟨_, rfl, _, rfl, _, _, rfl, rfl, Int.natCast_nonneg _, _, _, rfl, rfl, rfl, ?_⟩⟩
  show Q (.bl (decide (V.int (Builtin.bitAnd ((m : Int) / 2 ^ ((k : Int)).toNat) 1) = V.int 1))) H
  rw [bit_at]
  exact q
theorem ok_holds (T : Tx K mg) : Dfn P w K mg base 2 "holds" ["aim", "mask"] (fun vs H Q => ∃ (v : V) (m n : Nat) (cnt : List Nat), vs = [v, .int (m : Nat)] ∧ RAim H v n cnt ∧ cnt.length ≤ 1000 ∧ ∀ H', Same H H' → Q (.bl (decide (n ≤ cntOf cnt m))) H') := by
  have D_holds : Dfn P w K mg base 1 "holds" ["aim", "mask"] (fun vs H Q => ∃ (k m : Nat), vs = [.int (k : Nat), .int (m : Nat)] ∧ Q (.bl (m.testBit k)) H) := ok_holds0 T
  refine Dfn.mk T.f_holds T.g_holds sc_holds (fun _ _ _ _ _ _ us hl => match us, hl with | [_, _], _ => rfl) (fun vs H Q h => by obtain ⟨v, m, n, cnt, rfl, _⟩ := h; rfl) fun cdv A outer s0 H vs Q E hr h => ?_
  obtain ⟨v, m, n, cnt, rfl, ⟨t, hv, ht⟩, hl, q⟩ := h
  refine ⟨_, (pss_cons (ps_if (pt_not (pt_val (pe_callB (isiA (K := K) rfl) (by rfl) T.b_isinstance (by decide +kernel) (pa_cons (pv 0) (pa_cons (pe_bltn (v := .ty "tuple") (by rfl) T.b_tuple boot_tuple rfl) pa_nil)))))
    (pss_one (ps_ret (pe_cmpR op_eq (pe_op op_and (pe_op op_shr (pv 1) (pv 0)) pe_int) pe_int (nomark _)))) pss_nil)
  (pss_cons (ps_setLc (i := 2) (own := [("one", 3)]) (g := (gName 3)) (tt := tYes) rfl sc_holds.nd rfl rfl (sw_true rfl rfl rfl (by decide +kernel)) (pi_tup (pe_ix (ixA (K := K) rfl) (pv 0) (pe_un un_neg pe_int) (fun _ _ => rfl))) (blkOk_by (own := [("one", 3)]) (N := n_holds) (sc := defScope s_holds) (by decide +kernel)) (fun _ _ _ _ _ => (pg_name (i := 3) sc_holds.nd rfl (Or.inl rfl))) (fun _ _ _ _ _ => pts_nil) (fun _ _ _ _ _ => (pe_c D_holds hr (pa_cons (pv 3) (pa_cons (pv 1) pa_nil)))))
  (pss_cons (ps_if (pt_cmpR op_eq (pe_ix (ixA (K := K) rfl) (pv 0) pe_int (fun _ _ => rfl)) pe_str (nomark _))
    (pss_one (ps_ret (pe_callB (allA (K := K) rfl rfl) (by rfl) T.b_all (by decide +kernel) (pa_cons (pv 2) pa_nil)))) pss_nil)
  (pss_cons (ps_if (pt_cmpR op_eq (pe_ix (ixA (K := K) rfl) (pv 0) pe_int (fun _ _ => rfl)) pe_str (nomark _))
    (pss_one (ps_ret (pe_callB (cr_any rfl) (by rfl) T.b_any (by decide +kernel) (pa_cons (pv 2) pa_nil)))) pss_nil)
  (pss_one (ps_ret (pe_cmpR op_ge (pe_bm PySem.F.plainAttrs_list PySem.F.slot_list_count PySem.F.type_list_count mt_countB (pv 2) (pa_cons pe_bl pa_nil)) (pe_ix (ixA (K := K) rfl) (pv 0) pe_int (fun _ _ => rfl)) (nomark _)))))))), ?_⟩
  have hv' : Tp H v ([.str "least", .int (n : Nat)] ++ [t]) := hv
  obtain ⟨ta, rfl, hta⟩ := id ht
  refine ⟨_, rfl, _, isi_tt hv, _, rfl, iteF ⟨_, rfl, _, rfl, _, ix_tm hv', ta, rfl, ⟨_, SqT.of hta⟩, fun D hD => ?_⟩⟩
  refine lc_all (walk_tup (xs := nats cnt)) (by rw [nats_length]; omega) hD (fun _ i y => ∃ k, cnt[i]? = some k ∧ y = V.bl (m.testBit k)) (fun _ _ _ _ _ e => e) (fun H2 s2 => sqt s2 (SqT.of hta)) (fun i x H2 H3 Qc hi s2 y k => ?_) fun H2 ys s2 hys hl2 hY => ?_
  · obtain ⟨rfl, hx⟩ := y
    obtain ⟨b, hb, rfl⟩ := nats_at hx
    exact ⟨rfl, _, rfl, _, rfl, b, m, rfl, k _ _ (Same.refl _) ⟨b, hb, rfl⟩⟩
  · have e : ys = (cnt.map fun b => m.testBit b).map V.bl := by
      rw [nats_length] at hl2
      refine List.ext_getElem? fun j => ?_
      rw [List.getElem?_map, List.getElem?_map]
      cases e : ys[j]? with
      | none =>
        have : cnt.length ≤ j := by rw [← hl2]; exact List.getElem?_eq_none_iff.mp e
        rw [List.getElem?_eq_none this]; rfl
      | some y =>
        obtain ⟨b, h1, h2⟩ := hY j y e
        rw [h1, h2]; rfl
    rw [e] at hys
    have hv2 := stp s2 hv
    refine ⟨_, rfl, _, ix_0 hv2, rfl, _, rfl, iteCN (by decide +kernel) ⟨_, rfl, _, ix_0 hv2, rfl, _, rfl, iteCN (by decide +kernel) ?_⟩⟩
    refine ⟨_, rfl, .inl ⟨rfl, _, SqL.of hys⟩, D, cnt.map fun b => m.testBit b, rfl, rfl, SqL.of hys, _, rfl, _, ix_1 hv2, _, _, rfl, rfl, ?_⟩
    have e3 : decide (((cnt.map fun b => m.testBit b).countP id : Nat) ≥ (n : Int)) = decide (n ≤ cntOf cnt m) := by
      unfold cntOf
      rw [List.countP_map, Bool.eq_iff_iff, decide_eq_true_eq, decide_eq_true_eq]
      show ((cnt.countP fun b => m.testBit b : Nat) : Int) ≥ n ↔ _
      omega
    show Q (.bl (decide (((cnt.map fun b => m.testBit b).countP id : Nat) ≥ (n : Int)))) H2
    rw [e3]
    exact q H2 s2
end
end Ug

/-! zip of a tuple and a list -/
namespace Ug
open PySem PySem.Spec PyProof.Rows L2
def ItzM (K : PySem.W.Frag) (a b : Addr) : It where
  go := fun i H => ∃ (xs ys : List V) (x y : V), SqT K H a xs ∧ SqL K H b ys ∧ xs[i]? = some x ∧ ys[i]? = some y
  yld := fun i H v H' => ∃ T x y, v = .ref T ∧ H T = none ∧ H' = upd H T (.tup [x, y]) ∧ (∀ xs, SqT K H a xs → xs[i]? = some x) ∧ ∀ ys, SqL K H b ys → ys[i]? = some y
  stop := fun i H => ∃ xs ys : List V, SqT K H a xs ∧ SqL K H b ys ∧ i ≤ xs.length ∧ i ≤ ys.length ∧ (i = xs.length ∨ i = ys.length)
theorem walk_zipM {K : PySem.W.Frag} {a b : Addr} {xs ys : List V} {n : Nat} (h1 : xs.length = n) (h2 : ys.length = n) : Walk (ItzM K a b) n (fun H => SqT K H a xs ∧ SqL K H b ys) (YPair (fun i => xs[i]?) (fun i => ys[i]?)) := by
  subst h1
  refine ⟨fun i _ hi q => ⟨xs, ys, xs[i], ys[i]'(by omega), q.1, q.2, List.getElem?_eq_getElem _, List.getElem?_eq_getElem _⟩, fun _ q => ⟨xs, ys, q.1, q.2, Nat.le_refl _, by omega, .inl rfl⟩, fun i H v H' _ q ⟨T, x, z, h1, h2, h3, h4, h5⟩ => ⟨T, x, z, h1, h2, h3, h4 xs q.1, h5 ys q.2⟩⟩
def ZmT (a b z TI TO i1 i2 : Addr) (i : Nat) (h : Heap) : Prop := IsZip h z TI TO .none ∧ IsTupOf2 h TI (.ref i1) (.ref i2) ∧ (∃ x y, IsTupOf2 h TO x y) ∧ h.IsTupleIter i1 a i ∧ h.IsListIter i2 b i
theorem ZmT.there {a b z TI TO i1 i2 : Addr} {i : Nat} {h : Heap} (t : ZmT a b z TI TO i1 i2 i h) : ∀ c ∈ [z, TI, TO, i1, i2], ∃ o, h.get? c = some o ∧ ∀ v, o.data ≠ .cell v := fun c hc => by
  obtain ⟨h1, h2, ⟨x, y, h3⟩, ⟨o4, h4, _, d4⟩, ⟨o5, h5, _, d5⟩⟩ := t
  simp only [List.mem_cons, List.not_mem_nil, or_false] at hc
  rcases hc with rfl | rfl | rfl | rfl | rfl
  · exact ⟨_, h1, fun v q => nomatch q⟩
  · exact ⟨_, h2, fun v q => nomatch q⟩
  · exact ⟨_, h3, fun v q => nomatch q⟩
  · exact ⟨_, h4, fun v q => by rw [d4] at q; cases q⟩
  · exact ⟨_, h5, fun v q => by rw [d5] at q; cases q⟩
theorem turn_zipM {P : Program} {w : World} {K : PySem.W.Frag} {elts : List Expr} {kk : Nat} {tpos : Pos} {a b z TI TO i1 i2 : Addr} (sep : ZipSep2 z TI TO i1 i2 [i1, a] [i2, b]) (na : a ≠ i1) (nb : b ≠ i2) : Turn P w K (.Tuple elts kk tpos) (ItzM K a b) [z, TI, TO, i1, i2] z (ZmT a b z TI TO i1 i2) where
  mem := List.mem_cons_self
  obj := fun i h st => st.there
  keep := fun i h h' ⟨h1, h2, ⟨x, y, h3⟩, h4, h5⟩ k => ⟨k z (by simp) _ h1, k TI (by simp) _ h2, ⟨x, y, k TO (by simp) _ h3⟩, h4.at fun o q => k i1 (by simp) o q, (let ⟨o, e1, e2, e3⟩ := h5; ⟨o, k i2 (by simp) o e1, e2, e3⟩)⟩
  self := fun A i s Q E ⟨h1, _⟩ h => wpAny_pyIter_zip h1 h
  item := by
    intro X hP hw hK hc i pins s σ H E I hf st hg
    subst hP hw hK
    have low := st.there
    obtain ⟨hz, hTI, ⟨a1, a2, hTO⟩, hi1, hi2⟩ := st
    obtain ⟨xs, ys, x, y, hq1, hq2, hx, hy⟩ := hg
    obtain ⟨its, rv, p, sz1⟩ := I.tuple hq1
    obtain ⟨its2, rv2, p2, sz2⟩ := I.list hq2
    obtain ⟨u1, hu1, ru1⟩ := rv.get hx
    obtain ⟨u2, hu2, ru2⟩ := rv2.get hy
    have D1 := Draws.tuple (prog := X.prog) (w := X.w) (A := X.A.in1) (I.ok.hd hc) i1 a na its.toArray
    have D2 := Draws.list (prog := X.prog) (w := X.w) (A := X.A.in1) (I.ok.hd hc) i2 b nb its2.toArray
    have l1 : i < its.length := by
      rcases Nat.lt_or_ge i its.length with q | q
      · exact q
      · rw [List.getElem?_eq_none q] at hu1; cases hu1
    have l2 : i < its2.length := by
      rcases Nat.lt_or_ge i its2.length with q | q
      · exact q
      · rw [List.getElem?_eq_none q] at hu2; cases hu2
    refine wpAny_pyNext_zipD2_item sep D1 D2 hz hTI hTO ⟨hi1, p⟩ ⟨hi2, p2.isList⟩ (by simpa using l1) (by simpa using l2) fun y1 y2 h' tk hy1 hy2 hz' hTO' st1 st2 hT hsz hk => ?_
    obtain rfl : y1 = u1 := by
      have e1 : its.toArray[i]? = some u1 := by simpa using hu1
      rw [e1] at hy1
      exact (Option.some.inj hy1).symm
    obtain rfl : y2 = u2 := by
      have e1 : its2.toArray[i]? = some u2 := by simpa using hu2
      rw [e1] at hy2
      exact (Option.some.inj hy2).symm
    have zlt : z < s.heap.objs.size := Heap.lt_size hz
    refine ⟨_, rfl, wpAny_letOwnedTupleGo_zip (s := { s with heap := h', toks := tk }) hz' fun h'' hz'' sb => ?_⟩
    have nz : ∀ {c : Addr} {o : Obj}, c ≠ z → h'.get? c = some o → h''.get? c = some o := fun n q => (sb.2 _ n).trans q
    have hT2 := nz (Nat.ne_of_gt zlt) hT
    have new : ObjOk X.prog X.w (upd H s.heap.objs.size (.tup [x, y])) h'' s.heap.objs.size (.tup [x, y]) :=
      ⟨two_le, [y1, y2], .cons ru1 (.cons ru2 .nil), ⟨_, hT2, rfl, _, rfl⟩⟩
    have I1 : Inv X pins σ (upd H s.heap.objs.size (.tup [x, y])) { s with heap := h'', toks := tk } :=
      I.turnedNew (t' := tk) (ch := [z, TI, TO, i1, i2]) (fun c ob hb q => by
        have n1 : c ≠ z := fun e => hb (by simp [e])
        have n2 : c ≠ TO := fun e => hb (by simp [e])
        have n3 : c ≠ i1 := fun e => hb (by simp [e])
        have n4 : c ≠ i2 := fun e => hb (by simp [e])
        exact nz n1 (hk c ob n1 n2 n3 n4 q)) hf (Nat.le_refl _) new
    have i1z : i1 ≠ z := fun e => sep.zf1 (e ▸ sep.mem1)
    have i2z : i2 ≠ z := fun e => sep.zf2 (e ▸ sep.mem2)
    refine ⟨.ref s.heap.objs.size, _, I1, rfl, ⟨_, x, y, rfl, I.hok.fresh (Nat.le_refl _), rfl, fun zs hz => by rw [I.tuple_inj hz hq1]; exact hx, fun zs hz => by rw [I.list_inj hz hq2]; exact hy⟩, ⟨hz'', ?_, ⟨y1, y2, nz sep.TOz hTO'⟩, st1.1.at fun o q => nz i1z q, ?_⟩, fun c hc => ?_⟩
    · exact nz sep.TIz (hk TI _ sep.TIz sep.TITO sep.TIi1 sep.TIi2 hTI)
    · obtain ⟨o, e1, e2, e3⟩ := st2.1
      exact ⟨o, nz i2z e1, e2, e3⟩
    · obtain ⟨o, ho, _⟩ := low c hc
      rw [upd_ne (Nat.ne_of_lt (Heap.lt_size ho))]
      exact (hf c hc).1
  done := by
    intro X hP hw hK hc i pins s σ H E I hf st hg
    subst hP hw hK
    obtain ⟨hz, hTI, ⟨a1, a2, hTO⟩, hi1, hi2⟩ := st
    obtain ⟨xs, ys, hq1, hq2, le1, le2, fin⟩ := hg
    obtain ⟨its, rv, p, sz1⟩ := I.tuple hq1
    obtain ⟨its2, rv2, p2, sz2⟩ := I.list hq2
    have D1 := Draws.tuple (prog := X.prog) (w := X.w) (A := X.A.in1) (I.ok.hd hc) i1 a na its.toArray
    have D2 := Draws.list (prog := X.prog) (w := X.w) (A := X.A.in1) (I.ok.hd hc) i2 b nb its2.toArray
    have e1 : its.toArray.size = xs.length := by rw [List.size_toArray, ← rv.length]
    have e2 : its2.toArray.size = ys.length := by rw [List.size_toArray, ← rv2.length]
    refine wpAny_pyNext_zipD2_end sep D1 D2 hz hTI hTO ⟨hi1, p⟩ ⟨hi2, p2.isList⟩ (by omega) (by omega) (by omega) fun h' tk hk => ⟨rfl, ?_⟩
    exact I.turnedL (t' := tk) (ch := [z, TI, TO, i1, i2]) (fun c ob hb q => by
        have n1 : c ≠ z := fun e => hb (by simp [e])
        have n2 : c ≠ TO := fun e => hb (by simp [e])
        have n3 : c ≠ i1 := fun e => hb (by simp [e])
        have n4 : c ≠ i2 := fun e => hb (by simp [e])
        exact hk c ob n1 n2 n3 n4 q) hf
def iZipM (K : PySem.W.Frag) (ta : TA) : TI := fun σ H R => ta σ H fun vs H1 => ∃ a b xs ys, vs = [.ref a, .ref b] ∧ SqT K H1 a xs ∧ SqL K H1 b ys ∧ R (ItzM K a b) H1
theorem pi_zipM {X : Cx} {e e2 : Expr} {ta : TA} {p pos tpos : Pos} {elts : List Expr} {kk : Nat} (hg : Gl X "zip") (hm : X.mg "zip" = none) (ha : PA X [e, e2] ta) (hs : starEach [e, e2] X.env = (false, eval e X.env) :: starEach [e2] X.env := by rfl) (hpl : (backTo pos (starEach [e2] X.env)).any (·.1) = false := by rfl) :
    PI X (.Tuple elts kk tpos) (.Call (.Name "zip" p) [e, e2] [] pos) (iZipM X.K ta) := by
  refine ⟨fun pins s σ H R I h => ?_⟩
  refine Call_ (ld_blt I hg hm boot_zip (PyProof.Rows.callWith_type1 (thn (ha.run pos pins s σ H _ I h) fun us s1 ⟨vs, H1, I1, r1, q1⟩ => ?_) hs hpl))
  obtain ⟨a, b, xs, ys, ex, hq1, hq2, q⟩ := q1
  subst ex
  obtain ⟨u, us', rfl, ru, r2⟩ : ∃ u us', us = u :: us' ∧ RelV (.ref a) u ∧ Vals [.ref b] us' := by
    cases r1 with
    | cons r t => exact ⟨_, _, rfl, r, t⟩
  obtain ⟨u2, rfl, ru2⟩ := vals1 r2
  cases ru
  cases ru2
  obtain ⟨its, rv, p1, hz1⟩ := I1.tuple hq1
  obtain ⟨its2, rv2, p2, hz2⟩ := I1.list hq2
  have la : a < s1.heap.objs.size := by obtain ⟨o, ho, _⟩ := id p1; exact Heap.lt_size ho
  have lb : b < s1.heap.objs.size := by obtain ⟨o, n, ho, _⟩ := id p2; exact Heap.lt_size ho
  refine zip_begins2 (begins_tuple a its.toArray) (begins_list b its2.toArray) p1 p2.isList fun h' hz hTI hTO hi1 hi2 hsz hk => wpAny_pyIter_zip hz ?_
  have sep : ZipSep2 (s1.heap.objs.size + 4) (s1.heap.objs.size + 2) (s1.heap.objs.size + 3) s1.heap.objs.size (s1.heap.objs.size + 1) [s1.heap.objs.size, a] [s1.heap.objs.size + 1, b] :=
    zip_sep2 (fun c hc => by rw [List.mem_singleton.mp hc]; exact la) (fun c hc => by rw [List.mem_singleton.mp hc]; exact lb)
  have old : ∀ c ∈ [s1.heap.objs.size + 4, s1.heap.objs.size + 2, s1.heap.objs.size + 3, s1.heap.objs.size, s1.heap.objs.size + 1], s1.heap.objs.size ≤ c := fun c hc => by
    simp only [List.mem_cons, List.not_mem_nil, or_false] at hc
    rcases hc with rfl | rfl | rfl | rfl | rfl <;> omega
  exact ⟨s1.heap.objs.size + 4, [s1.heap.objs.size + 4, s1.heap.objs.size + 2, s1.heap.objs.size + 3, s1.heap.objs.size, s1.heap.objs.size + 1], _, _, H1, rfl, I1.kept (t' := s1.toks) hk, turn_zipM sep (Nat.ne_of_lt la) (Nat.ne_of_lt (Nat.lt_succ_of_lt lb)),
    ⟨hz, hTI, ⟨_, _, hTO⟩, ⟨_, hi1, rfl, rfl⟩, ⟨_, hi2, rfl, rfl⟩⟩, fun c hc => I1.fpOk (old c hc) (I1.hok.fresh (old c hc)), q⟩
end Ug

/-! y = {k: v for ..}, y a local name that no block reads -/
namespace Ug
open PySem PySem.Spec PyProof.Rows L2
theorem ps_setDc {X : Cx} {i : Nat} {y : Str} {py : Pos} {kx vx tg iter : Expr} {ifs : List Expr} {scope : Scope} {own : List (Str × Nat)} {pos spos : Pos} {wi : TI} {g : TG} {tt : TT} {tk tv : TE}
    (hc : X.calm = true) (hN : X.N.Nodup) (hy : X.N[i]? = some y) (hyl : X.env.scope.names.lookup y = some .local)
    (hsw : swapsWith (.DictComp kx vx [⟨tg, iter, ifs, 0⟩] scope pos) (some (.Name y py)) spos.line X.env = pure true) (hi : PI X tg iter wi) (ok : BlkOk X.N X.env.scope scope own)
    (hg : ∀ (s : Shared) (H : Hp) (C : Addr) (cl : List (Str × Addr)) (fp : List Addr), PG (X.blk s H scope (compEnvC scope cl C X.env) fp) tg g)
    (ht : ∀ (s : Shared) (H : Hp) (C : Addr) (cl : List (Str × Addr)) (fp : List Addr), PTs (X.blk s H scope (compEnvC scope cl C X.env) fp) ifs tt)
    (hk : ∀ (s : Shared) (H : Hp) (C : Addr) (cl : List (Str × Addr)) (fp : List Addr), PE (X.blk s H scope (compEnvC scope cl C X.env) fp) kx tk)
    (hv : ∀ (s : Shared) (H : Hp) (C : Addr) (cl : List (Str × Addr)) (fp : List Addr), PE (X.blk s H scope (compEnvC scope cl C X.env) fp) vx tv)
    (hs : ∀ x, foldedSetIterable iter X.env x = pure x := by intro _; rfl) :
    PS X (.Assign [.Name y py] (.DictComp kx vx [⟨tg, iter, ifs, 0⟩] scope pos) spos) (tAsg (tDc wi g tt tk tv (own.map (·.2))) (gName i)) := by
  refine ⟨fun pins s σ H D I h => ?_⟩
  rw [exec_Assign_Name_used y py _ spos hsw]
  refine wpAny_bind (wpAny_standAt (wpAny_bind ?_))
  show wpAny _ _ (evalThenUse (.DictComp kx vx [⟨tg, iter, ifs, 0⟩] scope pos) X.env _) _ _ _
  unfold evalThenUse
  refine wpAny_bind (thn (dc_core hc hN I hi ok hg ht hk hv hs h fun L C s' m H' I' q hn f => ?_) fun x s' hq => wpAny_pure (wpAny_pure hq))
  refine wpAny_assign_Name (store_ok2 (v := V.ref L) I' hN hy (Or.inl hyl) (show L2.RelV (V.ref L) (Value.ref L) from rfl) (fun s2 I2 ⟨a, sb, ha⟩ => ?_) (Or.inr hyl))
  obtain ⟨f0, f1, f2, f3, f4, f5⟩ := f
  have haC : C ≠ a := ha.elim (fun z => by rw [z]; exact f1) fun z e => f4 y a z e.symm
  exact ⟨m, hn.sameBut sb haC, fun h3 sb3 => ⟨σ.set i (some (.ref L)), H', I2.turned (fun b o hb e => (sb3.2 b hb).trans e) f0 f1 f3 f4 f5, q⟩⟩
theorem sw_trueD {kx vx : Expr} {gs : List Comprehension} {scope : Scope} {pos py : Pos} {y : Str} {l : Nat} {env : Env} (h1 : env.scope.kind = .function) (h2 : env.scope.names.lookup y = some .local) (h3 : (py.line == pos.line) = true)
    (h4 : (scope.names.any fun (n, k) => n == y && (k == .local || k == .cell)) = false) : swapsWith (.DictComp kx vx gs scope pos) (some (.Name y py)) l env = pure true := by
  unfold swapsWith
  show pure (env.blockKind == .function && env.kindOf y == some .local && py.line == pos.line && !scope.names.any fun (n, k) => n == y && (k == .local || k == .cell)) = _
  have e : env.kindOf y = some .local := h2
  have e1 : env.blockKind = .function := by unfold Env.blockKind; simp [h1]
  rw [e1, h3, h4, e]
  rfl
end Ug

/-! meeting.py -/
namespace Ug
open PySem PySem.Spec PyProof.Rows L2
/-- the sides of a name's boards -/
def sidesOf (bs : List Brd) (nm : Str) : List Nat := (bs.filter fun b => decide (b.nm = nm)).map (·.sd)
theorem sidesOf_snoc (bs : List Brd) (b : Brd) (nm : Str) : sidesOf (bs ++ [b]) nm = if nm = b.nm then sidesOf bs nm ++ [b.sd] else sidesOf bs nm := by
  unfold sidesOf
  rw [List.filter_append, List.filter_cons, List.filter_nil]
  by_cases c : nm = b.nm
  · rw [if_pos c, if_pos (decide_eq_true c.symm), List.map_append]; rfl
  · rw [if_neg c, if_neg (fun z => c (of_decide_eq_true z).symm), List.append_nil]
theorem mem_sidesOf (bs : List Brd) (nm : Str) (k : Nat) : decide (k ∈ sidesOf bs nm) = sits bs nm k := by
  unfold sidesOf sits
  rw [Bool.eq_iff_iff, decide_eq_true_eq, List.any_eq_true]
  constructor
  · intro h
    obtain ⟨b, hb, e⟩ := List.mem_map.mp h
    obtain ⟨h1, h2⟩ := List.mem_filter.mp hb
    exact ⟨b, h1, decide_eq_true ⟨of_decide_eq_true h2, e⟩⟩
  · rintro ⟨b, hb, e⟩
    obtain ⟨e1, e2⟩ := of_decide_eq_true e
    exact List.mem_map.mpr ⟨b, List.mem_filter.mpr ⟨hb, decide_eq_true e1⟩, e2⟩
def SEnt (H0 H : Hp) (f : Str → List Nat) (kv : Key × V) (nm : Str) : Prop := kv.1 = .inr nm ∧ ∃ l, kv.2 = .ref l ∧ H l = some (.lst (nats (f nm))) ∧ H0 l = none
theorem SEnt.mono {H0 H H' : Hp} (k : Same H H') {f : Str → List Nat} {kv : Key × V} {nm : Str} (h : SEnt H0 H f kv nm) : SEnt H0 H' f kv nm := ⟨h.1, let ⟨l, h1, h2, h3⟩ := h.2; ⟨l, h1, k _ _ h2, h3⟩⟩
def addS (f : Str → List Nat) (nm : Str) (sd : Nat) (n : Str) : List Nat := if n = nm then f n ++ [sd] else f n
theorem sent_get {H0 H : Hp} {f : Str → List Nat} {nm : Str} : ∀ {kvs : List (Key × V)} {nms : List Str}, Paired (SEnt H0 H f) kvs nms → (kvs.map (·.2)).Nodup → nms.Nodup → nm ∈ nms →
    ∃ l, valV kvs (.inr nm) = some (.ref l) ∧ H l = some (.lst (nats (f nm))) ∧ H0 l = none ∧ V.ref l ∈ kvs.map (·.2) ∧ ∀ sd, Paired (SEnt H0 (upd H l (.lst (nats (f nm ++ [sd])))) (addS f nm sd)) kvs nms
  | _, _, .nil, _, _, h => by cases h
  | (k, u) :: kvs, c :: nms, .cons r t, nd, nn, h => by
    obtain ⟨e1, l, e2, e3, e4⟩ := r
    simp only at e1 e2
    subst e1 e2
    rw [List.map_cons] at nd
    obtain ⟨n1, n2⟩ := List.nodup_cons.mp nd
    obtain ⟨m1, m2⟩ := List.nodup_cons.mp nn
    unfold valV
    by_cases c1 : c = nm
    · subst c1
      rw [List.find?_cons_of_pos (by simp)]
      refine ⟨l, rfl, e3, e4, List.mem_cons_self, fun sd => .cons ⟨rfl, l, rfl, by rw [upd_same]; unfold addS; rw [if_pos rfl], e4⟩ ?_⟩
      clear h
      induction t with
      | nil => exact .nil
      | @cons kv nm2 kvs nms r t ih =>
        rw [List.map_cons] at n1 n2 nd
        have n1' := fun z => n1 (List.mem_cons_of_mem _ z)
        have m1' := fun z => m1 (List.mem_cons_of_mem _ z)
        refine .cons ⟨r.1, ?_⟩ (ih (List.nodup_cons.mpr ⟨m1', (List.nodup_cons.mp m2).2⟩) (List.nodup_cons.mpr ⟨n1', (List.nodup_cons.mp n2).2⟩) n1' (List.nodup_cons.mp n2).2 m1' (List.nodup_cons.mp m2).2)
        obtain ⟨l', h1, h2, h3⟩ := r.2
        exact ⟨l', h1, by rw [upd_ne (fun z => n1 (by rw [h1, z]; exact List.mem_cons_self))]; unfold addS; rw [if_neg (fun z => m1 (by rw [← z]; exact List.mem_cons_self))]; exact h2, h3⟩
    · rw [List.find?_cons_of_neg (by simp [c1])]
      have hm : nm ∈ nms := by
        rcases List.mem_cons.mp h with h | h
        · exact absurd h.symm c1
        · exact h
      obtain ⟨l', h1, h2, h3, h4, h5⟩ := sent_get t n2 m2 hm
      refine ⟨l', h1, h2, h3, List.mem_cons_of_mem _ h4, fun sd => .cons ⟨rfl, l, rfl, ?_, e4⟩ (h5 sd)⟩
      rw [upd_ne (fun z => n1 (by rw [z]; exact h4))]
      unfold addS
      rw [if_neg c1]
      exact e3
/-- a choice on the heap -/
def RCh (H : Hp) (v : V) (c : List (Str × Nat)) : Prop := ∃ xs, Tp H v xs ∧ Paired (fun x (q : Str × Nat) => Tp H x [.str q.1, .int (q.2 : Nat)]) xs c
theorem RCh.mono {H H' : Hp} (k : Tk H H') {v : V} {c : List (Str × Nat)} (h : RCh H v c) : RCh H' v c := let ⟨xs, h1, h2⟩ := h; ⟨xs, h1.mono k, pimp (fun _ _ h => h.mono k) h2⟩
structure ChOk (ns : List Str) (c : List (Str × Nat)) : Prop where
  names : c.map (·.1) = ns
  sides : ∀ q ∈ c, q.2 = 0 ∨ q.2 = 1
theorem choices_len (nms : List Str) : (choices nms).length = 2 ^ nms.length := by
  refine rev_ind (P := fun nms => (choices nms).length = 2 ^ nms.length) rfl (fun l a ih => ?_) nms
  unfold choices at ih ⊢
  rw [List.foldl_append]
  show ((List.foldl _ [[]] l).flatMap fun one => [one ++ [(a, 0)], one ++ [(a, 1)]]).length = _
  rw [List.length_flatMap]
  have : ∀ L : List (List (Str × Nat)), (L.map fun one => ([one ++ [(a, 0)], one ++ [(a, 1)]] : List (List (Str × Nat))).length).sum = 2 * L.length := by
    intro L
    induction L with
    | nil => rfl
    | cons x L ih => rw [List.map_cons, List.sum_cons, ih, List.length_cons]; simp; omega
  rw [this, ih, List.length_append]
  show 2 * 2 ^ l.length = 2 ^ (l.length + 1)
  rw [Nat.pow_succ, Nat.mul_comm]
theorem choices_snoc (nms : List Str) (nm : Str) : choices (nms ++ [nm]) = (choices nms).flatMap fun one => [one ++ [(nm, 0)], one ++ [(nm, 1)]] := by
  unfold choices
  rw [List.foldl_append]
  rfl
theorem strs_len : ∀ (l m : List Str), l.Nodup → (∀ x ∈ l, x ∈ m) → l.length ≤ m.length
  | [], _, _, _ => Nat.zero_le _
  | a :: l, m, h, s => by
    obtain ⟨h1, h2⟩ := List.nodup_cons.mp h
    have ha := s a List.mem_cons_self
    have := strs_len l (m.erase a) h2 fun x hx => (List.mem_erase_of_ne (fun e => h1 (by rw [← e]; exact hx))).mpr (s x (List.mem_cons_of_mem _ hx))
    rw [List.length_erase_of_mem ha] at this
    have pos : 0 < m.length := List.length_pos_of_mem ha
    rw [List.length_cons]
    omega
theorem NamesOk.len {bs : List Brd} {nms : List Str} (h : NamesOk bs nms) : nms.length ≤ bs.length := by
  have := strs_len nms (bs.map (·.nm)) h.nd fun x hx => by
    obtain ⟨b, hb, e⟩ := (h.mem x).mp hx
    exact List.mem_map.mpr ⟨b, hb, e⟩
  rwa [List.length_map] at this
theorem picked_val (c : List (Str × Nat)) (nd : (c.map (·.1)).Nodup) (b : Brd) : (match valV (c.map fun q => ((Sum.inr q.1 : Key), V.int (q.2 : Nat))) (.inr b.nm) with | some (.int s) => decide (s = (b.sd : Int)) | _ => false) = picked c b := by
  induction c with
  | nil => rfl
  | cons q c ih =>
    rw [List.map_cons] at nd
    obtain ⟨n1, n2⟩ := List.nodup_cons.mp nd
    unfold valV picked at *
    rw [List.map_cons, List.any_cons]
    by_cases e : q.1 = b.nm
    · rw [List.find?_cons_of_pos (by simp [e])]
      have : (c.any fun q => decide (q.1 = b.nm ∧ q.2 = b.sd)) = false := List.any_eq_false.mpr fun x hx z => n1 (by rw [e, ← (of_decide_eq_true z).1]; exact List.mem_map_of_mem hx)
      rw [this, Bool.or_false]
      show decide ((q.2 : Int) = (b.sd : Int)) = decide (q.1 = b.nm ∧ q.2 = b.sd)
      rw [Bool.eq_iff_iff, decide_eq_true_eq, decide_eq_true_eq]
      constructor
      · intro h; exact ⟨e, by omega⟩
      · intro h; omega
    · rw [List.find?_cons_of_neg (by simp [e]), show decide (q.1 = b.nm ∧ q.2 = b.sd) = false from decide_eq_false fun z => e z.1, Bool.false_or]
      exact ih n2
section
variable {P : Program} {w : World} {K : PySem.W.Frag} {mg : Str → Option Value} {base : Heap}
abbrev n_check_fresh : List Str := ["hall"]
theorem sc_check_fresh : FnScope ["hall"] ["hall"] (defScope s_check_fresh) := ⟨rfl, rfl, rfl, by decide +kernel, rfl, by decide +kernel, by decide +kernel⟩
theorem ok_check_fresh (T : Tx K mg) : Dfn P w K mg base 3 "check_fresh" ["hall"] (fun vs H Q => ∃ (v : V) (bs : List Brd) (nms : List Str), vs = [v] ∧ RHall K H v bs nms ∧ (∀ b ∈ bs, b.rw = []) ∧ ∀ H', Same H H' → Q .non H') :=
  Dfn.mk T.f_check_fresh T.g_check_fresh sc_check_fresh (fun _ _ _ _ _ _ us hl => match us, hl with | [_], _ => rfl) (fun vs H Q h => by obtain ⟨v, bs, nms, rfl, _⟩ := h; rfl) fun cdv A outer s0 H vs Q E hr h => by
  obtain ⟨v, bs, nms, rfl, hh, hfr, q⟩ := h
  refine ⟨_, (pss_one (ps_if (pt_not (pt_val (pe_c ((ok_is_fresh T).mono (by decide)) hr (pa_cons (pv 0) pa_nil)))) pss_never pss_nil)), ?_⟩
  exact ⟨_, rfl, _, bs, nms, rfl, hh, hfr, fun H1 s1 => ⟨_, rfl, iteF (q H1 s1)⟩⟩
abbrev n_two_sided_names : List Str := ["hall", "sides", "name", "side", "_"]
theorem sc_two_sided_names : FnScope ["hall", "sides", "name", "side", "_"] ["hall"] (defScope s_two_sided_names) := ⟨rfl, rfl, rfl, by decide +kernel, rfl, by decide +kernel, by decide +kernel⟩
theorem ok_two_sided_names (T : Tx K mg) : Dfn P w K mg base 1 "two_sided_names" ["hall"] (fun vs H Q => ∃ (v : V) (bs : List Brd) (nms : List Str), vs = [v] ∧ RHall K H v bs nms ∧ ∀ H' p, Same H H' → H' p = some (.lst ((two bs nms).map V.str)) → Q (.ref p) H') :=
  Dfn.mk T.f_two_sided_names T.g_two_sided_names sc_two_sided_names (fun _ _ _ _ _ _ us hl => match us, hl with | [_], _ => rfl) (fun vs H Q h => by obtain ⟨v, bs, nms, rfl, _⟩ := h; rfl) fun cdv A outer s0 H vs Q E hr h => by
  obtain ⟨v, bs, nms, rfl, hh, q⟩ := h
  refine ⟨_, (pss_cons (ps_set (i := 1) sc_two_sided_names.nd rfl (Or.inr rfl) (pe_dc (own := [("name", 2)]) (g := (gName 2)) (tt := tYes) rfl sc_two_sided_names.nd (pi_tup (pe_fldA (K := K) rfl tm_var (pv 0) rfl)) (blkOk_by (own := [("name", 2)]) (N := n_two_sided_names) (sc := defScope s_two_sided_names) (by decide +kernel)) (fun _ _ _ _ _ => (pg_name (i := 2) sc_two_sided_names.nd rfl (Or.inl rfl))) (fun _ _ _ _ _ => pts_nil) (fun _ _ _ _ _ => (pv 2)) (fun _ _ _ _ _ => (pe_lst pa_nil))))
  (pss_cons (ps_for PassesOwn.never rfl (pi_tup (pe_fldA (K := K) rfl tm_var (pv 0) rfl)) (pg_tup (by rfl) (pgs_cons (pg_name (i := 2) sc_two_sided_names.nd rfl (Or.inl rfl)) (pgs_cons (pg_name (i := 3) sc_two_sided_names.nd rfl (Or.inl rfl)) (pgs_cons (pg_name (i := 4) sc_two_sided_names.nd rfl (Or.inl rfl)) pgs_nil))))
    (pss_one (ps_expr (pe_bm PySem.F.plainAttrs_list PySem.F.slot_list_append PySem.F.type_list_append mt_append (pe_dget (hu_of hr) (pv 1) (pv 2) (fun _ _ => rfl)) (pa_cons (pv 3) pa_nil)))))
  (pss_one (ps_ret (pe_lc (own := [("name", 2)]) (g := (gName 2)) rfl sc_two_sided_names.nd (pi_tup (pe_fldA (K := K) rfl tm_var (pv 0) rfl)) (blkOk_by (own := [("name", 2)]) (N := n_two_sided_names) (sc := defScope s_two_sided_names) (by decide +kernel)) (fun _ _ _ _ _ => (pg_name (i := 2) sc_two_sided_names.nd rfl (Or.inl rfl))) (fun _ _ _ _ _ => (pts_one (PW.pt (pw_and (pt_cmpR (inA (K := K) rfl) pe_int (pe_dget (hu_of hr) (pv 1) (pv 2) (fun _ _ => rfl)) rfl) (pw_and1 (pt_cmpR (inA (K := K) rfl) pe_int (pe_dget (hu_of hr) (pv 1) (pv 2) (fun _ _ => rfl)) rfl)))))) (fun _ _ _ _ _ => (pv 2))))))), ?_⟩
  have ok : BdsOk bs := (let ⟨_, _, _, _, _, _, _, _, h, _⟩ := hh; h)
  have nok : NamesOk bs nms := (let ⟨_, _, _, _, _, _, _, _, _, h⟩ := hh; h)
  have h8 := ok.hi
  have nl := nok.len
  obtain ⟨nv, hnf, ⟨na, rfl, hna⟩⟩ := hh.names T
  refine ⟨_, rfl, _, hnf, na, rfl, ⟨_, SqT.of hna⟩, fun D hD => ?_⟩
  refine dc_tup (K := K) (xs := nms.map V.str) (fun i H2 => Same H H2 ∧ ∃ kvs, H2 D = some (.dK kvs) ∧ Paired (SEnt H H2 fun _ => []) kvs (nms.take i) ∧ (kvs.map (·.2)).Nodup) ⟨Same.new hD, [], upd_same, .nil, List.nodup_nil⟩ (fun i H2 _ h => sqt h.1 (SqT.of hna)) (fun i x H2 hxi h => ?_) fun H2 h => ?_
  · obtain ⟨s2, kvs, hd, hk, nd⟩ := h
    rw [List.getElem?_map] at hxi
    obtain ⟨nm, hnm, rfl⟩ := Option.map_eq_some_iff.mp hxi
    have tk := take_snoc hnm
    have kl : kvs.length ≤ 8 := by rw [hk.length, List.length_take]; omega
    refine ⟨rfl, _, rfl, room_le1 (by simp), fun p np => ⟨kvs, .inr nm, rfl, ?_, by rw [sizeLine_eq]; omega, ?_⟩⟩
    · exact Same.new np _ _ hd
    have nin : ∀ kv ∈ kvs, kv.1 ≠ (.inr nm : Key) := fun kv hkv e => by
      obtain ⟨n2, hn2, r⟩ := paired_right hk kv hkv
      rw [r.1] at e
      injection e with e
      subst e
      have nd2 : (nms.take (i + 1)).Nodup := nok.nd.sublist (List.take_sublist _ _)
      rw [tk] at nd2
      exact (List.nodup_append.mp nd2).2.2 _ hn2 _ (by simp) rfl
    have ep : putK kvs (.inr nm) (.ref p) = kvs ++ [((.inr nm : Key), V.ref p)] := by
      unfold putK
      rw [if_neg]
      intro c
      obtain ⟨kv, h1, h2⟩ := List.any_eq_true.mp c
      exact nin kv h1 (of_decide_eq_true h2)
    have pD : p ≠ D := fun z => by rw [z, hd] at np; cases np
    have Hp : H p = none := by
      cases e : H p with
      | none => rfl
      | some o => have := s2 _ _ e; rw [np] at this; cases this
    refine ⟨sput hD (sput Hp s2), _, upd_same, ?_, ?_⟩
    · rw [ep, tk]
      refine Paired.snoc (pimp (fun kv n r => ⟨r.1, ?_⟩) hk) ⟨rfl, p, rfl, by rw [upd_ne pD, upd_same]; rfl, Hp⟩
      obtain ⟨l, h1, h2, h3⟩ := r.2
      refine ⟨l, h1, ?_, h3⟩
      rw [upd_ne (fun z => by rw [z, hd] at h2; cases h2), upd_ne (fun z => by rw [z, np] at h2; cases h2)]
      exact h2
    · rw [ep, List.map_append]
      refine List.nodup_append.mpr ⟨nd, by simp, fun x hx y hy e => ?_⟩
      obtain ⟨kv, hkv, rfl⟩ := List.mem_map.mp hx
      obtain ⟨n2, hn2, r⟩ := paired_right hk kv hkv
      obtain ⟨l, h1, h2, h3⟩ := r.2
      have : y = .ref p := by simpa using hy
      rw [h1, this] at e
      injection e with e
      rw [e, np] at h2
      cases h2
  obtain ⟨s2, kvs, hd, hk, nd⟩ := h
  rw [List.length_map, List.take_length] at hk
  obtain ⟨bv, hf, hb⟩ := (hh.mono s2).boards T
  obtain ⟨xs, ⟨t, rfl, ht⟩, hx⟩ := hb
  obtain ⟨bv0, hf0, hb0⟩ := hh.boards T
  obtain ⟨xs0, ⟨t0, rfl, ht0⟩, hx0⟩ := hb0
  have same : t0 = t ∧ xs0 = xs := by
    obtain ⟨a1, C1, dx1, fs1, e3, e4, _, _, e5⟩ := hf
    obtain ⟨a2, C2, dx2, fs2, e6, e7, _, _, e8⟩ := hf0
    subst e3
    cases e6
    have := s2 _ _ e7
    rw [e4] at this
    cases this
    rw [e5] at e8
    cases e8
    have := s2 _ _ ht0
    rw [ht] at this
    cases this
    exact ⟨rfl, rfl⟩
  obtain ⟨rfl, rfl⟩ := same
  have xl := hx0.length
  refine ⟨_, rfl, _, hf, t0, rfl, ⟨_, SqT.of ht⟩, ?_⟩
  refine for_it (walk_tup (xs := xs0)) (fun i σ H3 => Same H H3 ∧ ∃ x y z, σ = [some v, some (.ref D), x, y, z] ∧ H3 D = some (.dK kvs) ∧ Paired (SEnt H H3 (sidesOf (bs.take i))) kvs nms) ⟨s2, _, _, _, rfl, hd, hk⟩ (fun i σ H3 _ h => sqt h.1 (SqT.of ht0)) (fun i x σ H3 H4 hi h y => ?_) fun σ H3 h => ?_
  · obtain ⟨s3, x0, y0, z0, rfl, hd3, hk3⟩ := h
    obtain ⟨rfl, hxi⟩ := y
    obtain ⟨b, hb, r⟩ := paired_get hx0 hxi
    obtain ⟨rr, hr1, hr2⟩ := r.mono (Same.tk s3)
    have hbn : b.nm ∈ nms := (nok.mem _).mpr ⟨b, List.mem_of_getElem? hb, rfl⟩
    obtain ⟨l, hv, hl, Hl, hin, hup⟩ := sent_get hk3 nd nok.nd hbn
    have sl : (sidesOf (bs.take i) b.nm).length ≤ 8 := by
      unfold sidesOf
      rw [List.length_map]
      exact Nat.le_trans (List.length_filter_le _ _) (by rw [List.length_take]; omega)
    refine tg3 hr1 ⟨_, rfl, _, rfl, D, .ref l, rfl, hv ▸ DGet.k (k := Sum.inr b.nm) hd3, .inl ⟨rfl, _, SqL.of hl⟩, _, rfl, l, _, _, rfl, rfl, hl, by rw [nats_length, sizeLine_eq]; omega, ?_⟩
    refine ⟨sput Hl s3, _, _, _, rfl, by rw [upd_ne (fun z => by rw [z, hl] at hd3; cases hd3)]; exact hd3, ?_⟩
    have e1 : nats (sidesOf (bs.take i) b.nm) ++ [V.int (b.sd : Nat)] = nats (sidesOf (bs.take i) b.nm ++ [b.sd]) := by rw [← nats_app]; rfl
    have e2 : sidesOf (bs.take (i + 1)) = addS (sidesOf (bs.take i)) b.nm b.sd := by
      funext n
      rw [take_snoc hb, sidesOf_snoc]
      rfl
    rw [e1, e2]
    exact hup b.sd
  · obtain ⟨s3, x0, y0, z0, rfl, hd3, hk3⟩ := h
    rw [xl, List.take_length] at hk3
    obtain ⟨nv3, hnf3, hnt3⟩ := (hh.mono s3).names T
    have : nv3 = .ref na := by
      obtain ⟨a1, C1, dx1, fs1, e3, e4, _, _, e5⟩ := hnf3
      obtain ⟨a2, C2, dx2, fs2, e6, e7, _, _, e8⟩ := hnf
      subst e3
      cases e6
      have := s3 _ _ e7
      rw [e4] at this
      cases this
      rw [e5] at e8
      cases e8
      rfl
    subst this
    refine ⟨_, rfl, _, hnf3, na, rfl, ⟨_, SqT.of (s3 _ _ hna)⟩, fun D2 hD2 => ?_⟩
    refine lc_filt (walk_tup (xs := nms.map V.str)) (by rw [List.length_map]; omega) hD2 nms (List.length_map _).symm (fun nm => sits bs nm 0 && sits bs nm 1) (fun _ y nm => y = V.str nm) gm_name (fun _ _ _ _ _ e => e) (fun H4 s4 => sqt (s3.trans s4) (SqT.of hna)) (fun i x H4 H5 nm hnm s4 y => ?_) fun H4 ys s4 hys hP => ?_
    · obtain ⟨rfl, hxi⟩ := y
      rw [List.getElem?_map, hnm] at hxi
      cases hxi
      obtain ⟨l, hv, hl, Hl, _, _⟩ := sent_get hk3 nd nok.nd (List.mem_of_getElem? hnm)
      have hl5 := s4 _ _ hl
      have hd5 := s4 _ _ hd3
      have dg : DGet H5 D (.str nm) (some (.ref l)) := hv ▸ DGet.k (k := Sum.inr nm) hd5
      refine ⟨rfl, fun Qb kk => ⟨_, rfl, _, rfl, D, _, rfl, dg, 0, _, nats_l hl5, _, rfl, ?_⟩, fun H6 Qc s6 _ kk => ⟨_, rfl, kk _ _ s6 rfl⟩⟩
      have k0 := kk _ (Same.refl _)
      rw [mem_sidesOf]
      refine ite2 (fun c => ?_) fun c => ?_
      · refine ⟨_, rfl, _, rfl, D, _, rfl, dg, 1, _, nats_l hl5, _, rfl, ?_⟩
        rw [mem_sidesOf]
        rw [c, Bool.true_and] at k0
        exact k0
      · rw [Bool.eq_false_iff.mpr c, Bool.false_and] at k0
        exact k0
    · have e : ys = (two bs nms).map V.str := by
        unfold two
        generalize nms.filter (fun nm => sits bs nm 0 && sits bs nm 1) = ns at hP
        clear hys
        induction hP with
        | nil => rfl
        | cons r t ih => rw [List.map_cons, ← ih, r]
      rw [e] at hys
      exact q H4 D2 (s3.trans s4) hys
abbrev n_is_choice : List Str := ["thing", "names", "pair", "name"]
theorem sc_is_choice : FnScope ["thing", "names", "pair", "name"] ["thing", "names"] (defScope s_is_choice) := ⟨rfl, rfl, rfl, by decide +kernel, rfl, by decide +kernel, by decide +kernel⟩
theorem ok_is_choice (T : Tx K mg) : Dfn P w K mg base 3 "is_choice" ["thing", "names"] (fun vs H Q => ∃ (v : V) (na : Addr) (ns : List Str) (c : List (Str × Nat)), vs = [v, .ref na] ∧ RCh H v c ∧ H na = some (.lst (ns.map V.str)) ∧ ChOk ns c ∧ ∀ H', Same H H' → Q (.bl true) H') :=
  Dfn.mk T.f_is_choice T.g_is_choice sc_is_choice (fun _ _ _ _ _ _ us hl => match us, hl with | [_, _], _ => rfl) (fun vs H Q h => by obtain ⟨v, na, ns, c, rfl, _⟩ := h; rfl) fun cdv A outer s0 H vs Q E hr h => by
  obtain ⟨v, na, ns, c, rfl, ⟨xs, ht, hx⟩, hna, cok, q⟩ := h
  refine ⟨_, (pss_cons (ps_if (PW.pt (pw_or (pt_not (pt_val (pe_callB (isiA (K := K) rfl) (by rfl) T.b_isinstance (by decide +kernel) (pa_cons (pv 0) (pa_cons (pe_bltn (v := .ty "tuple") (by rfl) T.b_tuple boot_tuple rfl) pa_nil))))) (pw_or1 (pt_cmpR op_ne (pe_callB (lenA (K := K) rfl) (by rfl) T.b_len (by decide +kernel) (pa_cons (pv 0) pa_nil)) (pe_callB (lenA (K := K) rfl) (by rfl) T.b_len (by decide +kernel) (pa_cons (pv 1) pa_nil)) (nomark _))))) pss_never pss_nil)
  (pss_cons (ps_for PassesOwn.never rfl (pi_zipM (by rfl) T.b_zip (pa_cons (pv 0) (pa_cons (pv 1) pa_nil))) (pg_tup (by rfl) (pgs_cons (pg_name (i := 2) sc_is_choice.nd rfl (Or.inl rfl)) (pgs_cons (pg_name (i := 3) sc_is_choice.nd rfl (Or.inl rfl)) pgs_nil)))
    (pss_cons (ps_if (PW.pt (pw_or (pt_not (pt_val (pe_callB (isiA (K := K) rfl) (by rfl) T.b_isinstance (by decide +kernel) (pa_cons (pv 2) (pa_cons (pe_bltn (v := .ty "tuple") (by rfl) T.b_tuple boot_tuple rfl) pa_nil))))) (pw_or (pt_cmpR op_ne (pe_callB (lenA (K := K) rfl) (by rfl) T.b_len (by decide +kernel) (pa_cons (pv 2) pa_nil)) pe_int (nomark _)) (pw_or (pt_not (pt_val (pe_callB (isiA (K := K) rfl) (by rfl) T.b_isinstance (by decide +kernel) (pa_cons (pe_ix (ixA (K := K) rfl) (pv 2) pe_int (fun _ _ => rfl)) (pa_cons (pe_bltn (v := .ty "str") (by rfl) T.b_str boot_str rfl) pa_nil))))) (pw_or1 (pt_cmpR op_ne (pe_ix (ixA (K := K) rfl) (pv 2) pe_int (fun _ _ => rfl)) (pv 3) (nomark _))))))) pss_never pss_nil)
    (pss_one (ps_if (pt_not (pt_val (pe_c ((ok_is_within T).mono (by decide)) hr (pa_cons (pe_ix (ixA (K := K) rfl) (pv 2) pe_int (fun _ _ => rfl)) (pa_cons pe_int (pa_cons pe_int pa_nil)))))) pss_never pss_nil))))
  (pss_one (ps_ret pe_bl)))), ?_⟩
  have xl := hx.length
  have cl : c.length = ns.length := by rw [← cok.names, List.length_map]
  obtain ⟨t, rfl, hta⟩ := id ht
  refine ⟨_, rfl, _, isi_tt ht, _, rfl, iteF ⟨_, rfl, _, len_t ht, _, rfl, _, len_l hna, rfl, _, rfl, iteNS (by rw [List.length_map, xl, cl]) ?_⟩⟩
  refine ⟨_, rfl, _, rfl, t, na, _, _, rfl, SqT.of hta, SqL.of hna, ?_⟩
  refine for_it (walk_zipM (n := ns.length) (xs := xs) (ys := ns.map V.str) (by omega) (List.length_map _)) (fun i σ H2 => Same H H2 ∧ ∃ x y, σ = [some (.ref t), some (.ref na), x, y]) ⟨Same.refl _, _, _, rfl⟩ (fun i σ H2 _ h => ⟨sqt h.1 (SqT.of hta), sql h.1 (SqL.of hna)⟩) (fun i x σ H2 H3 hi h y => ?_) fun σ H2 h => ?_
  · obtain ⟨s2, x0, y0, rfl⟩ := h
    obtain ⟨T1, x, y, rfl, nT, rfl, hxi, hyi⟩ := y
    have hxi : xs[i]? = some x := hxi
    have hyi : (ns.map V.str)[i]? = some y := hyi
    obtain ⟨p, hp, r⟩ := paired_get hx hxi
    rw [List.getElem?_map] at hyi
    obtain ⟨nm, hnm, rfl⟩ := Option.map_eq_some_iff.mp hyi
    have s3 : Same H2 (upd H2 T1 (.tup [x, .str nm])) := Same.new nT
    have r := stp (s2.trans s3) r
    have en : p.1 = nm := by
      have := congrArg (fun l => l[i]?) cok.names
      simp only [List.getElem?_map, hp, hnm, Option.map_some] at this
      exact Option.some.inj this
    have sd := cok.sides p (List.mem_of_getElem? hp)
    refine tg2 ⟨T1, rfl, upd_same⟩ ⟨_, rfl, _, isi_tt r, _, rfl, iteF ⟨_, rfl, _, len_t r, rfl, _, rfl, iteNS rfl ⟨_, rfl, _, ix_0 r, _, isi_ss, _, rfl, iteF ⟨_, rfl, _, ix_0 r, _, rfl, rfl, _, rfl, iteNS (by rw [en]) ?_⟩⟩⟩⟩
    refine ⟨_, rfl, _, ix_1 r, _, _, _, rfl, .inl ⟨_, rfl, _, rfl, iteF' ?_ ⟨s2.trans s3, _, _, rfl⟩⟩⟩
    rw [decide_eq_true (show (0 : Int) ≤ p.2 by omega), decide_eq_true (show (p.2 : Int) ≤ 1 by omega)]
    rfl
  · obtain ⟨s2, x0, y0, rfl⟩ := h
    exact q H2 s2
abbrev n_choices : List Str := ["names", "found", "name", "one", "side"]
theorem sc_choices : FnScope ["names", "found", "name", "one", "side"] ["names"] (defScope s_choices) := ⟨rfl, rfl, rfl, by decide +kernel, rfl, by decide +kernel, by decide +kernel⟩
theorem ok_choices (T : Tx K mg) : Dfn P w K mg base 1 "choices" ["names"] (fun vs H Q => ∃ (na : Addr) (ns : List Str), vs = [.ref na] ∧ H na = some (.lst (ns.map V.str)) ∧ ns.length ≤ 8 ∧ ∀ H' p ys, Same H H' → H' p = some (.lst ys) → Paired (RCh H') ys (choices ns) → Q (.ref p) H') :=
  Dfn.mk T.f_choices T.g_choices sc_choices (fun _ _ _ _ _ _ us hl => match us, hl with | [_], _ => rfl) (fun vs H Q h => by obtain ⟨na, ns, rfl, _⟩ := h; rfl) fun cdv A outer s0 H vs Q E hr h => by
  obtain ⟨na, ns, rfl, hna, h8, q⟩ := h
  refine ⟨_, (pss_cons (ps_set (i := 1) sc_choices.nd rfl (Or.inl rfl) (pe_lst (pa_cons (pe_tup pa_nil) pa_nil)))
  (pss_cons (ps_for PassesOwn.never rfl (pi_list (pv 0)) (pg_name (i := 2) sc_choices.nd rfl (Or.inr rfl))
    (pss_one (ps_setLc2 (i := 1) (own := [("one", 3), ("side", 4)]) (vs1 := [4]) (g := (gName 3)) (g1 := (gName 4)) (tt := tYes) (tt1 := tYes) rfl sc_choices.nd rfl rfl (sw_true rfl rfl rfl (by decide +kernel)) (pi_list (pv 1)) (blkOk_by (own := [("one", 3), ("side", 4)]) (N := n_choices) (sc := defScope s_choices) (by decide +kernel)) (by decide) (fun _ _ _ _ _ => (pg_name (i := 3) sc_choices.nd rfl (Or.inl rfl))) (fun _ _ _ _ _ => pts_nil) (fun _ _ _ _ _ => (piT (K := K) rfl (pe_tup (pa_cons pe_int (pa_cons pe_int pa_nil))))) (fun _ _ _ _ _ => (pg_name (i := 4) sc_choices.nd rfl (Or.inl rfl))) (fun _ _ _ _ _ => pts_nil) (fun _ _ _ _ _ => (pe_op catA (pv 3) (pe_tup (pa_cons (pe_tup (pa_cons (pv 2) (pa_cons (pv 4) pa_nil))) pa_nil)))))))
  (pss_one (ps_ret (pv 1))))), ?_⟩
  refine ⟨room_le1 (by simp), fun t0 nt0 => ⟨room_le1 (by simp), fun f0 nf0 => ?_⟩⟩
  have s1 : Same H (upd (upd H t0 (.tup [])) f0 (.lst [.ref t0])) := (Same.new nt0).trans (Same.new nf0)
  have ef : (upd (upd H t0 (.tup [])) f0 (.lst [.ref t0])) f0 = some (.lst [.ref t0]) := upd_same
  have et : (upd (upd H t0 (.tup [])) f0 (.lst [.ref t0])) t0 = some (.tup []) := Same.new nf0 _ _ upd_same
  generalize upd (upd H t0 (.tup [])) f0 (.lst [.ref t0]) = H1 at *
  refine ⟨_, rfl, na, rfl, ⟨_, SqL.of (s1 _ _ hna)⟩, ?_⟩
  refine for_it (walk_list (xs := ns.map V.str)) (fun i σ H2 => Same H H2 ∧ ∃ fo ys x, σ = [some (.ref na), some (.ref fo), x, none, none] ∧ H2 fo = some (.lst ys) ∧ Paired (RCh H2) ys (choices (ns.take i))) ⟨s1, f0, _, _, rfl, ef, .cons ⟨[], ⟨t0, rfl, et⟩, .nil⟩ .nil⟩ (fun i σ H2 _ h => sql h.1 (SqL.of hna)) (fun i x σ H2 H3 hi h y => ?_) fun σ H2 h => ?_
  · obtain ⟨s2, fo, ys, x0, rfl, hfo, hys⟩ := h
    obtain ⟨rfl, hx⟩ := y
    rw [List.getElem?_map] at hx
    obtain ⟨nm, hnm, rfl⟩ := Option.map_eq_some_iff.mp hx
    have tk := take_snoc hnm
    have il : i < ns.length := (List.getElem?_eq_some_iff.mp hnm).1
    have pe : choices (ns.take (i + 1)) = (choices (ns.take i)).flatMap fun one => [one ++ [(nm, 0)], one ++ [(nm, 1)]] := by rw [tk, choices_snoc]
    have cl : (choices (ns.take (i + 1))).length ≤ 256 := by
      rw [choices_len]
      exact Nat.pow_le_pow_right (n := 2) (by decide) (show (ns.take (i + 1)).length ≤ 8 by rw [List.length_take]; omega)
    refine ⟨_, rfl, fo, rfl, ⟨_, SqL.of hfo⟩, fun D hD => ?_⟩
    refine lc2_all (walk_list (xs := ys)) hD (choices (ns.take i)) hys.length.symm (fun one => [one ++ [(nm, 0)], one ++ [(nm, 1)]]) RCh (fun H H' b y k => RCh.mono k) gm_name gm_name (by rw [← pe]; omega) (fun H7 s7 => SqL.of (s7 _ _ hfo)) (fun k x H7 H8 a ha s7 y => ?_) fun H7 zs2 s7 hz2 hZ2 => ?_
    · obtain ⟨rfl, hx⟩ := y
      obtain ⟨a', ha', ra⟩ := paired_get hys hx
      rw [ha] at ha'
      cases ha'
      have ca := (mem_choices _ _).mp (List.mem_of_getElem? ha)
      have al : a.length ≤ 8 := by
        have := congrArg List.length ca.1
        rw [List.length_map, List.length_take] at this
        omega
      have wt : ∀ t, Walk (Itt K t) 2 (fun H => SqT K H t [.int 0, .int 1]) (YAt [.int 0, .int 1]) := fun t => walk_tup (K := K) (a := t) (xs := [V.int 0, V.int 1])
      refine ⟨rfl, fun Rk kk => ⟨two_le, fun t nt => ⟨t, rfl, ⟨_, SqT.of upd_same⟩, kk (Itt K t) (fun H => SqT K H t [.int 0, .int 1]) (YAt [.int 0, .int 1]) _ (Same.new nt) (wt t) (fun H9 _ t9 => SqT.of (t9 _ _ upd_same)) fun j b x2 H9 H10 hb s9 t9 y => ?_⟩⟩⟩
      obtain ⟨rfl, hx2⟩ := y
      obtain ⟨sd, hsd, e2⟩ : ∃ sd : Nat, x2 = .int (sd : Nat) ∧ b = a ++ [(nm, sd)] := by
        match j, hb, hx2 with
        | 0, hb, hx2 => cases hb; cases hx2; exact ⟨0, rfl, rfl⟩
        | 1, hb, hx2 => cases hb; cases hx2; exact ⟨1, rfl, rfl⟩
        | j + 2, hb, hx2 => simp at hb
      subst hsd e2
      obtain ⟨xs1, t1, p1⟩ := (ra.mono (Same.tk s7)).mono ((Tk.new nt).trans t9)
      refine ⟨rfl, fun Qc kc => ⟨_, rfl, _, rfl, _, rfl, two_le, fun t2 n2 => ⟨room_le1 (by simp), fun t3 n3 => ⟨xs1, [.ref t2], ?_, ⟨t3, rfl, upd_same⟩, by rw [p1.length]; simp; omega, fun v1 H11 s11 hv => ?_⟩⟩⟩⟩
      · exact stp ((Same.new n2).trans (Same.new n3)) t1
      · have sA := ((Same.new (o := .tup [.str nm, .int (sd : Nat)]) n2).trans (Same.new (o := .tup [.ref t2]) n3)).trans s11
        refine kc v1 H11 sA ⟨_, hv, (pimp (fun _ _ h => stp sA h) p1).snoc ?_⟩
        exact stp s11 ⟨t2, rfl, Same.new n3 _ _ upd_same⟩
    · exact ⟨s2.trans s7, D, zs2, _, rfl, hz2, by rw [pe]; exact hZ2⟩
  · obtain ⟨s2, fo, ys, x0, rfl, hfo, hys⟩ := h
    rw [List.length_map, List.take_length] at hys
    exact ⟨_, rfl, q H2 fo ys s2 hfo hys⟩
abbrev n_chosen : List Str := ["hall", "choice", "known", "name", "side", "found", "at", "_"]
theorem sc_chosen : FnScope ["hall", "choice", "known", "name", "side", "found", "at", "_"] ["hall", "choice"] (defScope s_chosen) := ⟨rfl, rfl, rfl, by decide +kernel, rfl, by decide +kernel, by decide +kernel⟩
theorem ok_chosen (T : Tx K mg) : Dfn P w K mg base 1 "chosen" ["hall", "choice"] (fun vs H Q => ∃ (v u : V) (bs : List Brd) (nms : List Str) (c : List (Str × Nat)), vs = [v, u] ∧ RHall K H v bs nms ∧ RCh H u c ∧ (c.map (·.1)).Nodup ∧ c.length ≤ 1000 ∧ ∀ H' m, Same H H' → ChosenMask bs c m → Q (.int (m : Nat)) H') :=
  Dfn.mk T.f_chosen T.g_chosen sc_chosen (fun _ _ _ _ _ _ us hl => match us, hl with | [_, _], _ => rfl) (fun vs H Q h => by obtain ⟨v, u, bs, nms, c, rfl, _⟩ := h; rfl) fun cdv A outer s0 H vs Q E hr h => by
  obtain ⟨v, u, bs, nms, c, rfl, hh, ⟨xs, ⟨ta, rfl, hta⟩, hx⟩, nd, cl, q⟩ := h
  refine ⟨_, (pss_cons (ps_setDc (i := 2) (own := [("name", 3), ("side", 4)]) (g := (gTup K 2 (gCons (gName 3) (gCons (gName 4) gNil)))) (tt := tYes) rfl sc_chosen.nd rfl rfl (sw_trueD rfl rfl rfl (by decide +kernel)) (pi_tup (pv 1)) (blkOk_by (own := [("name", 3), ("side", 4)]) (N := n_chosen) (sc := defScope s_chosen) (by decide +kernel)) (fun _ _ _ _ _ => (pg_tup (by rfl) (pgs_cons (pg_name (i := 3) sc_chosen.nd rfl (Or.inl rfl)) (pgs_cons (pg_name (i := 4) sc_chosen.nd rfl (Or.inl rfl)) pgs_nil)))) (fun _ _ _ _ _ => pts_nil) (fun _ _ _ _ _ => (pv 3)) (fun _ _ _ _ _ => (pv 4)))
  (pss_cons (ps_set (i := 5) sc_chosen.nd rfl (Or.inl rfl) pe_int)
  (pss_cons (ps_for PassesOwn.never rfl (pi_enumT (by rfl) T.b_enumerate (pa_cons (pe_fldA (K := K) rfl tm_var (pv 0) rfl) pa_nil)) (pg_tup (by rfl) (pgs_cons (pg_name (i := 6) sc_chosen.nd rfl (Or.inl rfl)) (pgs_cons (pg_tup (by rfl) (pgs_cons (pg_name (i := 3) sc_chosen.nd rfl (Or.inl rfl)) (pgs_cons (pg_name (i := 4) sc_chosen.nd rfl (Or.inl rfl)) (pgs_cons (pg_name (i := 7) sc_chosen.nd rfl (Or.inl rfl)) pgs_nil)))) pgs_nil)))
    (pss_one (ps_if (PW.pt (pw_and (pt_cmp (pc_din (hu_of hr) (pv 3) (pv 2))) (pw_and1 (pt_cmpR op_eq (pe_dget (hu_of hr) (pv 2) (pv 3) (fun _ _ => rfl)) (pv 4) (nomark _)))))
      (pss_one (ps_set (i := 5) sc_chosen.nd rfl (Or.inl rfl) (pe_op op_or (pv 5) (pe_op op_shl pe_int (pv 6))))) pss_nil)))
  (pss_one (ps_ret (pv 5)))))), ?_⟩
  have ok : BdsOk bs := (let ⟨_, _, _, _, _, _, _, _, h, _⟩ := hh; h)
  have h8 := ok.hi
  have xl := hx.length
  let kvOf : List (Str × Nat) → List (Key × V) := fun c => c.map fun q => ((Sum.inr q.1 : Key), V.int (q.2 : Nat))
  refine ⟨_, rfl, ta, rfl, ⟨_, SqT.of hta⟩, fun D hD => ?_⟩
  refine dc_tup (K := K) (xs := xs) (fun i H2 => Same H H2 ∧ H2 D = some (.dK (kvOf (c.take i)))) ⟨Same.new hD, upd_same⟩ (fun i H2 _ h => sqt h.1 (SqT.of hta)) (fun i x H2 hxi h => ?_) fun H2 h => ?_
  · obtain ⟨s2, hd⟩ := h
    obtain ⟨p, hp, r⟩ := paired_get hx hxi
    have tk := take_snoc hp
    refine tg2 (stp s2 r) ⟨rfl, _, rfl, _, rfl, _, .inr p.1, rfl, hd, ?_, sput hD s2, ?_⟩
    · show (List.map _ (c.take i)).length < _
      rw [List.length_map, List.length_take, sizeLine_eq]; omega
    · rw [upd_same, tk]
      have nd2 : ((c.take (i + 1)).map (·.1)).Nodup := by
        rw [List.map_take]
        exact nd.sublist (List.take_sublist _ _)
      rw [tk, List.map_append] at nd2
      show some (HO.dK (putK (kvOf (c.take i)) (.inr p.1) (.int (p.2 : Nat)))) = some (HO.dK (kvOf (c.take i ++ [p])))
      unfold putK
      rw [if_neg]
      · show _ = some (HO.dK (List.map _ (c.take i ++ [p])))
        rw [List.map_append]; rfl
      · intro z
        obtain ⟨kv, h1, h2⟩ := List.any_eq_true.mp z
        obtain ⟨p2, hp2, rfl⟩ := List.mem_map.mp h1
        have e := of_decide_eq_true h2
        injection e with e
        exact (List.nodup_append.mp nd2).2.2 _ (List.mem_map_of_mem hp2) _ (by simp) e
  obtain ⟨s2, hd⟩ := h
  rw [xl, List.take_length] at hd
  obtain ⟨bv, hf, hb⟩ := (hh.mono s2).boards T
  obtain ⟨ys, ⟨t, rfl, ht⟩, hy⟩ := hb
  have yl := hy.length
  refine ⟨_, rfl, _, hf, t, ys, rfl, SqT.of ht, ?_⟩
  refine for_it walk_enumT (fun i σ H3 => Same H2 H3 ∧ ∃ m x y z u, σ = [some v, some (.ref ta), some (.ref D), x, y, some (.int ((m : Nat) : Int)), z, u] ∧ ∀ k, m.testBit k = true ↔ k < i ∧ picked c (bAt bs k) = true) ⟨Same.refl _, 0, _, _, _, _, rfl, fun k => by simp⟩ (fun i σ H3 _ h => sqt h.1 (SqT.of ht)) (fun i x σ H3 H4 hi h y => ?_) fun σ H3 h => ?_
  · obtain ⟨s3, m, x0, y0, z0, u0, rfl, hm⟩ := h
    obtain ⟨T1, n, y, rfl, nT, rfl, hn, hyi⟩ := y
    have hn : some (V.int (i : Nat)) = some n := hn
    cases hn
    have hyi : ys[i]? = some y := hyi
    obtain ⟨b, hbi, r⟩ := paired_get hy hyi
    have eb := bAt_get hbi
    have s4 : Same H3 (upd H3 T1 (.tup [.int (i : Nat), y])) := Same.new nT
    have s24 := s3.trans s4
    obtain ⟨rr, hr1, hr2⟩ := r.mono (Same.tk s24)
    have hd4 := s24 _ _ hd
    have pv0 := picked_val c nd b
    -- both ways out
    have yes : picked c b = true → ∀ k, (m ||| (1 <<< i)).testBit k = true ↔ k < i + 1 ∧ picked c (bAt bs k) = true := fun hp k => by
      rw [Nat.testBit_or, Bool.or_eq_true, hm, testBit_one, decide_eq_true_eq]
      constructor
      · rintro (⟨h1, h2⟩ | rfl)
        · exact ⟨by omega, h2⟩
        · exact ⟨by omega, by rw [eb]; exact hp⟩
      · rintro ⟨h1, h2⟩
        rcases Nat.lt_or_ge k i with z | z
        · exact .inl ⟨z, h2⟩
        · exact .inr (by omega)
    have no : picked c b = false → ∀ k, m.testBit k = true ↔ k < i + 1 ∧ picked c (bAt bs k) = true := fun hp k => by
      rw [hm]
      constructor
      · rintro ⟨h1, h2⟩
        exact ⟨by omega, h2⟩
      · rintro ⟨h1, h2⟩
        rcases Nat.lt_or_ge k i with z | z
        · exact ⟨z, h2⟩
        · have : k = i := by omega
          rw [this, eb, hp] at h2
          cases h2
    refine ⟨T1, _, rfl, SqT.of upd_same, rfl, _, _, rfl, _, _, rfl, tg3 hr1 ⟨rfl, ?_⟩⟩
    refine ⟨_, rfl, _, rfl, D, _, rfl, DGet.k (k := Sum.inr b.nm) hd4, _, rfl, ?_⟩
    cases e : valV (kvOf c) (.inr b.nm) with
    | none =>
      have e' : valV (c.map fun q => ((Sum.inr q.1 : Key), V.int (q.2 : Nat))) (.inr b.nm) = none := e
      rw [e'] at pv0
      exact ⟨s24, m, _, _, _, _, rfl, no pv0.symm⟩
    | some sv =>
      obtain ⟨s, rfl⟩ : ∃ s : Nat, sv = .int (s : Nat) := by
        unfold valV at e
        obtain ⟨kv, h1, h2⟩ := Option.map_eq_some_iff.mp e
        obtain ⟨p, hp, rfl⟩ := List.mem_map.mp (List.mem_of_find?_eq_some h1)
        exact ⟨p.2, h2.symm⟩
      have e' : valV (c.map fun q => ((Sum.inr q.1 : Key), V.int (q.2 : Nat))) (.inr b.nm) = some (.int (s : Nat)) := e
      rw [e'] at pv0
      have pv0 : decide ((s : Int) = (b.sd : Int)) = picked c b := pv0
      refine ⟨_, rfl, _, rfl, D, _, rfl, e ▸ DGet.k (k := Sum.inr b.nm) hd4, _, rfl, rfl, _, rfl, ite2 (fun cc => ?_) fun cc => ?_⟩
      · have hp : picked c b = true := by
          rw [int_dec] at cc
          rw [← pv0]
          exact decide_eq_true (by have := of_decide_eq_true cc; omega)
        refine ⟨_, rfl, _, rfl, _, _, rfl, rfl, ⟨Int.natCast_nonneg _, by omega, by decide⟩, _, _, rfl, rfl, s24, m ||| (1 <<< i), some (.str b.nm), some (.int (b.sd : Nat)), some (.int (i : Nat)), some rr, ?_, yes hp⟩
        rw [← or_nat]
        rfl
      · have hp : picked c b = false := by
          rw [int_dec] at cc
          rw [← pv0]
          exact decide_eq_false fun z => cc (decide_eq_true (by omega))
        exact ⟨s24, m, _, _, _, _, rfl, no hp⟩
  · obtain ⟨s3, m, x0, y0, z0, u0, rfl, hm⟩ := h
    rw [yl] at hm
    exact ⟨_, rfl, q H3 m (s2.trans s3) hm⟩
end
end Ug

/-! what the verdicts need -/
namespace Ug
open PySem PySem.Spec PyProof.Rows L2
theorem u9 {k : Nat} {A : Around} (hr : Room k A) : A.units + 9 < cLine := by have := hr.units; omega
theorem inNDA {X : Cx} {P : Program} {w : World} (hP : X.prog = P) (hw : X.w = w) (hu : X.A.units + 9 < cLine) : OpR X (compareOp .In) (rInND P w) := by
  subst hP hw
  exact op_inND hu
theorem cnt_same {cnt : List Nat} {m k : Nat} (h : ∀ b, m.testBit b = k.testBit b) : cntOf cnt m = cntOf cnt k := by rw [Nat.eq_of_testBit_eq h]
theorem cnt_bits {cnt : List Nat} {m : Nat} {l : List Nat} (h : BitsAre m l) : cntOf cnt (bitsOr 0 l) = cntOf cnt m := cnt_same fun b => by
  rw [testBit_bitsOr, Nat.zero_testBit, Bool.false_or, Bool.eq_iff_iff, decide_eq_true_eq]
  exact h.mem b
theorem chosen_one {bs : List Brd} {c : List (Str × Nat)} {m k : Nat} (h : ChosenMask bs c m) (h' : ChosenMask bs c k) : m = k := Nat.eq_of_testBit_eq fun b => by
  rw [Bool.eq_iff_iff, h b, h' b]
theorem outc_small {p : List (Nat × Nat)} {m : Nat} (nd : (brds p).Nodup) (h : m ∈ outc p) (hq : ∀ q ∈ p, q.1 < 1000 ∧ q.2 < 1000) : m < 2 ^ 1000 := by
  obtain ⟨s, hs, _, hb⟩ := out_lot nd h
  refine Nat.lt_pow_two_of_testBit _ fun i hi => ?_
  rw [Bool.eq_false_iff]
  intro z
  obtain ⟨q, h1, h2⟩ := mem_brds.mp (hs.sub.subset ((hb i).mp z))
  have := hq q h1
  omega
/-- the lot of an outcome -/
structure LotOk (bs : List Brd) (p : List (Nat × Nat)) (l : List Nat) : Prop where
  asc : l.Pairwise (· < ·)
  lt : ∀ k ∈ l, k < bs.length
  len : l.length = p.length
  one : ∀ q ∈ p, decide (q.1 ∈ l) ≠ decide (q.2 ∈ l)
theorem lot_ok {bs : List Brd} {p : List (Nat × Nat)} {m : Nat} {l : List Nat} (pok : PgOk bs p) (hm : m ∈ outc p) (hb : BitsAre m l) : LotOk bs p l := by
  obtain ⟨s, hs, snd, hbit⟩ := out_lot pok.nd hm
  have mem : ∀ k, k ∈ l ↔ k ∈ s := fun k => by rw [hb.mem, hbit]
  have lnd : l.Nodup := hb.asc.imp fun {a b} h => Nat.ne_of_lt h
  refine ⟨hb.asc, fun k hk => ?_, ?_, fun q hq => ?_⟩
  · obtain ⟨q, h1, h2⟩ := mem_brds.mp (hs.sub.subset ((mem k).mp hk))
    have := pok.lt q h1
    omega
  · rw [← hs.len]
    exact Nat.le_antisymm (nodup_len l s lnd fun x hx => (mem x).mp hx) (nodup_len s l snd fun x hx => (mem x).mpr hx)
  · rcases hs.one pok.nd q hq with ⟨h1, h2⟩ | ⟨h1, h2⟩
    · rw [decide_eq_true ((mem _).mpr h1), decide_eq_false (fun z => h2 ((mem _).mp z))]
      exact fun z => Bool.noConfusion z
    · rw [decide_eq_false (fun z => h1 ((mem _).mp z)), decide_eq_true ((mem _).mpr h2)]
      exact fun z => Bool.noConfusion z
theorem PgOk.idx {bs : List Brd} {p : List (Nat × Nat)} (h : PgOk bs p) (h8 : bs.length ≤ 8) : ∀ q ∈ p, q.1 < 1000 ∧ q.2 < 1000 := fun q hq => by
  have := h.lt q hq
  omega
/-- a pairing's outcomes all keep the aim -/
def Sure (n : Nat) (cnt : List Nat) (p : List (Nat × Nat)) : Prop := ∀ m ∈ outc p, n ≤ cntOf cnt m
/-- the book of the spoilers, at d -/
structure Book (P : Program) (w : World) (H : Hp) (d : Addr) (n : Nat) (cnt : List Nat) (L : List (List (Nat × Nat))) (es : Array DictEntry) (ep : Nat) (ks : List (List (Nat × Nat) × Addr × Addr)) : Prop where
  at_ : H d = some (NDo d es ep)
  ents : Ents P w es ks
  keys : KeysIn H ks
  are : ks.map (·.1) = L
  lots : ∀ k ∈ ks, ∃ l m, RLot H (.ref k.2.2) l ∧ m ∈ outc k.1 ∧ BitsAre m l ∧ ¬ n ≤ cntOf cnt m
theorem Book.mono {P : Program} {w : World} {H H' : Hp} {d : Addr} {n : Nat} {cnt : List Nat} {L : List (List (Nat × Nat))} {es : Array DictEntry} {ep : Nat} {ks : List (List (Nat × Nat) × Addr × Addr)} (s : Same H H') (b : Book P w H d n cnt L es ep ks) : Book P w H' d n cnt L es ep ks :=
  ⟨s _ _ b.at_, b.ents, b.keys.mono (Same.tk s), b.are, fun k hk => let ⟨l, m, h1, h2⟩ := b.lots k hk; ⟨l, m, h1.mono (Same.tk s), h2⟩⟩
end Ug

/-! meeting.py's spoilers, verdicts.py -/
namespace Ug
open PySem PySem.Spec PyProof.Rows L2
section
variable {P : Program} {w : World} {K : PySem.W.Frag} {mg : Str → Option Value} {base : Heap}
abbrev n_met_spoiler : List Str := ["hall", "aim", "names", "choice"]
theorem sc_met_spoiler : FnScope ["hall", "aim", "names", "choice"] ["hall", "aim"] (defScope s_met_spoiler) := ⟨rfl, rfl, rfl, by decide +kernel, rfl, by decide +kernel, by decide +kernel⟩
theorem ok_met_spoiler (T : Tx K mg) : Dfn P w K mg base 8 "met_spoiler" ["hall", "aim"] (fun vs H Q => ∃ (v u : V) (bs : List Brd) (nms : List Str) (n : Nat) (cnt : List Nat), vs = [v, u] ∧ RHall K H v bs nms ∧ (∀ b ∈ bs, b.rw = []) ∧ RAim H u n cnt ∧ AimOk bs n cnt ∧
    ∀ H' r, Same H H' → ((r = .non ∧ ∀ c, ChOk (two bs nms) c → ∃ m, ChosenMask bs c m ∧ n ≤ cntOf cnt m) ∨ (∃ c m, RCh H' r c ∧ ChOk (two bs nms) c ∧ ChosenMask bs c m ∧ ¬ n ≤ cntOf cnt m)) → Q r H') :=
  Dfn.mk T.f_met_spoiler T.g_met_spoiler sc_met_spoiler (fun _ _ _ _ _ _ us hl => match us, hl with | [_, _], _ => rfl) (fun vs H Q h => by obtain ⟨v, u, bs, nms, n, cnt, rfl, _⟩ := h; rfl) fun cdv A outer s0 H vs Q E hr h => by
  obtain ⟨v, u, bs, nms, n, cnt, rfl, hh, hfr, ha, aok, q⟩ := h
  refine ⟨_, (pss_cons (ps_expr (pe_c ((ok_check_fresh T).mono (by decide)) hr (pa_cons (pv 0) pa_nil)))
  (pss_cons (ps_expr (pe_c ((ok_check_aim T).mono (by decide)) hr (pa_cons (pv 0) (pa_cons (pv 1) pa_nil))))
  (pss_cons (ps_set (i := 2) sc_met_spoiler.nd rfl (Or.inl rfl) (pe_c ((ok_two_sided_names T).mono (by decide)) hr (pa_cons (pv 0) pa_nil)))
  (pss_cons (ps_if (pt_cmpR op_gt (pe_callB (lenA (K := K) rfl) (by rfl) T.b_len (by decide +kernel) (pa_cons (pv 2) pa_nil)) (pe_gI (by rfl) T.c_MOST_CHOSEN) (nomark _)) pss_never pss_nil)
  (pss_cons (ps_for PassesOwn.never rfl (pi_list (pe_c ((ok_choices T).mono (by decide)) hr (pa_cons (pv 2) pa_nil))) (pg_name (i := 3) sc_met_spoiler.nd rfl (Or.inl rfl))
    (pss_one (ps_if (pt_not (pt_val (pe_c ((ok_holds T).mono (by decide)) hr (pa_cons (pv 1) (pa_cons (pe_c ((ok_chosen T).mono (by decide)) hr (pa_cons (pv 0) (pa_cons (pv 3) pa_nil))) pa_nil)))))
      (pss_one (ps_ret (pv 3))) pss_nil)))
  (pss_one (ps_ret pe_non))))))), ?_⟩
  have ok : BdsOk bs := (let ⟨_, _, _, _, _, _, _, _, h, _⟩ := hh; h)
  have nok : NamesOk bs nms := (let ⟨_, _, _, _, _, _, _, _, _, h⟩ := hh; h)
  have h8 := ok.hi
  have nl := nok.len
  have tl : (two bs nms).length ≤ 8 := by
    unfold two
    exact Nat.le_trans (List.length_filter_le _ _) (by omega)
  have tnd : (two bs nms).Nodup := by unfold two; exact nok.nd.sublist List.filter_sublist
  refine ⟨_, rfl, _, bs, nms, rfl, hh, hfr, fun H1 s1 => ?_⟩
  refine ⟨_, rfl, _, rfl, _, _, bs, nms, n, cnt, rfl, hh.mono s1, ha.mono s1, aok, fun H2 s2 => ?_⟩
  have s12 := s1.trans s2
  refine ⟨_, rfl, _, bs, nms, rfl, hh.mono s12, fun H3 p s3 hp => ?_⟩
  have s13 := s12.trans s3
  refine ⟨_, rfl, _, len_l hp, _, _, rfl, rfl, _, rfl, iteCN (by rw [List.length_map]; omega) ?_⟩
  refine ⟨_, rfl, p, _, rfl, hp, tl, fun H4 cp ys s4 hcp hys => ?_⟩
  have s14 := s13.trans s4
  have yl := hys.length
  have cl := choices_len (two bs nms)
  refine ⟨cp, rfl, ⟨_, SqL.of hcp⟩, ?_⟩
  refine for_it (walk_list (xs := ys)) (fun i σ H5 => Same H4 H5 ∧ (∃ x, σ = [some v, some u, some (.ref p), x]) ∧ ∀ c ∈ (choices (two bs nms)).take i, ∃ m, ChosenMask bs c m ∧ n ≤ cntOf cnt m) ⟨Same.refl _, ⟨_, rfl⟩, fun c hc => by rw [List.take_zero] at hc; cases hc⟩ (fun i σ H5 _ h => sql h.1 (SqL.of hcp)) (fun i x σ H5 H6 hi h y => ?_) fun σ H5 h => ?_
  · obtain ⟨s5, ⟨x0, rfl⟩, hall⟩ := h
    obtain ⟨rfl, hx⟩ := y
    obtain ⟨c, hc, r⟩ := paired_get hys hx
    have r5 := r.mono (Same.tk s5)
    have s15 := s14.trans s5
    have cm := (mem_choices _ _).mp (List.mem_of_getElem? hc)
    have cok : ChOk (two bs nms) c := ⟨cm.1, cm.2⟩
    have clen : c.length ≤ 1000 := by have := congrArg List.length cm.1; rw [List.length_map] at this; omega
    refine ⟨_, rfl, _, rfl, _, rfl, _, _, bs, nms, c, rfl, hh.mono s15, r5, by rw [cm.1]; exact tnd, clen, fun H7 m s7 hm => ?_⟩
    refine ⟨_, m, n, cnt, rfl, (ha.mono s15).mono s7, by have := aok.len; omega, fun H8 s8 => ⟨_, rfl, ite2 (fun cc => ?_) fun cc => ?_⟩⟩
    · have nle : ¬ n ≤ cntOf cnt m := by simpa using cc
      exact ⟨_, rfl, q H8 x (s15.trans (s7.trans s8)) (.inr ⟨c, m, r5.mono (Same.tk (s7.trans s8)), cok, hm, nle⟩)⟩
    · have le : n ≤ cntOf cnt m := by simpa using cc
      refine ⟨s5.trans (s7.trans s8), ⟨_, rfl⟩, fun c' hc' => ?_⟩
      rw [take_snoc hc] at hc'
      rcases List.mem_append.mp hc' with hc' | hc'
      · exact hall c' hc'
      · rw [List.mem_singleton.mp hc']; exact ⟨m, hm, le⟩
  · obtain ⟨s5, ⟨x0, rfl⟩, hall⟩ := h
    rw [yl, List.take_length] at hall
    exact q H5 .non (s14.trans s5) (.inl ⟨rfl, fun c hc => hall c ((mem_choices _ _).mpr ⟨hc.names, hc.sides⟩)⟩)
abbrev n_is_met_spoiler : List Str := ["hall", "aim", "thing"]
theorem sc_is_met_spoiler : FnScope ["hall", "aim", "thing"] ["hall", "aim", "thing"] (defScope s_is_met_spoiler) := ⟨rfl, rfl, rfl, by decide +kernel, rfl, by decide +kernel, by decide +kernel⟩
theorem ok_is_met_spoiler (T : Tx K mg) : Dfn P w K mg base 8 "is_met_spoiler" ["hall", "aim", "thing"] (fun vs H Q => ∃ (v u t : V) (bs : List Brd) (nms : List Str) (n m : Nat) (cnt : List Nat) (c : List (Str × Nat)), vs = [v, u, t] ∧ RHall K H v bs nms ∧ (∀ b ∈ bs, b.rw = []) ∧ RAim H u n cnt ∧ AimOk bs n cnt ∧
    RCh H t c ∧ ChOk (two bs nms) c ∧ ChosenMask bs c m ∧ (¬ n ≤ cntOf cnt m) ∧ ∀ H', Same H H' → Q (.bl true) H') :=
  Dfn.mk T.f_is_met_spoiler T.g_is_met_spoiler sc_is_met_spoiler (fun _ _ _ _ _ _ us hl => match us, hl with | [_, _, _], _ => rfl) (fun vs H Q h => by obtain ⟨v, u, t, bs, nms, n, m, cnt, c, rfl, _⟩ := h; rfl) fun cdv A outer s0 H vs Q E hr h => by
  obtain ⟨v, u, t, bs, nms, n, m, cnt, c, rfl, hh, hfr, ha, aok, hc, cok, hm, hnle, q⟩ := h
  refine ⟨_, (pss_cons (ps_expr (pe_c ((ok_check_fresh T).mono (by decide)) hr (pa_cons (pv 0) pa_nil)))
  (pss_cons (ps_expr (pe_c ((ok_check_aim T).mono (by decide)) hr (pa_cons (pv 0) (pa_cons (pv 1) pa_nil))))
  (pss_one (ps_ret (pe_and (pe_c ((ok_is_choice T).mono (by decide)) hr (pa_cons (pv 2) (pa_cons (pe_c ((ok_two_sided_names T).mono (by decide)) hr (pa_cons (pv 0) pa_nil)) pa_nil))) (pe_one (pe_not (pe_c ((ok_holds T).mono (by decide)) hr (pa_cons (pv 1) (pa_cons (pe_c ((ok_chosen T).mono (by decide)) hr (pa_cons (pv 0) (pa_cons (pv 2) pa_nil))) pa_nil)))))))))), ?_⟩
  have ok : BdsOk bs := (let ⟨_, _, _, _, _, _, _, _, h, _⟩ := hh; h)
  have nok : NamesOk bs nms := (let ⟨_, _, _, _, _, _, _, _, _, h⟩ := hh; h)
  have h8 := ok.hi
  have nl := nok.len
  have tl : (two bs nms).length ≤ 8 := by
    unfold two
    exact Nat.le_trans (List.length_filter_le _ _) (by omega)
  have tnd : (two bs nms).Nodup := by unfold two; exact nok.nd.sublist List.filter_sublist
  have clen : c.length ≤ 1000 := by have := congrArg List.length cok.names; rw [List.length_map] at this; omega
  refine ⟨_, rfl, _, bs, nms, rfl, hh, hfr, fun H1 s1 => ?_⟩
  refine ⟨_, rfl, _, rfl, _, _, bs, nms, n, cnt, rfl, hh.mono s1, ha.mono s1, aok, fun H2 s2 => ?_⟩
  have s12 := s1.trans s2
  refine ⟨_, rfl, _, rfl, _, bs, nms, rfl, hh.mono s12, fun H3 p s3 hp => ?_⟩
  have s13 := s12.trans s3
  refine ⟨_, p, _, c, rfl, hc.mono (Same.tk s13), hp, cok, fun H4 s4 => ⟨_, rfl, iteT ?_⟩⟩
  have s14 := s13.trans s4
  refine ⟨_, rfl, _, rfl, _, rfl, _, _, bs, nms, c, rfl, hh.mono s14, hc.mono (Same.tk s14), by rw [cok.names]; exact tnd, clen, fun H5 k s5 hk => ?_⟩
  have : k = m := chosen_one hk hm
  subst this
  refine ⟨_, k, n, cnt, rfl, (ha.mono s14).mono s5, by have := aok.len; omega, fun H6 s6 => ⟨_, rfl, ?_⟩⟩
  rw [decide_eq_false hnle]
  exact q H6 (s14.trans (s5.trans s6))
abbrev n_spoiling : List Str := ["aim", "pairing", "mask"]
theorem sc_spoiling : FnScope ["aim", "pairing", "mask"] ["aim", "pairing"] (defScope s_spoiling) := ⟨rfl, rfl, rfl, by decide +kernel, rfl, by decide +kernel, by decide +kernel⟩
theorem ok_spoiling (T : Tx K mg) : Dfn P w K mg base 3 "spoiling" ["aim", "pairing"] (fun vs H Q => ∃ (u t : V) (n : Nat) (cnt : List Nat) (p : List (Nat × Nat)), vs = [u, t] ∧ RAim H u n cnt ∧ cnt.length ≤ 1000 ∧ RPg H t p ∧ p.length ≤ 8 ∧ (∀ q ∈ p, q.1 < 1000 ∧ q.2 < 1000) ∧
    ∀ H' r, Same H H' → ((r = .non ∧ Sure n cnt p) ∨ (∃ m : Nat, r = .int (m : Nat) ∧ m ∈ outc p ∧ ¬ n ≤ cntOf cnt m)) → Q r H') :=
  Dfn.mk T.f_spoiling T.g_spoiling sc_spoiling (fun _ _ _ _ _ _ us hl => match us, hl with | [_, _], _ => rfl) (fun vs H Q h => by obtain ⟨u, t, n, cnt, p, rfl, _⟩ := h; rfl) fun cdv A outer s0 H vs Q E hr h => by
  obtain ⟨u, t, n, cnt, p, rfl, ha, al, hp, h8, hq, q⟩ := h
  refine ⟨_, (pss_cons (ps_for PassesOwn.never rfl (pi_list (pe_c ((ok_outcomes T).mono (by decide)) hr (pa_cons (pv 1) pa_nil))) (pg_name (i := 2) sc_spoiling.nd rfl (Or.inl rfl))
    (pss_one (ps_if (pt_not (pt_val (pe_c ((ok_holds T).mono (by decide)) hr (pa_cons (pv 0) (pa_cons (pv 2) pa_nil)))))
      (pss_one (ps_ret (pv 2))) pss_nil)))
  (pss_one (ps_ret pe_non))), ?_⟩
  refine ⟨_, rfl, _, p, rfl, hp, h8, hq, fun H1 a s1 h1 => ?_⟩
  refine ⟨a, rfl, ⟨_, SqL.of h1⟩, ?_⟩
  refine for_it (walk_list (xs := nats (outc p))) (fun i σ H2 => Same H1 H2 ∧ (∃ x, σ = [some u, some t, x]) ∧ ∀ m ∈ (outc p).take i, n ≤ cntOf cnt m) ⟨Same.refl _, ⟨_, rfl⟩, fun c hc => by rw [List.take_zero] at hc; cases hc⟩ (fun i σ H2 _ h => sql h.1 (SqL.of h1)) (fun i x σ H2 H3 hi h y => ?_) fun σ H2 h => ?_
  · obtain ⟨s2, ⟨x0, rfl⟩, hall⟩ := h
    obtain ⟨rfl, hx⟩ := y
    obtain ⟨m, hm, rfl⟩ := nats_at hx
    have s12 := s1.trans s2
    refine ⟨_, rfl, _, rfl, _, m, n, cnt, rfl, ha.mono s12, al, fun H4 s4 => ⟨_, rfl, ite2 (fun cc => ?_) fun cc => ?_⟩⟩
    · have nle : ¬ n ≤ cntOf cnt m := by simpa using cc
      exact ⟨_, rfl, q H4 _ (s12.trans s4) (.inr ⟨m, rfl, List.mem_of_getElem? hm, nle⟩)⟩
    · have le : n ≤ cntOf cnt m := by simpa using cc
      refine ⟨s2.trans s4, ⟨_, rfl⟩, fun c' hc' => ?_⟩
      rw [take_snoc hm] at hc'
      rcases List.mem_append.mp hc' with hc' | hc'
      · exact hall c' hc'
      · rw [List.mem_singleton.mp hc']; exact le
  · obtain ⟨s2, ⟨x0, rfl⟩, hall⟩ := h
    rw [nats_length, List.take_length] at hall
    exact q H2 .non (s1.trans s2) (.inl ⟨rfl, hall⟩)
abbrev n_sure_of : List Str := ["hall", "aim", "some", "pairing"]
theorem sc_sure_of : FnScope ["hall", "aim", "some", "pairing"] ["hall", "aim", "some"] (defScope s_sure_of) := ⟨rfl, rfl, rfl, by decide +kernel, rfl, by decide +kernel, by decide +kernel⟩
theorem ok_sure_of (T : Tx K mg) : Dfn P w K mg base 13 "sure_of" ["hall", "aim", "some"] (fun vs H Q => ∃ (v u sv : V) (bs : List Brd) (nms : List Str) (n : Nat) (cnt : List Nat), vs = [v, u, sv] ∧ RHall K H v bs nms ∧ RAim H u n cnt ∧ cnt.length ≤ 24 ∧ RPrs H sv (allPairs bs) ∧
    ∀ H' r L, Same H H' → Greatest bs nms L → ((r = .non ∧ ∀ p ∈ L, ¬ Sure n cnt p) ∨ (∃ p ∈ L, RPg H' r p ∧ Sure n cnt p)) → Q r H') :=
  Dfn.mk T.f_sure_of T.g_sure_of sc_sure_of (fun _ _ _ _ _ _ us hl => match us, hl with | [_, _, _], _ => rfl) (fun vs H Q h => by obtain ⟨v, u, sv, bs, nms, n, cnt, rfl, _⟩ := h; rfl) fun cdv A outer s0 H vs Q E hr h => by
  obtain ⟨v, u, sv, bs, nms, n, cnt, rfl, hh, ha, al, hs, q⟩ := h
  refine ⟨_, (pss_cons (ps_for PassesOwn.never rfl (pi_list (pe_c ((ok_greatest T).mono (by decide)) hr (pa_cons (pv 0) (pa_cons (pv 2) pa_nil)))) (pg_name (i := 3) sc_sure_of.nd rfl (Or.inl rfl))
    (pss_one (ps_if (pt_cmpR op_isN (pe_c ((ok_spoiling T).mono (by decide)) hr (pa_cons (pv 1) (pa_cons (pv 3) pa_nil))) pe_non (nomark _))
      (pss_one (ps_ret (pv 3))) pss_nil)))
  (pss_one (ps_ret pe_non))), ?_⟩
  have ok : BdsOk bs := (let ⟨_, _, _, _, _, _, _, _, h, _⟩ := hh; h)
  have nok : NamesOk bs nms := (let ⟨_, _, _, _, _, _, _, _, _, h⟩ := hh; h)
  have h8 := ok.hi
  refine ⟨_, rfl, _, rfl, _, _, bs, nms, rfl, hh, hs, fun H1 r L s1 hL hg => ?_⟩
  obtain ⟨la, ys, rfl, hla, hys⟩ := hL
  have yl := hys.length
  refine ⟨la, rfl, ⟨_, SqL.of hla⟩, ?_⟩
  refine for_it (walk_list (xs := ys)) (fun i σ H2 => Same H1 H2 ∧ (∃ x, σ = [some v, some u, some sv, x]) ∧ ∀ p ∈ L.take i, ¬ Sure n cnt p) ⟨Same.refl _, ⟨_, rfl⟩, fun c hc => by rw [List.take_zero] at hc; cases hc⟩ (fun i σ H2 _ h => sql h.1 (SqL.of hla)) (fun i x σ H2 H3 hi h y => ?_) fun σ H2 h => ?_
  · obtain ⟨s2, ⟨x0, rfl⟩, hall⟩ := h
    obtain ⟨rfl, hx⟩ := y
    obtain ⟨p, hp, r⟩ := paired_get hys hx
    have r2 := r.mono (Same.tk s2)
    have s12 := s1.trans s2
    have hpL := List.mem_of_getElem? hp
    have pok := (hg.pg nok.nd p hpL).ok
    have plen := pok.len
    refine ⟨_, rfl, _, rfl, _, _, n, cnt, p, rfl, ha.mono s12, by omega, r2, by omega, pok.idx h8, fun H4 z s4 hz => ?_⟩
    rcases hz with ⟨rfl, hsure⟩ | ⟨m, rfl, hm, hnle⟩
    · refine ⟨rfl, _, rfl, iteC rfl ⟨_, rfl, q H4 x L (s12.trans s4) hg (.inr ⟨p, hpL, r2.mono (Same.tk s4), hsure⟩)⟩⟩
    · refine ⟨rfl, _, rfl, iteCN (by intro z; cases z) ⟨s2.trans s4, ⟨_, rfl⟩, fun p' hp' => ?_⟩⟩
      rw [take_snoc hp] at hp'
      rcases List.mem_append.mp hp' with hp' | hp'
      · exact hall p' hp'
      · rw [List.mem_singleton.mp hp']; exact fun z => hnle (z m hm)
  · obtain ⟨s2, ⟨x0, rfl⟩, hall⟩ := h
    rw [yl, List.take_length] at hall
    exact q H2 .non L (s1.trans s2) hg (.inl ⟨rfl, hall⟩)
abbrev n_sure : List Str := ["hall", "aim"]
theorem sc_sure : FnScope ["hall", "aim"] ["hall", "aim"] (defScope s_sure) := ⟨rfl, rfl, rfl, by decide +kernel, rfl, by decide +kernel, by decide +kernel⟩
theorem ok_sure (T : Tx K mg) : Dfn P w K mg base 14 "sure" ["hall", "aim"] (fun vs H Q => ∃ (v u : V) (bs : List Brd) (nms : List Str) (n : Nat) (cnt : List Nat), vs = [v, u] ∧ RHall K H v bs nms ∧ RAim H u n cnt ∧ AimOk bs n cnt ∧
    ∀ H' r L, Same H H' → Greatest bs nms L → ((r = .non ∧ ∀ p ∈ L, ¬ Sure n cnt p) ∨ (∃ p ∈ L, RPg H' r p ∧ Sure n cnt p)) → Q r H') :=
  Dfn.mk T.f_sure T.g_sure sc_sure (fun _ _ _ _ _ _ us hl => match us, hl with | [_, _], _ => rfl) (fun vs H Q h => by obtain ⟨v, u, bs, nms, n, cnt, rfl, _⟩ := h; rfl) fun cdv A outer s0 H vs Q E hr h => by
  obtain ⟨v, u, bs, nms, n, cnt, rfl, hh, ha, aok, q⟩ := h
  refine ⟨_, (pss_cons (ps_expr (pe_c ((ok_check_aim T).mono (by decide)) hr (pa_cons (pv 0) (pa_cons (pv 1) pa_nil))))
  (pss_one (ps_ret (pe_c ((ok_sure_of T).mono (by decide)) hr (pa_cons (pv 0) (pa_cons (pv 1) (pa_cons (pe_c ((ok_all_pairs T).mono (by decide)) hr (pa_cons (pv 0) pa_nil)) pa_nil))))))), ?_⟩
  refine ⟨_, rfl, _, rfl, _, _, bs, nms, n, cnt, rfl, hh, ha, aok, fun H1 s1 => ?_⟩
  refine ⟨_, rfl, _, rfl, _, rfl, _, bs, nms, rfl, hh.mono s1, fun H2 r s2 hr2 => ?_⟩
  have s12 := s1.trans s2
  exact ⟨_, _, _, bs, nms, n, cnt, rfl, hh.mono s12, ha.mono s12, aok.len, hr2, fun H3 r3 L s3 hg hz => q H3 r3 L (s12.trans s3) hg hz⟩
abbrev n_is_sure : List Str := ["hall", "aim", "thing"]
theorem sc_is_sure : FnScope ["hall", "aim", "thing"] ["hall", "aim", "thing"] (defScope s_is_sure) := ⟨rfl, rfl, rfl, by decide +kernel, rfl, by decide +kernel, by decide +kernel⟩
theorem ok_is_sure (T : Tx K mg) : Dfn P w K mg base 8 "is_sure" ["hall", "aim", "thing"] (fun vs H Q => ∃ (v u t : V) (bs : List Brd) (nms : List Str) (n : Nat) (cnt : List Nat) (p : List (Nat × Nat)), vs = [v, u, t] ∧ RHall K H v bs nms ∧ RAim H u n cnt ∧ AimOk bs n cnt ∧ RPg H t p ∧ PgOk bs p ∧
    ∀ H' b, Same H H' → (b = true ↔ Sure n cnt p) → Q (.bl b) H') :=
  Dfn.mk T.f_is_sure T.g_is_sure sc_is_sure (fun _ _ _ _ _ _ us hl => match us, hl with | [_, _, _], _ => rfl) (fun vs H Q h => by obtain ⟨v, u, t, bs, nms, n, cnt, p, rfl, _⟩ := h; rfl) fun cdv A outer s0 H vs Q E hr h => by
  obtain ⟨v, u, t, bs, nms, n, cnt, p, rfl, hh, ha, aok, hp, pok, q⟩ := h
  refine ⟨_, (pss_cons (ps_expr (pe_c ((ok_check_aim T).mono (by decide)) hr (pa_cons (pv 0) (pa_cons (pv 1) pa_nil))))
  (pss_cons (ps_expr (pe_c ((ok_check_size T).mono (by decide)) hr (pa_cons (pv 0) pa_nil)))
  (pss_one (ps_ret (pe_and (pe_c ((ok_is_pairing T).mono (by decide)) hr (pa_cons (pv 0) (pa_cons (pv 2) pa_nil))) (pe_one (pe_cmpR op_isN (pe_c ((ok_spoiling T).mono (by decide)) hr (pa_cons (pv 1) (pa_cons (pv 2) pa_nil))) pe_non (nomark _)))))))), ?_⟩
  have ok : BdsOk bs := (let ⟨_, _, _, _, _, _, _, _, h, _⟩ := hh; h)
  have h8 := ok.hi
  have plen := pok.len
  have al := aok.len
  refine ⟨_, rfl, _, rfl, _, _, bs, nms, n, cnt, rfl, hh, ha, aok, fun H1 s1 => ?_⟩
  refine ⟨_, rfl, _, bs, nms, rfl, hh.mono s1, ?_⟩
  refine ⟨_, rfl, _, rfl, _, _, bs, nms, p, rfl, hh.mono s1, hp.mono (Same.tk s1), pok, fun H2 s2 => ⟨_, rfl, iteT ?_⟩⟩
  have s12 := s1.trans s2
  refine ⟨_, rfl, _, rfl, _, _, n, cnt, p, rfl, ha.mono s12, by omega, hp.mono (Same.tk s12), by omega, pok.idx h8, fun H3 z s3 hz => ?_⟩
  rcases hz with ⟨rfl, hsure⟩ | ⟨m, rfl, hm, hnle⟩
  · exact ⟨rfl, q H3 true (s12.trans s3) ⟨fun _ => hsure, fun _ => rfl⟩⟩
  · exact ⟨rfl, q H3 false (s12.trans s3) ⟨fun z => Bool.noConfusion z, fun z => absurd (z m hm) hnle⟩⟩
abbrev n_spoilers : List Str := ["hall", "aim", "found", "pairing", "mask"]
theorem sc_spoilers : FnScope ["hall", "aim", "found", "pairing", "mask"] ["hall", "aim"] (defScope s_spoilers) := ⟨rfl, rfl, rfl, by decide +kernel, rfl, by decide +kernel, by decide +kernel⟩
theorem ok_spoilers (T : Tx K mg) : Dfn P w K mg base 14 "spoilers" ["hall", "aim"] (fun vs H Q => ∃ (v u : V) (bs : List Brd) (nms : List Str) (n : Nat) (cnt : List Nat), vs = [v, u] ∧ RHall K H v bs nms ∧ RAim H u n cnt ∧ AimOk bs n cnt ∧
    ∀ H' r L, Same H H' → Greatest bs nms L → ((r = .non ∧ ∃ p ∈ L, Sure n cnt p) ∨ (∃ d es ep ks, r = .ref d ∧ Book P w H' d n cnt L es ep ks)) → Q r H') :=
  Dfn.mk T.f_spoilers T.g_spoilers sc_spoilers (fun _ _ _ _ _ _ us hl => match us, hl with | [_, _], _ => rfl) (fun vs H Q h => by obtain ⟨v, u, bs, nms, n, cnt, rfl, _⟩ := h; rfl) fun cdv A outer s0 H vs Q E hr h => by
  obtain ⟨v, u, bs, nms, n, cnt, rfl, hh, ha, aok, q⟩ := h
  refine ⟨_, (pss_cons (ps_expr (pe_c ((ok_check_aim T).mono (by decide)) hr (pa_cons (pv 0) (pa_cons (pv 1) pa_nil))))
  (pss_cons (ps_set (i := 2) sc_spoilers.nd rfl (Or.inl rfl) (pe_ndnew))
  (pss_cons (ps_for PassesOwn.never rfl (pi_list (pe_c ((ok_pairings T).mono (by decide)) hr (pa_cons (pv 0) pa_nil))) (pg_name (i := 3) sc_spoilers.nd rfl (Or.inl rfl))
    (pss_cons (ps_set (i := 4) sc_spoilers.nd rfl (Or.inl rfl) (pe_c ((ok_spoiling T).mono (by decide)) hr (pa_cons (pv 1) (pa_cons (pv 3) pa_nil))))
    (pss_cons (ps_if (pt_cmpR op_isN (pv 4) pe_non (nomark _))
      (pss_one (ps_ret pe_non)) pss_nil)
    (pss_one (ps_asg (pe_c ((ok_lot_of T).mono (by decide)) hr (pa_cons (pv 4) pa_nil)) (pg_sub (pv 2) (pv 3) (set_nd (u9 hr))))))))
  (pss_one (ps_ret (pv 2)))))), ?_⟩
  have ok : BdsOk bs := (let ⟨_, _, _, _, _, _, _, _, h, _⟩ := hh; h)
  have nok : NamesOk bs nms := (let ⟨_, _, _, _, _, _, _, _, _, h⟩ := hh; h)
  have h8 := ok.hi
  have al := aok.len
  refine ⟨_, rfl, _, rfl, _, _, bs, nms, n, cnt, rfl, hh, ha, aok, fun H1 s1 => ?_⟩
  refine fun d hd => ?_
  have s2 : Same H1 (upd H1 d (NDo d #[] 0)) := Same.new hd
  have d2 : (upd H1 d (NDo d #[] 0)) d = some (NDo d #[] 0) := upd_same
  generalize upd H1 d (NDo d #[] 0) = H2 at s2 d2
  have s12 := s1.trans s2
  refine ⟨_, rfl, _, bs, nms, rfl, hh.mono s12, fun H3 r L s3 hL hg => ?_⟩
  obtain ⟨la, ys, rfl, hla, hys⟩ := hL
  have yl := hys.length
  have Ll : L.length ≤ 764 := by rw [hg.len]; exact prods_764 bs h8 nok.nd
  have s13 := s12.trans s3
  have H13 : Same H1 H3 := s2.trans s3
  have lad : la ≠ d := fun z => by
    have := s3 _ _ d2
    rw [← z, hla] at this
    cases this
  refine ⟨la, rfl, ⟨_, SqL.of hla⟩, ?_⟩
  -- what the turns know: all that stood at H3 but the dict
  refine for_it (walk_list (xs := ys)) (fun i σ H4 => Out d H3 H4 ∧ (∃ x y, σ = [some v, some u, some (.ref d), x, y]) ∧ ∃ es ep ks, Book P w H4 d n cnt (L.take i) es ep ks)
    ⟨fun b o e _ => e, ⟨_, _, rfl⟩, #[], 0, [], s3 _ _ d2, ⟨rfl, List.nodup_nil⟩, (fun k hk => by cases hk), rfl, fun k hk => by cases hk⟩ (fun i σ H4 _ h => SqL.of (h.1 _ _ hla lad)) (fun i x σ H4 H5 hi h y => ?_) fun σ H4 h => ?_
  · obtain ⟨o4, ⟨x0, y0, rfl⟩, es, ep, ks, bk⟩ := h
    obtain ⟨rfl, hx⟩ := y
    obtain ⟨p, hp, r⟩ := paired_get hys hx
    have t4 : Tk H3 H5 := o4.tp (s3 _ _ d2) fun xs => by intro z; cases z
    have r4 := r.mono t4
    -- what stood in H1 stands
    have s4 : Same H1 H5 := fun b o e => o4 _ _ (H13 _ _ e) fun z => by rw [z, hd] at e; cases e
    have s04 := s1.trans s4
    have hpL := List.mem_of_getElem? hp
    have pok := (hg.pg nok.nd p hpL).ok
    have plen := pok.len
    refine ⟨_, rfl, _, rfl, _, _, n, cnt, p, rfl, ha.mono s04, by omega, r4, by omega, pok.idx h8, fun H6 z s6 hz => ?_⟩
    rcases hz with ⟨rfl, hsure⟩ | ⟨m, rfl, hm, hnle⟩
    · exact ⟨_, rfl, rfl, _, rfl, iteC rfl (q H6 .non L (s04.trans s6) hg (.inl ⟨rfl, p, hpL, hsure⟩))⟩
    · refine ⟨_, rfl, rfl, _, rfl, iteCN (by intro z; cases z) ?_⟩
      refine ⟨_, rfl, m, rfl, outc_small pok.nd hm (pok.idx h8), fun H7 rl l s7 hl hbits => ?_⟩
      obtain ⟨lo, rfl, hlo⟩ := hl
      have s67 := s6.trans s7
      have bk7 := bk.mono s67
      obtain ⟨xs, ⟨pa, rfl, hpa⟩, hpp⟩ := id (r4.mono (Same.tk s67))
      have r7 : RPg H7 (.ref pa) p := r4.mono (Same.tk s67)
      have Lnd := hg.nodup nok.nd
      have tk := take_snoc hp
      have nin : ∀ k ∈ ks, k.1 ≠ p := fun k hk e => by
        have h1 : p ∈ L.take i := by rw [← bk.are, ← e]; exact List.mem_map_of_mem hk
        have nd2 : (L.take (i + 1)).Nodup := Lnd.sublist (List.take_sublist _ _)
        rw [tk] at nd2
        exact (List.nodup_append.mp nd2).2.2 _ h1 _ (by simp) rfl
      have kl : ks.length ≤ 10000 := by
        have := congrArg List.length bk.are
        rw [List.length_map, List.length_take] at this
        omega
      refine ⟨_, rfl, _, rfl, d, es, ep, ks, pa, p, lo, rfl, bk7.at_, bk7.ents, bk7.keys, rfl, r7, nin, rfl, kl, fun es' ep' E' => ?_⟩
      have t8 : Tk H7 (upd H7 d (NDo d es' ep')) := Tk.upd bk7.at_ fun xs => by intro z; cases z
      refine ⟨fun b o e n => ?_, ⟨_, _, rfl⟩, es', ep', ks ++ [(p, pa, lo)], upd_same, E', fun k hk => ?_, ?_, fun k hk => ?_⟩
      · rw [upd_ne n]
        exact s67 _ _ (o4 _ _ e n)
      · rcases List.mem_append.mp hk with hk | hk
        · exact (bk7.keys k hk).mono t8
        · rw [List.mem_singleton.mp hk]; exact r7.mono t8
      · rw [List.map_append, bk.are, tk]; rfl
      · rcases List.mem_append.mp hk with hk | hk
        · obtain ⟨l', m', h1, h2⟩ := bk7.lots k hk
          exact ⟨l', m', h1.mono t8, h2⟩
        · rw [List.mem_singleton.mp hk]
          exact ⟨l, m, Tp.mono ⟨lo, rfl, hlo⟩ t8, hm, hbits, hnle⟩
  · obtain ⟨o4, ⟨x0, y0, rfl⟩, es, ep, ks, bk⟩ := h
    rw [yl, List.take_length] at bk
    have s4 : Same H1 H4 := fun b o e => o4 _ _ (H13 _ _ e) fun z => by rw [z, hd] at e; cases e
    exact ⟨_, rfl, q H4 _ L (s1.trans s4) hg (.inr ⟨d, es, ep, ks, rfl, bk⟩)⟩
abbrev n_is_outcome : List Str := ["hall", "pairing", "thing", "one", "other"]
theorem sc_is_outcome : FnScope ["hall", "pairing", "thing", "one", "other"] ["hall", "pairing", "thing"] (defScope s_is_outcome) := ⟨rfl, rfl, rfl, by decide +kernel, rfl, by decide +kernel, by decide +kernel⟩
theorem ok_is_outcome (T : Tx K mg) : Dfn P w K mg base 4 "is_outcome" ["hall", "pairing", "thing"] (fun vs H Q => ∃ (v t u : V) (bs : List Brd) (nms : List Str) (p : List (Nat × Nat)) (l : List Nat), vs = [v, t, u] ∧ RHall K H v bs nms ∧ RPg H t p ∧ RLot H u l ∧ LotOk bs p l ∧ p.length ≤ 1000 ∧ ∀ H', Same H H' → Q (.bl true) H') :=
  Dfn.mk T.f_is_outcome T.g_is_outcome sc_is_outcome (fun _ _ _ _ _ _ us hl => match us, hl with | [_, _, _], _ => rfl) (fun vs H Q h => by obtain ⟨v, t, u, bs, nms, p, l, rfl, _⟩ := h; rfl) fun cdv A outer s0 H vs Q E hr h => by
  obtain ⟨v, t, u, bs, nms, p, l, rfl, hh, ⟨xs, ht, hx⟩, hl, lok, hpl, q⟩ := h
  refine ⟨_, (pss_cons (ps_if (PW.pt (pw_or (pt_not (pt_val (pe_c ((ok_is_lot T).mono (by decide)) hr (pa_cons (pv 2) (pa_cons (pe_callB (lenA (K := K) rfl) (by rfl) T.b_len (by decide +kernel) (pa_cons (pe_fldA (K := K) rfl tm_var (pv 0) rfl) pa_nil)) pa_nil))))) (pw_or1 (pt_cmpR op_ne (pe_callB (lenA (K := K) rfl) (by rfl) T.b_len (by decide +kernel) (pa_cons (pv 2) pa_nil)) (pe_callB (lenA (K := K) rfl) (by rfl) T.b_len (by decide +kernel) (pa_cons (pv 1) pa_nil)) (nomark _))))) pss_never pss_nil)
  (pss_one (ps_ret (pe_callB (allA (K := K) rfl rfl) (by rfl) T.b_all (by decide +kernel) (pa_cons (pe_lc (own := [("one", 3), ("other", 4)]) (g := (gTup K 2 (gCons (gName 3) (gCons (gName 4) gNil)))) (tt := tYes) rfl sc_is_outcome.nd (pi_tup (pv 1)) (blkOk_by (own := [("one", 3), ("other", 4)]) (N := n_is_outcome) (sc := defScope s_is_outcome) (by decide +kernel)) (fun _ _ _ _ _ => (pg_tup (by rfl) (pgs_cons (pg_name (i := 3) sc_is_outcome.nd rfl (Or.inl rfl)) (pgs_cons (pg_name (i := 4) sc_is_outcome.nd rfl (Or.inl rfl)) pgs_nil)))) (fun _ _ _ _ _ => pts_nil) (fun _ _ _ _ _ => (pe_cmpR op_ne (pe_cmpR (inA (K := K) rfl) (pv 3) (pv 2) rfl) (pe_cmpR (inA (K := K) rfl) (pv 4) (pv 2) rfl) (nomark _)))) pa_nil))))), ?_⟩
  have hl : Tp H u (nats l) := hl
  have xl := hx.length
  obtain ⟨bv, hf, hb⟩ := hh.boards T
  refine ⟨_, rfl, _, rfl, _, hf, _, hb.lenIs, u, l, bs.length, rfl, hl, by have := lok.len; omega, lok.asc, lok.lt, fun H1 s1 => ⟨_, rfl, iteF ⟨_, rfl, _, len_t (stp s1 hl), _, rfl, _, len_t (stp s1 ht), rfl, _, rfl, iteNS (by rw [nats_length, lok.len, xl]) ?_⟩⟩⟩
  obtain ⟨ta, rfl, hta⟩ := stp s1 ht
  obtain ⟨ua, rfl, hua⟩ := stp s1 hl
  refine ⟨_, rfl, ta, rfl, ⟨_, SqT.of hta⟩, fun D hD => ?_⟩
  refine lc_all (walk_tup (xs := xs)) (by omega) hD (fun _ _ y => y = V.bl true) (fun _ _ _ _ _ e => e) (fun H2 s2 => sqt s2 (SqT.of hta)) (fun i x H2 H3 Qc hi s2 y k => ?_) fun H2 ys s2 hys hl hat => ⟨_, all_true hys hat, by rw [all_rep]; exact q H2 (s1.trans s2)⟩
  obtain ⟨rfl, hxi⟩ := y
  obtain ⟨b, hb2, r⟩ := paired_get hx hxi
  have r := r.mono (Same.tk (s1.trans s2))
  have hu2 := s2 _ _ hua
  refine tg2 r ⟨rfl, _, rfl, _, rfl, b.1, l, ⟨rfl, ua, rfl, .inr (SqT.of hu2)⟩, _, rfl, _, rfl, b.2, l, ⟨rfl, ua, rfl, .inr (SqT.of hu2)⟩, rfl, k _ _ (Same.refl _) ?_⟩
  have := lok.one b (List.mem_of_getElem? hb2)
  have e : ¬ (V.bl (decide (b.1 ∈ l)) = V.bl (decide (b.2 ∈ l))) := fun z => this (by injection z)
  rw [decide_eq_false e]
  rfl
abbrev n_are_spoilers : List Str := ["hall", "aim", "thing", "found", "pairing"]
theorem sc_are_spoilers : FnScope ["hall", "aim", "thing", "found", "pairing"] ["hall", "aim", "thing"] (defScope s_are_spoilers) := ⟨rfl, rfl, rfl, by decide +kernel, rfl, by decide +kernel, by decide +kernel⟩
theorem ok_are_spoilers (T : Tx K mg) : Dfn P w K mg base 14 "are_spoilers" ["hall", "aim", "thing"] (fun vs H Q => ∃ (v u : V) (d : Addr) (bs : List Brd) (nms : List Str) (n : Nat) (cnt : List Nat) (L : List (List (Nat × Nat))) (es : Array DictEntry) (ep : Nat) (ks : List (List (Nat × Nat) × Addr × Addr)), vs = [v, u, .ref d] ∧ RHall K H v bs nms ∧ RAim H u n cnt ∧ AimOk bs n cnt ∧
    Greatest bs nms L ∧ Book P w H d n cnt L es ep ks ∧ ∀ H', Same H H' → Q (.bl true) H') :=
  Dfn.mk T.f_are_spoilers T.g_are_spoilers sc_are_spoilers (fun _ _ _ _ _ _ us hl => match us, hl with | [_, _, _], _ => rfl) (fun vs H Q h => by obtain ⟨v, u, d, bs, nms, n, cnt, L, es, ep, ks, rfl, _⟩ := h; rfl) fun cdv A outer s0 H vs Q E hr h => by
  obtain ⟨v, u, d, bs, nms, n, cnt, L, es, ep, ks, rfl, hh, ha, aok, hg, bk, q⟩ := h
  refine ⟨_, (pss_cons (ps_expr (pe_c ((ok_check_aim T).mono (by decide)) hr (pa_cons (pv 0) (pa_cons (pv 1) pa_nil))))
  (pss_cons (ps_set (i := 3) sc_are_spoilers.nd rfl (Or.inl rfl) (pe_c ((ok_pairings T).mono (by decide)) hr (pa_cons (pv 0) pa_nil)))
  (pss_cons (ps_if (PW.pt (pw_or (pt_not (pt_val (pe_callB call_isiND (by rfl) T.b_isinstance (by decide +kernel) (pa_cons (pv 2) (pa_cons (pe_bltn (v := .ty "dict") (by rfl) T.b_dict boot_dict rfl) pa_nil))))) (pw_or1 (pt_cmpR op_ne (pe_callB call_lenND (by rfl) T.b_len (by decide +kernel) (pa_cons (pv 2) pa_nil)) (pe_callB (lenA (K := K) rfl) (by rfl) T.b_len (by decide +kernel) (pa_cons (pv 3) pa_nil)) (nomark _))))) pss_never pss_nil)
  (pss_cons (ps_if (PW.pt (pw_or (pt_not (pt_val (pe_callB (allA (K := K) rfl rfl) (by rfl) T.b_all (by decide +kernel) (pa_cons (pe_lc (own := [("pairing", 4)]) (g := (gName 4)) (tt := tYes) rfl sc_are_spoilers.nd (pi_nd (pv 2)) (blkOk_by (own := [("pairing", 4)]) (N := n_are_spoilers) (sc := defScope s_are_spoilers) (by decide +kernel)) (fun _ _ _ _ _ => (pg_name (i := 4) sc_are_spoilers.nd rfl (Or.inl rfl))) (fun _ _ _ _ _ => pts_nil) (fun _ _ _ _ _ => (pe_c ((ok_is_pairing T).mono (by decide)) hr (pa_cons (pv 0) (pa_cons (pv 4) pa_nil))))) pa_nil)))) (pw_or1 (pt_not (pt_val (pe_callB (allA (K := K) rfl rfl) (by rfl) T.b_all (by decide +kernel) (pa_cons (pe_lc (own := [("pairing", 4)]) (g := (gName 4)) (tt := tYes) rfl sc_are_spoilers.nd (pi_list (pv 3)) (blkOk_by (own := [("pairing", 4)]) (N := n_are_spoilers) (sc := defScope s_are_spoilers) (by decide +kernel)) (fun _ _ _ _ _ => (pg_name (i := 4) sc_are_spoilers.nd rfl (Or.inl rfl))) (fun _ _ _ _ _ => pts_nil) (fun _ _ _ _ _ => (pe_cmpR (inNDA (P := P) (w := w) rfl rfl (u9 hr)) (pv 4) (pv 2) rfl))) pa_nil))))))) pss_never pss_nil)
  (pss_cons (ps_for PassesOwn.never rfl (pi_list (pv 3)) (pg_name (i := 4) sc_are_spoilers.nd rfl (Or.inl rfl))
    (pss_one (ps_if (PW.pt (pw_or (pt_not (pt_val (pe_c ((ok_is_outcome T).mono (by decide)) hr (pa_cons (pv 0) (pa_cons (pv 4) (pa_cons (pe_ix (ix_nd (u9 hr)) (pv 2) (pv 4) (fun _ _ => rfl)) pa_nil)))))) (pw_or1 (pt_val (pe_c ((ok_holds T).mono (by decide)) hr (pa_cons (pv 1) (pa_cons (pe_c ((ok_mask_of T).mono (by decide)) hr (pa_cons (pe_ix (ix_nd (u9 hr)) (pv 2) (pv 4) (fun _ _ => rfl)) pa_nil)) pa_nil))))))) pss_never pss_nil)))
  (pss_one (ps_ret pe_bl))))))), ?_⟩
  have ok : BdsOk bs := (let ⟨_, _, _, _, _, _, _, _, h, _⟩ := hh; h)
  have nok : NamesOk bs nms := (let ⟨_, _, _, _, _, _, _, _, _, h⟩ := hh; h)
  have h8 := ok.hi
  have al := aok.len
  have Ll : L.length ≤ 764 := by rw [hg.len]; exact prods_764 bs h8 nok.nd
  have kl : ks.length = L.length := by have := congrArg List.length bk.are; rwa [List.length_map] at this
  have esz := ents_size bk.ents
  refine ⟨_, rfl, _, rfl, _, _, bs, nms, n, cnt, rfl, hh, ha, aok, fun H1 s1 => ?_⟩
  refine ⟨_, rfl, _, bs, nms, rfl, hh.mono s1, fun H2 r L2 s2 hL hg2 => ?_⟩
  have s12 := s1.trans s2
  obtain ⟨la, ys, rfl, hla, hys⟩ := hL
  have yl := hys.length
  have perm := hg.perm nok.nd hg2
  have pl := perm.length_eq
  have bk2 := bk.mono s12
  have inKs : ∀ {p}, p ∈ L2 → ∃ k ∈ ks, k.1 = p := fun {p} hp => by
    have : p ∈ ks.map (·.1) := by rw [bk.are]; exact perm.mem_iff.mpr hp
    obtain ⟨k, hk, e⟩ := List.mem_map.mp this
    exact ⟨k, hk, e⟩
  refine ⟨_, rfl, d, es, ep, rfl, bk2.at_, _, rfl, iteF ⟨_, rfl, d, es, ep, rfl, bk2.at_, by omega, _, rfl, _, len_l hla, rfl, _, rfl, iteNS (by rw [esz, yl, kl, pl]) ?_⟩⟩
  refine ⟨_, rfl, d, es, ep, ks, rfl, bk2.at_, bk2.ents, fun D hD => ?_⟩
  refine lc_all (walk_nd bk2.ents) (by omega) hD (fun _ _ y => y = V.bl true) (fun _ _ _ _ _ e => e) (fun H3 s3 => s3 _ _ bk2.at_) (fun i x H3 H4 Qc hi s3 y k => ?_) fun H3 zs s3 hzs hl hat => ?_
  · obtain ⟨rfl, kk, hkk, rfl⟩ := y
    have hkm := List.mem_of_getElem? hkk
    have hkL : kk.1 ∈ L := by rw [← bk.are]; exact List.mem_map_of_mem hkm
    exact ⟨rfl, _, rfl, _, rfl, _, _, bs, nms, kk.1, rfl, hh.mono (s12.trans s3), (bk2.keys kk hkm).mono (Same.tk s3), (hg.pg nok.nd _ hkL).ok, fun H5 s5 => k _ _ s5 rfl⟩
  have s13 := s12.trans s3
  have bk3 := bk.mono s13
  refine ⟨_, all_true hzs hat, true, by rw [all_rep], iteF ?_⟩
  refine ⟨_, rfl, la, rfl, ⟨_, SqL.of (s3 _ _ hla)⟩, fun D2 hD2 => ?_⟩
  refine lc_all (walk_list (xs := ys)) (by omega) hD2 (fun _ _ y => y = V.bl true) (fun _ _ _ _ _ e => e) (fun H4 s4 => SqL.of (s4 _ _ (s3 _ _ hla))) (fun i x H4 H5 Qc hi s4 y k => ?_) fun H4 zs2 s4 hzs2 hl2 hat2 => ?_
  · obtain ⟨rfl, hx⟩ := y
    obtain ⟨p, hp, r⟩ := paired_get hys hx
    obtain ⟨kk, hkm, e⟩ := inKs (List.mem_of_getElem? hp)
    have bk4 := bk3.mono s4
    have r4 := r.mono (Same.tk (s3.trans s4))
    obtain ⟨xa, ⟨a, rfl, hxa⟩, hxx⟩ := id r4
    rw [← e] at r4
    exact ⟨rfl, _, rfl, _, rfl, d, es, ep, ks, a, kk, rfl, bk4.at_, bk4.ents, bk4.keys, rfl, hkm, r4, k _ _ (Same.refl _) rfl⟩
  have s14 := s13.trans s4
  have s24 := s3.trans s4
  refine ⟨_, all_true hzs2 hat2, true, by rw [all_rep], iteF ?_⟩
  refine ⟨_, rfl, la, rfl, ⟨_, SqL.of (s24 _ _ hla)⟩, ?_⟩
  refine for_it (walk_list (xs := ys)) (fun i σ H5 => Same H4 H5 ∧ ∃ x, σ = [some v, some u, some (.ref d), some (.ref la), x]) ⟨Same.refl _, _, rfl⟩ (fun i σ H5 _ h => SqL.of (h.1 _ _ (s24 _ _ hla))) (fun i x σ H5 H6 hi h y => ?_) fun σ H5 h => ?_
  · obtain ⟨s5, x0, rfl⟩ := h
    obtain ⟨rfl, hx⟩ := y
    obtain ⟨p, hp, r⟩ := paired_get hys hx
    have hpL2 := List.mem_of_getElem? hp
    obtain ⟨kk, hkm, e⟩ := inKs hpL2
    have s25 := s24.trans s5
    have s15 := s14.trans s5
    have bk5 := bk.mono s15
    have r5 := r.mono (Same.tk s25)
    obtain ⟨xa, ⟨a, rfl, hxa⟩, hxx⟩ := id r5
    have pok := (hg2.pg nok.nd p hpL2).ok
    have plen := pok.len
    obtain ⟨l, m, hlot, hm, hbits, hnle⟩ := bk5.lots kk hkm
    rw [e] at hm
    have r5' : RPg H6 (.ref a) kk.1 := by rw [e]; exact r5
    have lok := lot_ok pok hm hbits
    refine ⟨_, rfl, _, rfl, _, rfl, _, rfl, d, es, ep, ks, a, kk, rfl, bk5.at_, bk5.ents, bk5.keys, rfl, hkm, r5', _, _, _, bs, nms, p, l, rfl, hh.mono s15, r5, hlot, lok, by omega, fun H7 s7 => ⟨_, rfl, iteF ?_⟩⟩
    have bk7 := bk5.mono s7
    refine ⟨_, rfl, _, rfl, _, rfl, d, es, ep, ks, a, kk, rfl, bk7.at_, bk7.ents, bk7.keys, rfl, hkm, r5'.mono (Same.tk s7), _, l, rfl, stp s7 hlot, fun k hk => by have := lok.lt k hk; omega, ?_⟩
    refine ⟨_, bitsOr 0 l, n, cnt, rfl, ha.mono (s15.trans s7), by omega, fun H8 s8 => ⟨_, rfl, iteF' ?_ ⟨s5.trans (s7.trans s8), _, rfl⟩⟩⟩
    rw [cnt_bits hbits]
    exact decide_eq_false hnle
  · obtain ⟨s5, x0, rfl⟩ := h
    exact q H5 (s14.trans s5)
end
end Ug

/-! what the law's own draws need -/
namespace Ug
open PySem PySem.Spec PyProof.Rows L2
theorem Out.refl (a : Addr) (H : Hp) : Out a H H := fun _ _ h _ => h
theorem Out.trans {a : Addr} {H H1 H2 : Hp} (x : Out a H H1) (y : Out a H1 H2) : Out a H H2 := fun b o e n => y b o (x b o e n) n
theorem Out.of {a : Addr} {H H' : Hp} (s : Same H H') : Out a H H' := fun b o e _ => s b o e
/-- the source of numbers: a list of four ints -/
def SrcAt (H : Hp) (a : Addr) : Prop := ∃ c f s n : Int, H a = some (.lst [.int c, .int f, .int s, .int n])
theorem SrcAt.same {H H' : Hp} {a : Addr} (s : Same H H') (h : SrcAt H a) : SrcAt H' a := let ⟨c, f, x, n, e⟩ := h; ⟨c, f, x, n, s _ _ e⟩
theorem Out.tk {a : Addr} {H H' : Hp} (h : Out a H H') (s : SrcAt H a) : Tk H H' := let ⟨_, _, _, _, e⟩ := s; h.tp e fun xs => by intro z; cases z
/-- a comprehension whose turns draw from the source at a -/
theorem lc_out {J : It} {n : Nat} {GH : Hp → Prop} {Y : Nat → Hp → V → Hp → Prop} (w : Walk J n GH Y) (hn : n ≤ 1000000) {g : TG} {te : TE} {vs : List Nat} {σ : L2.St} {H1 : Hp} {D a : Addr} (hD : H1 D = none) (hsrc : SrcAt H1 a) {Qd : Hp → Prop} (R : Hp → Nat → V → Prop)
    (mono : ∀ H H' i y, Tk H H' → R H i y → R H' i y) (hG : ∀ H, Out a H1 H → GH H)
    (hs : ∀ i x H H' (Qc : VK), i < n → Out a H1 H → SrcAt H a → Y i H x H' → (∀ y H4, Out a H H4 → SrcAt H4 a → R H4 i y → Qc y H4) → g x (wipe σ vs) H' fun σ2 H2 => wipe σ2 vs = wipe σ vs ∧ te σ2 H2 Qc)
    (hd : ∀ H ys, Out a H1 H → SrcAt H a → H D = some (.lst ys) → ys.length = n → (∀ i y, ys[i]? = some y → R H i y) → Qd H) :
    ∃ W : Nat → Nat → Hp → Prop, (∃ m, W 0 m (upd H1 D (.lst []))) ∧ ∀ i m H, W i m H →
      (J.stop i H ∧ Qd H) ∨ (J.go i H ∧ ∃ Nx : Hp → Prop, (∀ H', Nx H' → ∃ m', m' < m ∧ W (i + 1) m' H') ∧ ∀ x H', J.yld i H x H' → g x (wipe σ vs) H' fun σ2 H2 => wipe σ2 vs = wipe σ vs ∧ tYes σ2 H2 fun b H3 =>
        if b = true then te σ2 H3 fun y H4 => ∃ acc, H4 D = some (.lst acc) ∧ acc.length < sizeLine ∧ Nx (upd H4 D (.lst (acc ++ [y]))) else Nx H3) := by
  have Da : D ≠ a := fun z => by
    obtain ⟨c, f, s, m, e⟩ := hsrc
    rw [← z, hD] at e; cases e
  have src0 : ∀ {H : Hp} {o : HO}, SrcAt H a → SrcAt (upd H D o) a := fun ⟨c, f, s, m, e⟩ => ⟨c, f, s, m, by rw [upd_ne (Ne.symm Da)]; exact e⟩
  refine lc_it w (fun i H => Out a H1 H ∧ SrcAt H a ∧ ∃ ys, H D = some (.lst ys) ∧ ys.length = i ∧ ∀ j y, ys[j]? = some y → R H j y) ⟨Out.of (Same.new hD), src0 hsrc, [], upd_same, rfl, fun j y h => by simp at h⟩ (fun i H _ p => hG H p.1) (fun i x H H' hi p y => ?_) fun H p => ?_
  · obtain ⟨s1, sr, ys, hys, hl, hR⟩ := p
    have K := hs i x H H' (fun z H4 => ∃ acc, H4 D = some (.lst acc) ∧ acc.length < sizeLine ∧ (Out a H1 (upd H4 D (.lst (acc ++ [z]))) ∧ SrcAt (upd H4 D (.lst (acc ++ [z]))) a ∧ ∃ ys, upd H4 D (.lst (acc ++ [z])) D = some (.lst ys) ∧ ys.length = i + 1 ∧ ∀ j y, ys[j]? = some y → R (upd H4 D (.lst (acc ++ [z]))) j y)) hi s1 sr y fun z H4 s4 sr4 r4 => ?_
    · exact K
    have e4 : H4 D = some (.lst ys) := s4 _ _ hys Da
    have k4 : Tk H4 (upd H4 D (.lst (ys ++ [z]))) := Tk.upd e4 (fun xs => by intro q; cases q)
    refine ⟨ys, e4, Nat.lt_of_lt_of_le (by rw [hl]; exact Nat.lt_of_lt_of_le hi hn) (by rw [sizeLine_eq]; decide), fun b o e ne => ?_, src0 sr4, ys ++ [z], upd_same, by rw [List.length_append, hl]; rfl, fun j u hj => ?_⟩
    · rw [upd_ne (fun q => by rw [q, hD] at e; cases e)]
      exact s4 _ _ (s1 _ _ e ne) ne
    · rcases Nat.lt_or_ge j ys.length with lt | ge
      · rw [List.getElem?_append_left lt] at hj
        exact mono _ _ _ _ ((s4.tk sr).trans k4) (hR j u hj)
      · rw [List.getElem?_append_right ge] at hj
        have hj0 : j = ys.length := by
          rcases Nat.lt_or_ge (j - ys.length) 1 with q | q
          · omega
          · rw [List.getElem?_eq_none (by simpa using q)] at hj; cases hj
        subst hj0
        rw [Nat.sub_self] at hj
        cases hj
        rw [hl]
        exact mono _ _ _ _ k4 r4
  · obtain ⟨s1, sr, ys, hys, hl, hR⟩ := p
    exact hd H ys s1 sr hys hl hR
/-- letters joined -/
theorem glue_all : ∀ (rest : List Str) (acc : Array Nat), (∀ c ∈ acc.toList, c ∈ abc.cps.toList) → (∀ z ∈ rest, ∀ c ∈ z.cps.toList, c ∈ abc.cps.toList) → ∀ c ∈ (rest.foldl (fun acc p => acc ++ ("" : Str).cps ++ p.cps) acc).toList, c ∈ abc.cps.toList
  | [], acc, h, _ => h
  | z :: rest, acc, h, hz => by
    rw [List.foldl_cons]
    refine glue_all rest _ (fun c hc => ?_) fun y hy => hz y (List.mem_cons_of_mem _ hy)
    rw [Array.toList_append, Array.toList_append] at hc
    rcases List.mem_append.mp hc with hc | hc
    · rcases List.mem_append.mp hc with hc | hc
      · exact h c hc
      · exact absurd hc (by simp [show ("" : Str).cps.toList = [] from rfl])
    · exact hz z List.mem_cons_self c hc
theorem join_lets {ys : List Str} {n : Nat} (hl : ys.length = n) (h1 : 1 ≤ n) (h8 : n ≤ 8) (h : ∀ z ∈ ys, ∃ c, z = ⟨#[c]⟩ ∧ c ∈ abc.cps.toList) : Lets (Txt.join "" ys) 8 := by
  have one : ∀ z ∈ ys, z.length = 1 := fun z hz => by obtain ⟨c, rfl, _⟩ := h z hz; rfl
  have sum : ∀ l : List Str, (∀ z ∈ l, z.length = 1) → (l.map fun x => x.length).sum = l.length := by
    intro l hl
    induction l with
    | nil => rfl
    | cons a l ih => rw [List.map_cons, List.sum_cons, ih fun z hz => hl z (List.mem_cons_of_mem _ hz), hl a List.mem_cons_self, List.length_cons]; omega
  have len : (Txt.join "" ys).length = n := by
    unfold Txt.join
    rw [PySem.size_glued, sum ys one, hl, show ("" : Str).length = 0 from rfl]
    omega
  refine ⟨by omega, by omega, by omega, fun c hc => ?_⟩
  cases ys with
  | nil => simp at hl; omega
  | cons y ys =>
    refine glue_all ys y.cps (fun c hc => ?_) (fun z hz c hc => ?_) c hc
    · obtain ⟨d, rfl, hd⟩ := h y List.mem_cons_self
      have : c = d := by simpa using hc
      exact this ▸ hd
    · obtain ⟨d, rfl, hd⟩ := h z (List.mem_cons_of_mem _ hz)
      have : c = d := by simpa using hc
      exact this ▸ hd
/-- a list of boards against the empty list -/
def encB (b : Brd) : PyData := .tuple [.str b.nm, .int (b.sd : Nat), txtD b.rw]
theorem RBd.dp {K : PySem.W.Frag} {H : Hp} {v : V} {b : Brd} (h : RBd H v b) : Dp K H v (encB b) := by
  obtain ⟨r, ⟨a, rfl, e⟩, h2⟩ := h
  exact .tup (SqT.of e) (.cons (.str _) (.cons (.int _) (.cons h2.txt .nil)))
theorem strOk_lets {z : Str} {m : Nat} (h : Lets z m) : PyData.strOk z = true := by
  unfold PyData.strOk
  rw [← Array.all_toList, List.all_eq_true]
  exact fun c hc => abc_low c (h.all c hc)
theorem encB_shaped : ∀ {bs : List Brd}, (∀ b ∈ bs, BrdOk b) → PyData.canLayAll0 (bs.map encB) = true ∧ PyData.depthAll (bs.map encB) ≤ 2
  | [], _ => ⟨by simp [PyData.canLayAll0], by simp [PyData.depthAll]⟩
  | b :: bs, h => by
    obtain ⟨h1, h2⟩ := encB_shaped fun b hb => h b (List.mem_cons_of_mem _ hb)
    have hb := h b List.mem_cons_self
    have t := txt_shaped hb.rw
    unfold SeqAt.shaped at t
    rw [Bool.and_eq_true] at t
    have d : (txtD b.rw).depth = 1 := by
      unfold txtD
      rw [PyData.depth.eq_def]
      show PyData.depthAll (b.rw.map .str) + 1 = 1
      rw [deep_txt]
    constructor
    · rw [List.map_cons, PyData.canLayAll0.eq_def]
      show (PyData.canLay0 (encB b) && PyData.canLayAll0 (bs.map encB)) = true
      rw [h1, Bool.and_true]
      unfold encB
      rw [PyData.canLay0.eq_def]
      show PyData.canLayAll0 [.str b.nm, .int (b.sd : Nat), txtD b.rw] = true
      rw [PyData.canLayAll0.eq_def]
      show (PyData.canLay0 (.str b.nm) && PyData.canLayAll0 [.int (b.sd : Nat), txtD b.rw]) = true
      rw [PyData.canLay0.eq_def]
      show (PyData.strOk b.nm && _) = true
      rw [strOk_lets hb.nm, Bool.true_and, PyData.canLayAll0.eq_def]
      show (PyData.canLay0 (.int (b.sd : Nat)) && PyData.canLayAll0 [txtD b.rw]) = true
      rw [PyData.canLay0.eq_def]
      show (true && _) = true
      rw [Bool.true_and, PyData.canLayAll0.eq_def]
      show (PyData.canLay0 (txtD b.rw) && PyData.canLayAll0 []) = true
      rw [t.1, PyData.canLayAll0.eq_def]
      rfl
    · rw [List.map_cons, PyData.depthAll.eq_def]
      show max (PyData.depth (encB b)) (PyData.depthAll (bs.map encB)) ≤ 2
      have : PyData.depth (encB b) ≤ 2 := by
        unfold encB
        rw [PyData.depth.eq_def]
        show PyData.depthAll [.str b.nm, .int (b.sd : Nat), txtD b.rw] + 1 ≤ 2
        simp [PyData.depthAll, PyData.depth, d]
      omega
def BrdsVsNil (H : Hp) (x y : V) (bs : List Brd) : Prop := (∃ a ys, x = .ref a ∧ H a = some (.lst ys) ∧ Paired (RBd H) ys bs) ∧ (∃ b, y = .ref b ∧ H b = some (.lst [])) ∧ ∀ b ∈ bs, BrdOk b
theorem neNil {X : Cx} (hu : X.A.units + 64 < cLine) : OpR X (compareOp .NotEq) (fun x y H Q => ∃ bs, BrdsVsNil H x y bs ∧ Q (.bl (!bs.isEmpty)) H) := opImp (op_neD hu) fun x y H Q => by
  rintro ⟨bs, ⟨⟨a, ys, rfl, ha, hys⟩, ⟨b, rfl, hb⟩, hok⟩, q⟩
  obtain ⟨h1, h2⟩ := encB_shaped hok
  refine ⟨.list (bs.map encB), .list [], .lst (SqL.of ha) (dpAll_of (R := RBd H) (fun _ _ => RBd.dp) hys), .lst (SqL.of hb) .nil, ?_, by decide +kernel, ?_⟩
  · unfold SeqAt.shaped
    rw [PyData.canLay0.eq_def, PyData.depth.eq_def]
    show (PyData.canLayAll0 (bs.map encB) && decide (PyData.depthAll (bs.map encB) + 1 ≤ 64)) = true
    rw [h1, Bool.true_and]
    exact decide_eq_true (by omega)
  · have : PyData.eqv (.list (bs.map encB)) (.list []) = bs.isEmpty := by
      rw [PyData.eqv.eq_def]
      show PyData.eqvAll (bs.map encB) [] = _
      cases bs with
      | nil => rw [PyData.eqvAll.eq_def]; rfl
      | cons b bs => rw [List.map_cons, PyData.eqvAll.eq_def]; rfl
    rw [this]
    exact q
/-- texts in a list -/
theorem inV_str (k : Str) (l : List Str) : inV (.str k) (l.map V.str) = decide (k ∈ l) := by
  unfold inV
  rw [Bool.eq_iff_iff, List.any_eq_true, decide_eq_true_eq]
  constructor
  · rintro ⟨y, hy, e⟩
    obtain ⟨n, hn, rfl⟩ := List.mem_map.mp hy
    have : (n == k) = true := e
    have : n = k := by simpa using this
    exact this ▸ hn
  · intro h
    refine ⟨_, List.mem_map_of_mem (f := V.str) h, ?_⟩
    show (k == k) = true
    simp
theorem flat_str (l : List Str) : (l.map V.str).all flatV = true := by
  rw [List.all_eq_true]
  intro y hy
  obtain ⟨n, hn, rfl⟩ := List.mem_map.mp hy
  rfl
def StrsAt (K : PySem.W.Frag) (H : Hp) (x y : V) (k : Str) (l : List Str) : Prop := x = .str k ∧ ∃ p, y = .ref p ∧ SqL K H p (l.map V.str)
theorem notInS {X : Cx} {K : PySem.W.Frag} (hk : X.K = K) : OpR X (compareOp .NotIn) (fun x y H Q => ∃ k l, StrsAt K H x y k l ∧ Q (.bl (!decide (k ∈ l))) H) := by
  subst hk
  exact opImp op_notIn_seq fun x y H Q ⟨k, l, ⟨e, p, e2, h⟩, q⟩ => ⟨p, l.map V.str, e2, .inl h, by rw [e]; rfl, flat_str l, by rw [e]; show Q (.bl (!inV _ _)) H; rw [inV_str]; exact q⟩
theorem fmod_pos (x : Int) {m : Nat} (h : 0 < m) : ∃ r : Nat, Int.fmod x (m : Int) = (r : Nat) ∧ r < m := by
  have h0 : (0 : Int) < m := by omega
  have h1 := Int.fmod_nonneg_of_pos x h0
  have h2 := Int.fmod_lt_of_pos x h0
  exact ⟨(Int.fmod x m).toNat, by omega, by omega⟩
theorem cut20 (xs : List V) : cutV xs none (some 20) = xs.take 20 := by
  unfold cutV
  have e : HT.sIx xs.length xs.length (some 20) = min 20 xs.length := by
    show (if (20 : Int) < 0 then ((20 : Int) + xs.length).toNat else min (20 : Int).toNat xs.length) = _
    rw [if_neg (by decide)]; rfl
  rw [e]
  show List.take (min 20 xs.length - 0) (List.drop 0 xs) = _
  rw [List.drop_zero, Nat.sub_zero]
  rcases Nat.le_total 20 xs.length with h | h
  · rw [Nat.min_eq_left h]
  · rw [Nat.min_eq_right h, List.take_length, List.take_of_length_le h]
/-- the counted boards -/
def counted (pts : List Nat) : List Nat := (List.range pts.length).flatMap fun k => List.replicate (pts.getD k 0) k
theorem counted_count (pts : List Nat) (k : Nat) : (counted pts).count k = pts.getD k 0 := by
  unfold counted
  have : ∀ n, ((List.range n).flatMap fun j => List.replicate (pts.getD j 0) j).count k = if k < n then pts.getD k 0 else 0 := by
    intro n
    induction n with
    | zero => simp
    | succ n ih =>
      rw [List.range_succ, List.flatMap_append, List.count_append, ih]
      simp only [List.flatMap_cons, List.flatMap_nil, List.append_nil]
      by_cases c : n = k
      · subst c; simp
      · have e : (List.replicate (pts.getD n 0) n).count k = 0 := List.count_eq_zero.mpr fun h => c (List.mem_replicate.mp h).2.symm
        rw [e, Nat.add_zero]
        by_cases c2 : k < n
        · rw [if_pos c2, if_pos (show k < n + 1 by omega)]
        · rw [if_neg c2, if_neg (show ¬ k < n + 1 by omega)]
  rw [this]
  by_cases c : k < pts.length
  · rw [if_pos c]
  · rw [if_neg c, List.getD_eq_getElem?_getD, List.getElem?_eq_none (by omega)]; rfl
theorem take_sum (pts : List Nat) : ∀ n, ((List.range n).flatMap fun j => List.replicate (pts.getD j 0) j).length = (pts.take n).sum := by
  intro n
  induction n with
  | zero => simp
  | succ n ih =>
    rw [List.range_succ, List.flatMap_append, List.length_append, ih]
    simp only [List.flatMap_cons, List.flatMap_nil, List.append_nil, List.length_replicate]
    rcases Nat.lt_or_ge n pts.length with h | h
    · rw [take_snoc (List.getElem?_eq_getElem h), List.sum_append, List.getD_eq_getElem?_getD, List.getElem?_eq_getElem h]; simp
    · rw [List.take_of_length_le h, List.take_of_length_le (by omega), List.getD_eq_getElem?_getD, List.getElem?_eq_none h]; simp
theorem counted_len (pts : List Nat) : (counted pts).length = pts.sum := by
  unfold counted
  rw [take_sum, List.take_length]
theorem counted_lt {pts : List Nat} {k : Nat} (h : k ∈ counted pts) : k < pts.length := by
  unfold counted at h
  obtain ⟨j, hj, hk⟩ := List.mem_flatMap.mp h
  rw [(List.mem_replicate.mp hk).2]
  exact List.mem_range.mp hj
end Ug

/-! the law's own draws -/
namespace Ug
open PySem PySem.Spec PyProof.Rows L2
theorem ix_sl {K : PySem.W.Frag} {H : Hp} {a : Addr} {xs : List V} {j : Nat} {y : V} (h : SqL K H a xs) (e : xs[j]? = some y) : IxLs K H (.ref a) (.int (j : Nat)) y := ⟨a, xs, j, rfl, rfl, h, atI_nat e⟩
theorem len_sl {K : PySem.W.Frag} {H : Hp} {a : Addr} {xs : List V} (h : SqL K H a xs) : LenIs K H [.ref a] xs.length := ⟨a, xs, rfl, .inl h, rfl⟩
theorem ne1 : (2147483647 : Int) ≠ 0 := by decide
theorem ne2 : (2147483629 : Int) ≠ 0 := by decide
theorem ne3 : (2147483399 : Int) ≠ 0 := by decide
theorem fm1 (x : Int) : 0 ≤ Int.fmod x 2147483647 ∧ Int.fmod x 2147483647 < 2147483647 := ⟨Int.fmod_nonneg_of_pos x (by decide), Int.fmod_lt_of_pos x (by decide)⟩
theorem cm_fm1 {x y : Int} : CMul (Int.fmod x 2147483647) y := .inl ⟨by have := (fm1 x).1; omega, by have := (fm1 x).2; omega⟩
theorem fm2 (x : Int) : 0 ≤ Int.fmod x 2147483629 ∧ Int.fmod x 2147483629 < 2147483629 := ⟨Int.fmod_nonneg_of_pos x (by decide), Int.fmod_lt_of_pos x (by decide)⟩
theorem fm3 (x : Int) : 0 ≤ Int.fmod x 2147483399 ∧ Int.fmod x 2147483399 < 2147483399 := ⟨Int.fmod_nonneg_of_pos x (by decide), Int.fmod_lt_of_pos x (by decide)⟩
section
variable {P : Program} {w : World} {K : PySem.W.Frag} {mg : Str → Option Value} {base : Heap}
abbrev n__law_source : List Str := ["_law_script", "_law_at", "_law_cell", "_law_seed", "_law_k"]
theorem sc__law_source : FnScope ["_law_script", "_law_at", "_law_cell", "_law_seed", "_law_k"] ["_law_script", "_law_at"] (defScope s__law_source) := ⟨rfl, rfl, rfl, by decide +kernel, rfl, by decide +kernel, by decide +kernel⟩
theorem ok__law_source (T : Tx K mg) : Dfn P w K mg base 1 "_law_source" ["_law_script", "_law_at"] (fun vs H Q => ∃ (sa : Addr) (at' : Nat) (ns : List Int), vs = [.ref sa, .int (at' : Nat)] ∧ SqL K H sa (ns.map V.int) ∧ ns.length ≤ 1000 ∧ at' ≤ 1000 ∧ ∀ H' a, Same H H' → H a = none → SrcAt H' a → Q (.ref a) H') :=
  Dfn.mk T.f__law_source T.g__law_source sc__law_source (fun _ _ _ _ _ _ us hl => match us, hl with | [_, _], _ => rfl) (fun vs H Q h => by obtain ⟨sa, at', ns, rfl, _⟩ := h; rfl) fun cdv A outer s0 H vs Q E hr h => by
  obtain ⟨sa, at', ns, rfl, hs, hl, hat, q⟩ := h
  refine ⟨_, (pss_cons (ps_set (i := 2) sc__law_source.nd rfl (Or.inl rfl) pe_int)
  (pss_cons (ps_if (pt_cmpR op_lt (pv 1) (pe_callB (lenA (K := K) rfl) (by rfl) T.b_len (by decide +kernel) (pa_cons (pv 0) pa_nil)) (nomark _))
    (pss_one (ps_set (i := 2) sc__law_source.nd rfl (Or.inl rfl) (pe_ix (ixLA (K := K) rfl) (pv 0) (pv 1) (fun _ _ => rfl)))) pss_nil)
  (pss_cons (ps_set (i := 3) sc__law_source.nd rfl (Or.inl rfl) (pe_op op_add (pv 1) pe_int))
  (pss_cons (ps_for PassesOwn.never rfl (pi_range1 (by rfl) T.b_range (pa_cons (pe_callB (call_min2 rfl) (by rfl) T.b_min (by decide +kernel) (pa_cons (pe_callB (lenA (K := K) rfl) (by rfl) T.b_len (by decide +kernel) (pa_cons (pv 0) pa_nil)) (pa_cons pe_int pa_nil))) pa_nil)) (pg_name (i := 4) sc__law_source.nd rfl (Or.inl rfl))
    (pss_one (ps_set (i := 3) sc__law_source.nd rfl (Or.inl rfl) (pe_op op_modN (pe_callTy call_int1 (by rfl) T.b_int boot_int (pa_cons (pe_op op_add (pe_op op_add (pe_op op_mul (pv 3) pe_int) (pe_ix (ixLA (K := K) rfl) (pv 0) (pv 4) (fun _ _ => rfl))) pe_int) pa_nil)) pe_int))))
  (pss_cons (ps_set (i := 3) sc__law_source.nd rfl (Or.inl rfl) (pe_op op_modN (pe_callTy call_int1 (by rfl) T.b_int boot_int (pa_cons (pe_op op_add (pe_op op_mul (pv 3) pe_int) (pv 2)) pa_nil)) pe_int))
  (pss_one (ps_ret (pe_lst (pa_cons (pv 2) (pa_cons (pe_callTy call_int1 (by rfl) T.b_int boot_int (pa_cons (pe_cmpR op_ge (pv 2) (pe_op op_pow pe_int pe_int) (nomark _)) pa_nil)) (pa_cons (pv 3) (pa_cons pe_int pa_nil)))))))))))), ?_⟩
  have nl : (ns.map V.int).length = ns.length := List.length_map _
  have e0 : ∀ c : decide (((at' : Nat) : Int) < (((ns.map V.int).length : Nat) : Int)) = true, (ns.map V.int)[at']? = some (.int (ns.getD at' 0)) := fun c => by
    have hlt : at' < ns.length := by have := of_decide_eq_true c; rw [nl] at this; omega
    rw [List.getElem?_map, List.getD_eq_getElem?_getD, List.getElem?_eq_getElem hlt]; rfl
  have mn : ∃ k : Nat, (if (6 : Int) < (((ns.map V.int).length : Nat) : Int) then (6 : Int) else (((ns.map V.int).length : Nat) : Int)) = (k : Nat) ∧ k ≤ 6 ∧ k ≤ ns.length := by
    rw [nl]
    split
    · exact ⟨6, rfl, by omega, by omega⟩
    · exact ⟨ns.length, rfl, by omega, by omega⟩
  obtain ⟨k6, ek, k6a, k6b⟩ := mn
  refine ⟨_, rfl, _, rfl, _, len_sl hs, _, _, rfl, rfl, _, rfl, ite2 (fun c => ⟨_, rfl, _, rfl, _, ix_sl hs (e0 c), ?_⟩) fun c => ?_⟩
  all_goals
    refine ⟨_, rfl, _, _, rfl, rfl, ?_⟩
    refine ⟨_, rfl, _, len_sl hs, _, _, rfl, (k6 : Int), by rw [ek], by omega, by omega, ?_⟩
    refine for_it (walk_range (lo := 0) (n := ((k6 : Nat) : Int).toNat)) (fun i σ H2 => H2 = H ∧ ∃ (cell sd : Int) (x : Option V), σ = [some (.ref sa), some (.int (at' : Nat)), some (.int cell), some (.int sd), x] ∧ 0 ≤ sd ∧ sd < 2147483647) ⟨rfl, _, _, _, rfl, by omega, by omega⟩ (fun _ _ _ _ _ => True.intro) (fun i x σ H2 H3 hi h y => ?_) fun σ H2 h => ?_
    · obtain ⟨rfl, cell, sd, x0, rfl, lo, hi2⟩ := h
      obtain ⟨rfl, rfl⟩ := y
      have hi3 : i < ns.length := by omega
      have e1 : (ns.map V.int)[i]? = some (.int (ns.getD i 0)) := by
        rw [List.getElem?_map, List.getD_eq_getElem?_getD, List.getElem?_eq_getElem hi3]; rfl
      have ix : IxLs K H3 (.ref sa) (.int (0 + (i : Nat))) (.int (ns.getD i 0)) := by
        rw [show (0 : Int) + (i : Nat) = (i : Nat) by omega]; exact ix_sl hs e1
      refine ⟨_, rfl, _, _, rfl, rfl, .inl ⟨by omega, by omega⟩, _, rfl, _, rfl, _, ix, _, _, rfl, rfl, _, _, rfl, rfl, .inl ⟨_, rfl, _, _, rfl, rfl, ne1, rfl, cell, _, _, rfl, (fm1 _).1, (fm1 _).2⟩⟩
    · obtain ⟨rfl, cell, sd, x0, rfl, lo, hi2⟩ := h
      refine ⟨_, rfl, _, _, rfl, rfl, .inl ⟨by omega, by omega⟩, _, rfl, _, _, rfl, rfl, .inl ⟨_, rfl, _, _, rfl, rfl, ne2, ?_⟩⟩
      refine ⟨_, rfl, _, rfl, _, _, rfl, rfl, ⟨by omega, by omega, by decide⟩, _, _, rfl, rfl, .inr ⟨_, rfl, _, rfl, room_le1 (by simp), fun a na => q _ a (Same.new na) na ⟨_, _, _, _, upd_same⟩⟩⟩
abbrev n__law_take : List Str := ["_law_source_here", "_law_many", "_law_found", "_law_number"]
theorem sc__law_take : FnScope ["_law_source_here", "_law_many", "_law_found", "_law_number"] ["_law_source_here", "_law_many"] (defScope s__law_take) := ⟨rfl, rfl, rfl, by decide +kernel, rfl, by decide +kernel, by decide +kernel⟩
theorem ok__law_take (T : Tx K mg) : Dfn P w K mg base 1 "_law_take" ["_law_source_here", "_law_many"] (fun vs H Q => ∃ (a : Addr) (many : Nat), vs = [.ref a, .int (many : Nat)] ∧ SrcAt H a ∧ 0 < many ∧ many ≤ 1000 ∧ ∀ H' (r : Nat), Out a H H' → SrcAt H' a → r < many → Q (.int (r : Nat)) H') :=
  Dfn.mk T.f__law_take T.g__law_take sc__law_take (fun _ _ _ _ _ _ us hl => match us, hl with | [_, _], _ => rfl) (fun vs H Q h => by obtain ⟨a, many, rfl, _⟩ := h; rfl) fun cdv A outer s0 H vs Q E hr h => by
  obtain ⟨a, many, rfl, ⟨c, f, s, n, hsrc⟩, pos, le, q⟩ := h
  refine ⟨_, (pss_cons (ps_asg (pe_op op_add (pe_ix (ixLA (K := K) rfl) (pv 0) pe_int (fun _ _ => rfl)) pe_int) (pg_sub (pv 0) pe_int set_list))
  (pss_cons (ps_if (PW.pt (pw_and (pt_cmpR op_eq (pe_ix (ixLA (K := K) rfl) (pv 0) pe_int (fun _ _ => rfl)) pe_int (nomark _)) (pw_and1 (pt_cmpR op_gt (pe_ix (ixLA (K := K) rfl) (pv 0) pe_int (fun _ _ => rfl)) pe_int (nomark _)))))
    (pss_cons (ps_set (i := 2) sc__law_take.nd rfl (Or.inl rfl) (pe_op op_modN (pe_callTy call_int1 (by rfl) T.b_int boot_int (pa_cons (pe_ix (ixLA (K := K) rfl) (pv 0) pe_int (fun _ _ => rfl)) pa_nil)) (pv 1)))
    (pss_cons (ps_asg (pe_op op_fdivN (pe_ix (ixLA (K := K) rfl) (pv 0) pe_int (fun _ _ => rfl)) (pv 1)) (pg_sub (pv 0) pe_int set_list))
    (pss_one (ps_ret (pv 2))))) pss_nil)
  (pss_cons (ps_set (i := 3) sc__law_take.nd rfl (Or.inl rfl) (pe_op op_modN (pe_op op_mul (pe_callTy call_int1 (by rfl) T.b_int boot_int (pa_cons (pe_op op_add (pe_ix (ixLA (K := K) rfl) (pv 0) pe_int (fun _ _ => rfl)) (pe_op op_mul pe_int (pe_ix (ixLA (K := K) rfl) (pv 0) pe_int (fun _ _ => rfl)))) pa_nil)) pe_int) pe_int))
  (pss_cons (ps_set (i := 3) sc__law_take.nd rfl (Or.inl rfl) (pe_op op_modN (pe_op op_mul (pv 3) (pe_op op_add (pe_op op_fdivN (pv 3) pe_int) pe_int)) pe_int))
  (pss_cons (ps_set (i := 3) sc__law_take.nd rfl (Or.inl rfl) (pe_op op_modN (pe_op op_mul (pv 3) (pe_op op_add (pe_op op_fdivN (pv 3) pe_int) pe_int)) pe_int))
  (pss_one (ps_ret (pe_op op_modN (pe_op op_fdivN (pv 3) pe_int) (pv 1))))))))), ?_⟩
  have mne : ((many : Nat) : Int) ≠ 0 := by omega
  have l3 : ∀ {H : Hp} {c f s n : Int}, H a = some (.lst [.int c, .int f, .int s, .int n]) → IxLs K H (.ref a) (.int 3) (.int n) := fun h => ix_l (j := 3) h rfl
  have l0 : ∀ {H : Hp} {c f s n : Int}, H a = some (.lst [.int c, .int f, .int s, .int n]) → IxLs K H (.ref a) (.int 0) (.int c) := fun h => ix_l (j := 0) h rfl
  have l1 : ∀ {H : Hp} {c f s n : Int}, H a = some (.lst [.int c, .int f, .int s, .int n]) → IxLs K H (.ref a) (.int 1) (.int f) := fun h => ix_l (j := 1) h rfl
  have l2 : ∀ {H : Hp} {c f s n : Int}, H a = some (.lst [.int c, .int f, .int s, .int n]) → IxLs K H (.ref a) (.int 2) (.int s) := fun h => ix_l (j := 2) h rfl
  refine ⟨_, rfl, _, l3 hsrc, _, _, rfl, rfl, _, rfl, a, _, _, 3, rfl, rfl, hsrc, rfl, ?_⟩
  have o1 : Out a H (upd H a (.lst [.int c, .int f, .int s, .int (n + 1)])) := fun b o e ne => by rw [upd_ne ne]; exact e
  have h1 : (upd H a (.lst [.int c, .int f, .int s, .int (n + 1)])) a = some (.lst [.int c, .int f, .int s, .int (n + 1)]) := upd_same
  generalize hH1 : upd H a (.lst [.int c, .int f, .int s, .int (n + 1)]) = H1 at o1 h1
  have eH : upd H a (.lst ([.int c, .int f, .int s, .int n].set 3 ((fun i j => V.int (i + j)) n 1))) = H1 := hH1
  rw [eH]
  have fin : ∀ x : Int, Q (.int (Int.fmod x many)) H1 := fun x => by
    obtain ⟨r, er, rlt⟩ := fmod_pos x pos
    rw [er]
    exact q H1 r o1 ⟨_, _, _, _, h1⟩ rlt
  refine ⟨_, rfl, _, l1 h1, rfl, _, rfl, ite2 (fun c1 => ⟨_, rfl, _, l0 h1, _, _, rfl, rfl, _, rfl, ite2 (fun c2 => ?_) fun c2 => ?_⟩) fun c1 => ?_⟩
  · obtain ⟨r, er, rlt⟩ := fmod_pos c pos
    refine ⟨_, rfl, _, l0 h1, .inl ⟨_, rfl, _, rfl, _, _, rfl, rfl, mne, ?_⟩⟩
    refine ⟨_, rfl, _, l0 h1, _, rfl, _, _, rfl, rfl, ⟨mne, by omega⟩, _, rfl, a, _, _, 0, rfl, rfl, h1, rfl, _, rfl, ?_⟩
    show Q (.int (Int.fmod c many)) _
    rw [er]
    exact q _ r (fun b o e ne => by rw [upd_ne ne]; exact o1 b o e ne) ⟨_, _, _, _, upd_same⟩ rlt
  all_goals
    refine ⟨_, rfl, _, l2 h1, _, rfl, _, l3 h1, _, _, rfl, rfl, .inl ⟨by omega, by omega⟩, _, _, rfl, rfl, .inl ⟨_, rfl, _, _, rfl, rfl, .inr ⟨by omega, by omega⟩, _, _, rfl, rfl, ne1, ?_⟩⟩
    refine ⟨_, rfl, _, rfl, _, _, rfl, rfl, ⟨by decide, by decide⟩, _, _, rfl, rfl, _, _, rfl, rfl, cm_fm1, _, _, rfl, rfl, ne1, ?_⟩
    refine ⟨_, rfl, _, rfl, _, _, rfl, rfl, ⟨by decide, by decide⟩, _, _, rfl, rfl, _, _, rfl, rfl, cm_fm1, _, _, rfl, rfl, ne3, ?_⟩
    exact ⟨_, rfl, _, _, rfl, rfl, ⟨by decide, by decide⟩, _, rfl, _, _, rfl, rfl, mne, fin _⟩
end
end Ug

/-! the law's own halls, points, aims -/
namespace Ug
open PySem PySem.Spec PyProof.Rows L2
theorem abc_at {r : Nat} (h : r < 26) : ∃ c, atI abc.cps.toList (r : Nat) = some c ∧ c ∈ abc.cps.toList := by
  have hl : r < abc.cps.toList.length := by rw [show abc.cps.toList.length = 26 from by decide +kernel]; exact h
  exact ⟨abc.cps.toList[r], atI_nat (List.getElem?_eq_getElem hl), List.getElem_mem hl⟩
def words : List Str := ["a", "b", "cd"]
theorem words_ok : ∀ z ∈ words, Lets z 20 := by
  intro z hz
  unfold words at hz
  simp only [List.mem_cons, List.not_mem_nil, or_false] at hz
  rcases hz with rfl | rfl | rfl
  · exact ⟨by decide +kernel, by decide +kernel, by omega, by decide +kernel⟩
  · exact ⟨by decide +kernel, by decide +kernel, by omega, by decide +kernel⟩
  · exact ⟨by decide +kernel, by decide +kernel, by omega, by decide +kernel⟩
theorem word_at {r : Nat} (h : r < 3) : ∃ z, (words.map V.str)[r]? = some (.str z) ∧ z ∈ words := by
  have hl : r < words.length := h
  exact ⟨words[r], by rw [List.getElem?_map, List.getElem?_eq_getElem hl]; rfl, List.getElem_mem hl⟩
theorem listed_strs : ∀ {ys : List V} {G : Str → Prop}, (∀ (i : Nat) (y : V), ys[i]? = some y → ∃ z, y = .str z ∧ G z) → ∃ zs : List Str, ys = zs.map V.str ∧ ∀ z ∈ zs, G z
  | [], _, _ => ⟨[], rfl, fun z h => by cases h⟩
  | y :: ys, G, h => by
    obtain ⟨z, e, hz⟩ := h 0 y rfl
    obtain ⟨zs, e2, h2⟩ := listed_strs (ys := ys) (G := G) fun i x hx => h (i + 1) x hx
    exact ⟨z :: zs, by rw [e, e2]; rfl, fun x hx => (List.mem_cons.mp hx).elim (fun e => e ▸ hz) (h2 x)⟩
section
variable {P : Program} {w : World} {K : PySem.W.Frag} {mg : Str → Option Value} {base : Heap}
abbrev n__law_names : List Str := ["_law_source_here", "_law_many", "_law_letters", "_law_found", "_law_k", "_law_size", "_law_word", "_law_sign"]
theorem sc__law_names : FnScope ["_law_source_here", "_law_many", "_law_letters", "_law_found", "_law_k", "_law_size", "_law_word", "_law_sign"] ["_law_source_here", "_law_many"] (defScope s__law_names) := ⟨rfl, rfl, rfl, by decide +kernel, rfl, by decide +kernel, by decide +kernel⟩
theorem ok__law_names (T : Tx K mg) : Dfn P w K mg base 2 "_law_names" ["_law_source_here", "_law_many"] (fun vs H Q => ∃ (a : Addr) (many : Nat), vs = [.ref a, .int (many : Nat)] ∧ SrcAt H a ∧ 1 ≤ many ∧ many ≤ 3 ∧
    ∀ H' (p : Addr) (ns : List Str), Out a H H' → SrcAt H' a → p ≠ a → H' p = some (.lst (ns.map V.str)) → 1 ≤ ns.length → ns.length ≤ 3 → (∀ z ∈ ns, Lets z 8) → Q (.ref p) H') :=
  Dfn.mk T.f__law_names T.g__law_names sc__law_names (fun _ _ _ _ _ _ us hl => match us, hl with | [_, _], _ => rfl) (fun vs H Q h => by obtain ⟨a, many, rfl, _⟩ := h; rfl) fun cdv A outer s0 H vs Q E hr h => by
  obtain ⟨a, many, rfl, hsrc, lo, hi, q⟩ := h
  refine ⟨_, (pss_cons (ps_set (i := 2) sc__law_names.nd rfl (Or.inr rfl) pe_str)
  (pss_cons (ps_set (i := 3) sc__law_names.nd rfl (Or.inl rfl) (pe_lst pa_nil))
  (pss_cons (ps_for PassesOwn.never rfl (pi_range1 (by rfl) T.b_range (pa_cons (pv 1) pa_nil)) (pg_name (i := 4) sc__law_names.nd rfl (Or.inl rfl))
    (pss_cons (ps_set (i := 5) sc__law_names.nd rfl (Or.inl rfl) (pe_op op_add pe_int (pe_c ((ok__law_take T).mono (by decide)) hr (pa_cons (pv 0) (pa_cons pe_int pa_nil)))))
    (pss_cons (ps_set (i := 6) sc__law_names.nd rfl (Or.inl rfl) (pe_join pe_str (pe_lc (own := [("_law_sign", 7)]) (g := (gName 7)) (tt := tYes) rfl sc__law_names.nd (pi_range1 (by rfl) T.b_range (pa_cons (pv 5) pa_nil)) (blkOk_by (own := [("_law_sign", 7)]) (N := n__law_names) (sc := defScope s__law_names) (by decide +kernel)) (fun _ _ _ _ _ => (pg_name (i := 7) sc__law_names.nd rfl (Or.inl rfl))) (fun _ _ _ _ _ => pts_nil) (fun _ _ _ _ _ => (pe_ix ix_str (pv 2) (pe_c ((ok__law_take T).mono (by decide)) hr (pa_cons (pv 0) (pa_cons pe_int pa_nil))) (fun _ _ => rfl))))))
    (pss_one (ps_if (pt_cmpR (notInS (K := K) rfl) (pv 6) (pv 3) rfl)
      (pss_one (ps_expr (pe_bm PySem.F.plainAttrs_list PySem.F.slot_list_append PySem.F.type_list_append mt_append (pv 3) (pa_cons (pv 6) pa_nil)))) pss_nil)))))
  (pss_one (ps_ret (pv 3)))))), ?_⟩
  refine ⟨room_le1 (by simp), fun fp nfp => ?_⟩
  have fa : fp ≠ a := fun z => by obtain ⟨c, f, s, n, e⟩ := hsrc; rw [z, e] at nfp; cases nfp
  refine ⟨_, rfl, (many : Int), rfl, by omega, by omega, ?_⟩
  refine for_it (walk_range (lo := 0) (n := ((many : Nat) : Int).toNat)) (fun i σ H1 => Out a H H1 ∧ SrcAt H1 a ∧ ∃ (ns : List Str) (x y z : Option V), σ = [some (.ref a), some (.int (many : Nat)), some (.str abc), some (.ref fp), x, y, z, none] ∧ H1 fp = some (.lst (ns.map V.str)) ∧ (0 < i → 1 ≤ ns.length) ∧ ns.length ≤ i ∧ ∀ z ∈ ns, Lets z 8)
    ⟨Out.of (Same.new nfp), hsrc.same (Same.new nfp), [], none, none, none, rfl, upd_same, fun z => by omega, by simp, fun z h => by cases h⟩ (fun _ _ _ _ _ => True.intro) (fun i x σ H1 H2 hi2 h y => ?_) fun σ H1 h => ?_
  · obtain ⟨o1, sr1, ns, x0, y0, z0, rfl, hfp, hpos, hlen, hlets⟩ := h
    obtain ⟨rfl, rfl⟩ := y
    refine ⟨_, rfl, a, 8, rfl, sr1, by omega, by omega, fun H3 r o3 sr3 hr3 => ⟨_, _, rfl, rfl, ?_⟩⟩
    have e1 : (1 : Int) + (r : Nat) = ((1 + r : Nat) : Int) := by omega
    refine ⟨⟨_, rfl⟩, _, rfl, ((1 + r : Nat) : Int), by rw [← e1], by omega, by omega, fun D hD => ?_⟩
    refine lc_out (walk_range (lo := 0) (n := ((1 + r : Nat) : Int).toNat)) (by omega) hD sr3 (fun _ _ y => ∃ z, y = V.str z ∧ ∃ c, z = ⟨#[c]⟩ ∧ c ∈ abc.cps.toList) (fun _ _ _ _ _ h => h) (fun _ _ => True.intro) (fun j x H4 H5 Qc hj o4 sr4 y kk => ?_) fun H4 ys o4 sr4 hys hl hY => ?_
    · obtain ⟨rfl, rfl⟩ := y
      refine ⟨rfl, _, rfl, _, rfl, a, 26, rfl, sr4, by omega, by omega, fun H6 r6 o6 sr6 hr6 => ?_⟩
      obtain ⟨c, hc, hca⟩ := abc_at hr6
      exact ⟨_, _, c, rfl, rfl, by rw [sizeLine_eq]; decide +kernel, hc, kk _ _ o6 sr6 ⟨_, rfl, c, rfl, hca⟩⟩
    obtain ⟨zs, rfl, hzs⟩ := listed_strs hY
    rw [List.length_map, Int.toNat_natCast] at hl
    have lets := join_lets (n := 1 + r) hl (by omega) (by omega) hzs
    have o24 : Out a H2 H4 := o3.trans o4
    have hfp4 := o24 _ _ hfp fa
    have sum : ∀ l : List Str, (∀ z ∈ l, ∃ c, z = ⟨#[c]⟩ ∧ c ∈ abc.cps.toList) → (l.map fun x => x.length).sum = l.length := by
      intro l hl
      induction l with
      | nil => rfl
      | cons a l ih =>
        obtain ⟨c, e, _⟩ := hl a List.mem_cons_self
        rw [List.map_cons, List.sum_cons, ih fun z hz => hl z (List.mem_cons_of_mem _ hz), e, List.length_cons]
        show 1 + l.length = _
        omega
    refine ⟨_, D, zs, rfl, rfl, .inl (SqL.of hys), by rw [sum zs hzs, hl, show ("" : Str).length = 0 from rfl]; omega, ?_⟩
    refine ⟨_, rfl, _, rfl, _, ns, ⟨rfl, fp, rfl, SqL.of hfp4⟩, _, rfl, ite2 (fun c => ?_) fun c => ?_⟩
    · refine ⟨_, rfl, .inl ⟨rfl, _, SqL.of hfp4⟩, _, rfl, fp, _, _, rfl, rfl, hfp4, by rw [List.length_map, sizeLine_eq]; omega, ?_⟩
      refine ⟨fun b o e ne => ?_, ?_, ns ++ [Txt.join "" zs], _, _, _, rfl, by rw [upd_same, List.map_append]; rfl, fun _ => by rw [List.length_append]; simp, by rw [List.length_append]; simp; omega, fun z hz => ?_⟩
      · rw [upd_ne (fun z => by rw [z, nfp] at e; cases e)]
        exact (o1.trans o24) _ _ e ne
      · obtain ⟨c, f, s, n, e⟩ := sr4
        exact ⟨c, f, s, n, by rw [upd_ne (Ne.symm fa)]; exact e⟩
      · rcases List.mem_append.mp hz with hz | hz
        · exact hlets z hz
        · rw [List.mem_singleton.mp hz]; exact lets
    · have hin : Txt.join "" zs ∈ ns := by simpa using c
      exact ⟨o1.trans o24, sr4, ns, _, _, _, rfl, hfp4, fun _ => List.length_pos_of_mem hin, by omega, hlets⟩
  · obtain ⟨o1, sr1, ns, x0, y0, z0, rfl, hfp, hpos, hlen, hlets⟩ := h
    rw [Int.toNat_natCast] at hpos hlen
    exact ⟨_, rfl, q H1 fp ns o1 sr1 fa hfp (hpos (by omega)) (by omega) hlets⟩
abbrev n__law_points : List Str := ["_law_source_here", "_law_many", "_law_found", "_law_room", "_law_k", "_law_number"]
theorem sc__law_points : FnScope ["_law_source_here", "_law_many", "_law_found", "_law_room", "_law_k", "_law_number"] ["_law_source_here", "_law_many"] (defScope s__law_points) := ⟨rfl, rfl, rfl, by decide +kernel, rfl, by decide +kernel, by decide +kernel⟩
theorem ok__law_points (T : Tx K mg) : Dfn P w K mg base 2 "_law_points" ["_law_source_here", "_law_many"] (fun vs H Q => ∃ (a : Addr) (many : Nat), vs = [.ref a, .int (many : Nat)] ∧ SrcAt H a ∧ many ≤ 8 ∧
    ∀ H' r (pts : List Nat), Out a H H' → SrcAt H' a → Tp H' r (nats pts) → pts.length = many → pts.sum ≤ 24 → (∀ k ∈ pts, k ≤ 24) → Q r H') :=
  Dfn.mk T.f__law_points T.g__law_points sc__law_points (fun _ _ _ _ _ _ us hl => match us, hl with | [_, _], _ => rfl) (fun vs H Q h => by obtain ⟨a, many, rfl, _⟩ := h; rfl) fun cdv A outer s0 H vs Q E hr h => by
  obtain ⟨a, many, rfl, hsrc, hi, q⟩ := h
  refine ⟨_, (pss_cons (ps_set (i := 2) sc__law_points.nd rfl (Or.inl rfl) (pe_lst pa_nil))
  (pss_cons (ps_set (i := 3) sc__law_points.nd rfl (Or.inl rfl) pe_int)
  (pss_cons (ps_for PassesOwn.never rfl (pi_range1 (by rfl) T.b_range (pa_cons (pv 1) pa_nil)) (pg_name (i := 4) sc__law_points.nd rfl (Or.inl rfl))
    (pss_cons (ps_set (i := 5) sc__law_points.nd rfl (Or.inl rfl) (pe_callB (call_min2 rfl) (by rfl) T.b_min (by decide +kernel) (pa_cons (pv 3) (pa_cons (pe_c ((ok__law_take T).mono (by decide)) hr (pa_cons (pv 0) (pa_cons pe_int pa_nil))) pa_nil))))
    (pss_cons (ps_set (i := 3) sc__law_points.nd rfl (Or.inl rfl) (pe_op op_sub (pv 3) (pv 5)))
    (pss_one (ps_expr (pe_bm PySem.F.plainAttrs_list PySem.F.slot_list_append PySem.F.type_list_append mt_append (pv 2) (pa_cons (pv 5) pa_nil)))))))
  (pss_one (ps_ret (pe_callTy (tupA (K := K) rfl) (by rfl) T.b_tuple boot_tuple (pa_cons (pv 2) pa_nil))))))), ?_⟩
  refine ⟨room_le1 (by simp), fun fp nfp => ?_⟩
  have fa : fp ≠ a := fun z => by obtain ⟨c, f, s, n, e⟩ := hsrc; rw [z, e] at nfp; cases nfp
  refine ⟨_, rfl, (many : Int), rfl, by omega, by omega, ?_⟩
  refine for_it (walk_range (lo := 0) (n := ((many : Nat) : Int).toNat)) (fun i σ H1 => Out a H H1 ∧ SrcAt H1 a ∧ ∃ (pts : List Nat) (rm : Nat) (x y : Option V), σ = [some (.ref a), some (.int (many : Nat)), some (.ref fp), some (.int (rm : Nat)), x, y] ∧ H1 fp = some (.lst (nats pts)) ∧ pts.length = i ∧ pts.sum + rm = 24 ∧ ∀ k ∈ pts, k ≤ 24)
    ⟨Out.of (Same.new nfp), hsrc.same (Same.new nfp), [], 24, none, none, rfl, upd_same, rfl, rfl, fun k h => by cases h⟩ (fun _ _ _ _ _ => True.intro) (fun i x σ H1 H2 hi2 h y => ?_) fun σ H1 h => ?_
  · obtain ⟨o1, sr1, pts, rm, x0, y0, rfl, hfp, hlen, hsum, hle⟩ := h
    obtain ⟨rfl, rfl⟩ := y
    refine ⟨_, rfl, _, rfl, a, 5, rfl, sr1, by omega, by omega, fun H3 r o3 sr3 hr3 => ⟨_, _, rfl, ?_⟩⟩
    have hfp3 := o3 _ _ hfp fa
    have e0 : (if (r : Int) < (rm : Int) then (r : Int) else (rm : Int)) = ((min rm r : Nat) : Int) := min_if rm r
    have e1 : (rm : Int) - (if (r : Int) < (rm : Int) then (r : Int) else (rm : Int)) = ((rm - min rm r : Nat) : Int) := by
      rw [e0]
      have := Nat.min_le_left rm r
      omega
    refine ⟨_, rfl, _, rfl, _, _, rfl, rfl, ?_⟩
    refine ⟨_, rfl, .inl ⟨rfl, _, SqL.of hfp3⟩, _, rfl, fp, _, _, rfl, rfl, hfp3, by rw [nats_length, sizeLine_eq]; omega, ?_⟩
    refine ⟨fun b o e ne => ?_, ?_, pts ++ [min rm r], rm - min rm r, some (.int (0 + (i : Nat))), some (.int (min rm r : Nat)), ?_, ?_, by rw [List.length_append, hlen]; rfl, ?_, fun k hk => ?_⟩
    · rw [upd_ne (fun z => by rw [z, nfp] at e; cases e)]
      exact (o1.trans o3) _ _ e ne
    · obtain ⟨c, f, s, n, e⟩ := sr3
      exact ⟨c, f, s, n, by rw [upd_ne (Ne.symm fa)]; exact e⟩
    · rw [← e1, ← e0]; rfl
    · rw [upd_same, ← nats_app]
      show some (HO.lst (nats pts ++ [V.int (if (r : Int) < (rm : Int) then (r : Int) else (rm : Int))])) = _
      rw [e0]; rfl
    · rw [List.sum_append]
      have := Nat.min_le_left rm r
      simp
      omega
    · rcases List.mem_append.mp hk with hk | hk
      · exact hle k hk
      · rw [List.mem_singleton.mp hk]
        have := Nat.min_le_left rm r
        omega
  · obtain ⟨o1, sr1, pts, rm, x0, y0, rfl, hfp, hlen, hsum, hle⟩ := h
    rw [Int.toNat_natCast] at hlen
    refine ⟨_, rfl, fp, _, rfl, .inl ⟨SqL.of hfp, fun l nl => q _ _ pts (o1.trans (Out.of (Same.new nl))) (sr1.same (Same.new nl)) ⟨l, rfl, upd_same⟩ hlen (by omega) hle⟩⟩
abbrev n__law_counted : List Str := ["_law_points_here", "_law_is_turned", "_law_found", "_law_board"]
theorem sc__law_counted : FnScope ["_law_points_here", "_law_is_turned", "_law_found", "_law_board"] ["_law_points_here", "_law_is_turned"] (defScope s__law_counted) := ⟨rfl, rfl, rfl, by decide +kernel, rfl, by decide +kernel, by decide +kernel⟩
theorem ok__law_counted (T : Tx K mg) : Dfn P w K mg base 1 "_law_counted" ["_law_points_here", "_law_is_turned"] (fun vs H Q => ∃ (v : V) (pts : List Nat) (b : Bool), vs = [v, .bl b] ∧ Tp H v (nats pts) ∧ pts.length ≤ 8 ∧ pts.sum ≤ 24 ∧ (∀ k ∈ pts, k ≤ 24) ∧
    ∀ H' r (cnt : List Nat), Same H H' → Tp H' r (nats cnt) → (∀ k, cnt.count k = pts.getD k 0) → cnt.length = pts.sum → (∀ k ∈ cnt, k < pts.length) → Q r H') :=
  Dfn.mk T.f__law_counted T.g__law_counted sc__law_counted (fun _ _ _ _ _ _ us hl => match us, hl with | [_, _], _ => rfl) (fun vs H Q h => by obtain ⟨v, pts, b, rfl, _⟩ := h; rfl) fun cdv A outer s0 H vs Q E hr h => by
  obtain ⟨v, pts, b, rfl, hp, h8, hsum, h24, q⟩ := h
  refine ⟨_, (pss_cons (ps_set (i := 2) sc__law_counted.nd rfl (Or.inl rfl) (pe_lst pa_nil))
  (pss_cons (ps_for PassesOwn.never rfl (pi_range1 (by rfl) T.b_range (pa_cons (pe_callB (lenA (K := K) rfl) (by rfl) T.b_len (by decide +kernel) (pa_cons (pv 0) pa_nil)) pa_nil)) (pg_name (i := 3) sc__law_counted.nd rfl (Or.inl rfl))
    (pss_one (ps_set (i := 2) sc__law_counted.nd rfl (Or.inl rfl) (pe_op catL (pv 2) (pe_op op_rep (pe_lst (pa_cons (pv 3) pa_nil)) (pe_ix (ixA (K := K) rfl) (pv 0) (pv 3) (fun _ _ => rfl)))))))
  (pss_cons (ps_if (pt_val (pv 1))
    (pss_one (ps_set (i := 2) sc__law_counted.nd rfl (Or.inl rfl) (pe_revL (pv 2)))) pss_nil)
  (pss_one (ps_ret (pe_callTy (tupA (K := K) rfl) (by rfl) T.b_tuple boot_tuple (pa_cons (pv 2) pa_nil))))))), ?_⟩
  refine ⟨room_le1 (by simp), fun f0 nf0 => ?_⟩
  have s0' : Same H (upd H f0 (.lst [])) := Same.new nf0
  refine ⟨_, rfl, _, len_t (stp s0' hp), ((pts.length : Nat) : Int), by rw [nats_length], by omega, by omega, ?_⟩
  let part : Nat → List Nat := fun n => (List.range n).flatMap fun k => List.replicate (pts.getD k 0) k
  refine for_it (walk_range (lo := 0) (n := ((pts.length : Nat) : Int).toNat)) (fun i σ H1 => Same H H1 ∧ ∃ (fp : Addr) (x : Option V), σ = [some v, some (.bl b), some (.ref fp), x] ∧ H1 fp = some (.lst (nats (part i)))) ⟨s0', f0, none, rfl, upd_same⟩ (fun _ _ _ _ _ => True.intro) (fun i x σ H1 H2 hi h y => ?_) fun σ H1 h => ?_
  · obtain ⟨s1, fp, x0, rfl, hfp⟩ := h
    obtain ⟨rfl, rfl⟩ := y
    have hi : i < pts.length := by rw [Int.toNat_natCast] at hi; exact hi
    have e0 : (0 : Int) + (i : Nat) = (i : Nat) := by omega
    have pl : (part i).length ≤ 24 := by
      show ((List.range i).flatMap fun k => List.replicate (pts.getD k 0) k).length ≤ 24
      rw [take_sum]
      have : pts.sum = (pts.take i).sum + (pts.drop i).sum := by rw [← List.sum_append, List.take_append_drop]
      omega
    have gi : pts.getD i 0 ≤ 24 := by
      rw [List.getD_eq_getElem?_getD, List.getElem?_eq_getElem hi]
      exact h24 _ (List.getElem_mem hi)
    have ix : ∀ {H' : Hp}, Same H2 H' → IxIs K H' v (.int (0 + (i : Nat))) (.int (pts.getD i 0 : Nat)) := fun s => by rw [e0]; exact ix_t (stp (s1.trans s) hp) (nats_get hi)
    refine ⟨_, rfl, _, rfl, room_le1 (by simp), fun l nl => ⟨_, rfl, _, rfl, _, ix (Same.new nl), l, _, _, rfl, rfl, upd_same, by omega, by omega, ?_, fun p2 n2 => ?_⟩⟩
    · rw [Int.toNat_natCast, sizeLine_eq]; show 1 * pts.getD i 0 ≤ _; omega
    have s3 : Same H2 (upd (upd H2 l (.lst [.int (0 + (i : Nat))])) p2 (.lst (List.replicate ((pts.getD i 0 : Nat) : Int).toNat [V.int (0 + (i : Nat))]).flatten)) := (Same.new nl).trans (Same.new n2)
    have erep : (List.replicate ((pts.getD i 0 : Nat) : Int).toNat [V.int (0 + (i : Nat))]).flatten = nats (List.replicate (pts.getD i 0) i) := by
      rw [Int.toNat_natCast, e0, List.flatten_replicate_singleton]
      unfold nats
      rw [List.map_replicate]
    refine ⟨fp, p2, _, _, rfl, rfl, s3 _ _ hfp, upd_same, ?_, fun p3 H4 n4 s4 e4 => ⟨s1.trans (s3.trans s4), p3, _, rfl, ?_⟩⟩
    · rw [erep, nats_length, nats_length, List.length_replicate]; omega
    · rw [e4, erep, nats_app]
      show some (HO.lst (nats (part i ++ List.replicate (pts.getD i 0) i))) = some (HO.lst (nats ((List.range (i + 1)).flatMap fun k => List.replicate (pts.getD k 0) k)))
      rw [List.range_succ, List.flatMap_append]
      simp only [List.flatMap_cons, List.flatMap_nil, List.append_nil]
      rfl
  · obtain ⟨s1, fp, x0, rfl, hfp⟩ := h
    rw [Int.toNat_natCast] at hfp
    have hfp : H1 fp = some (.lst (nats (counted pts))) := hfp
    refine ⟨_, rfl, b, rfl, ite2 (fun c => ?_) fun c => ?_⟩
    · refine ⟨_, rfl, fp, _, rfl, SqL.of hfp, fun p np => ⟨_, rfl, p, _, rfl, .inl ⟨SqL.of upd_same, fun l nl => q _ _ (counted pts).reverse (s1.trans ((Same.new np).trans (Same.new nl))) ⟨l, rfl, by rw [upd_same]; unfold nats; rw [List.map_reverse]⟩ (fun k => by rw [List.count_reverse]; exact counted_count pts k) (by rw [List.length_reverse]; exact counted_len pts) fun k hk => counted_lt (List.mem_reverse.mp hk)⟩⟩⟩
    · exact ⟨_, rfl, fp, _, rfl, .inl ⟨SqL.of hfp, fun l nl => q _ _ (counted pts) (s1.trans (Same.new nl)) ⟨l, rfl, upd_same⟩ (counted_count pts) (counted_len pts) fun k hk => counted_lt hk⟩⟩
end
end Ug

/-! the law's own boards -/
namespace Ug
open PySem PySem.Spec PyProof.Rows L2
section
variable {P : Program} {w : World} {K : PySem.W.Frag} {mg : Str → Option Value} {base : Heap}
abbrev n__law_boards : List Str := ["_law_source_here", "_law_many", "_law_names_here", "_law_is_fresh", "_law_words", "_law_found", "_law_k", "_law_name", "_law_side", "_law_row", "_law_turn", "_law_other"]
theorem sc__law_boards : FnScope ["_law_source_here", "_law_many", "_law_names_here", "_law_is_fresh", "_law_words", "_law_found", "_law_k", "_law_name", "_law_side", "_law_row", "_law_turn", "_law_other"] ["_law_source_here", "_law_many", "_law_names_here", "_law_is_fresh"] (defScope s__law_boards) := ⟨rfl, rfl, rfl, by decide +kernel, rfl, by decide +kernel, by decide +kernel⟩
theorem ok__law_boards (T : Tx K mg) : Dfn P w K mg base 2 "_law_boards" ["_law_source_here", "_law_many", "_law_names_here", "_law_is_fresh"] (fun vs H Q => ∃ (a np : Addr) (many : Nat) (ns : List Str) (fr : Bool), vs = [.ref a, .int (many : Nat), .ref np, .bl fr] ∧ SrcAt H a ∧ np ≠ a ∧ H np = some (.lst (ns.map V.str)) ∧ 1 ≤ ns.length ∧ ns.length ≤ 3 ∧ (∀ z ∈ ns, Lets z 8) ∧ 1 ≤ many ∧ many ≤ 8 ∧
    ∀ H' r (bs : List Brd), Out a H H' → SrcAt H' a → RBds H' r bs → BdsOk bs → bs.length = many → (fr = true → ∀ b ∈ bs, b.rw = []) → Q r H') :=
  Dfn.mk T.f__law_boards T.g__law_boards sc__law_boards (fun _ _ _ _ _ _ us hl => match us, hl with | [_, _, _, _], _ => rfl) (fun vs H Q h => by obtain ⟨a, np, many, ns, fr, rfl, _⟩ := h; rfl) fun cdv A outer s0 H vs Q E hr h => by
  obtain ⟨a, np, many, ns, fr, rfl, hsrc, npa, hnp, n1, n3, nlets, lo, hi, q⟩ := h
  refine ⟨_, (pss_cons (ps_set (i := 4) sc__law_boards.nd rfl (Or.inr rfl) (pe_lst (pa_cons pe_str (pa_cons pe_str (pa_cons pe_str pa_nil)))))
  (pss_cons (ps_set (i := 5) sc__law_boards.nd rfl (Or.inl rfl) (pe_lst pa_nil))
  (pss_cons (ps_for PassesOwn.never rfl (pi_range1 (by rfl) T.b_range (pa_cons (pv 1) pa_nil)) (pg_name (i := 6) sc__law_boards.nd rfl (Or.inl rfl))
    (pss_cons (ps_set (i := 7) sc__law_boards.nd rfl (Or.inl rfl) (pe_ix (ixLA (K := K) rfl) (pv 2) (pe_c ((ok__law_take T).mono (by decide)) hr (pa_cons (pv 0) (pa_cons (pe_callB (lenA (K := K) rfl) (by rfl) T.b_len (by decide +kernel) (pa_cons (pv 2) pa_nil)) pa_nil))) (fun _ _ => rfl)))
    (pss_cons (ps_set (i := 8) sc__law_boards.nd rfl (Or.inl rfl) (pe_c ((ok__law_take T).mono (by decide)) hr (pa_cons (pv 0) (pa_cons pe_int pa_nil))))
    (pss_cons (ps_set (i := 9) sc__law_boards.nd rfl (Or.inl rfl) (pe_tup pa_nil))
    (pss_cons (ps_if (pt_not (pt_val (pv 3)))
      (pss_cons (ps_set (i := 9) sc__law_boards.nd rfl (Or.inl rfl) (pe_callTy (tupA (K := K) rfl) (by rfl) T.b_tuple boot_tuple (pa_cons (pe_lc (own := [("_law_turn", 10)]) (g := (gName 10)) (tt := tYes) rfl sc__law_boards.nd (pi_range1 (by rfl) T.b_range (pa_cons (pe_c ((ok__law_take T).mono (by decide)) hr (pa_cons (pv 0) (pa_cons pe_int pa_nil))) pa_nil)) (blkOk_by (own := [("_law_turn", 10)]) (N := n__law_boards) (sc := defScope s__law_boards) (by decide +kernel)) (fun _ _ _ _ _ => (pg_name (i := 10) sc__law_boards.nd rfl (Or.inl rfl))) (fun _ _ _ _ _ => pts_nil) (fun _ _ _ _ _ => (pe_ix (ixLA (K := K) rfl) (pv 4) (pe_c ((ok__law_take T).mono (by decide)) hr (pa_cons (pv 0) (pa_cons pe_int pa_nil))) (fun _ _ => rfl)))) pa_nil)))
      (pss_one (ps_if (PW.pt (pw_and (pt_cmpR (neNil hr.units) (pv 5) (pe_lst pa_nil) (nomark _)) (pw_and1 (pt_cmpR op_eq (pe_c ((ok__law_take T).mono (by decide)) hr (pa_cons (pv 0) (pa_cons pe_int pa_nil))) pe_int (nomark _)))))
        (pss_cons (ps_asg (pe_ix (ixLA (K := K) rfl) (pv 5) (pe_c ((ok__law_take T).mono (by decide)) hr (pa_cons (pv 0) (pa_cons (pe_callB (lenA (K := K) rfl) (by rfl) T.b_len (by decide +kernel) (pa_cons (pv 5) pa_nil)) pa_nil))) (fun _ _ => rfl)) (pg_tup (by rfl) (pgs_cons (pg_name (i := 7) sc__law_boards.nd rfl (Or.inl rfl)) (pgs_cons (pg_name (i := 11) sc__law_boards.nd rfl (Or.inl rfl)) (pgs_cons (pg_name (i := 9) sc__law_boards.nd rfl (Or.inl rfl)) pgs_nil)))))
        (pss_one (ps_if (pt_cmpR op_eq (pe_c ((ok__law_take T).mono (by decide)) hr (pa_cons (pv 0) (pa_cons pe_int pa_nil))) pe_int (nomark _))
          (pss_one (ps_set (i := 9) sc__law_boards.nd rfl (Or.inl rfl) (pe_op catA (pv 9) (pe_tup (pa_cons (pe_ix (ixLA (K := K) rfl) (pv 4) (pe_c ((ok__law_take T).mono (by decide)) hr (pa_cons (pv 0) (pa_cons pe_int pa_nil))) (fun _ _ => rfl)) pa_nil))))) pss_nil))) pss_nil))) pss_nil)
    (pss_one (ps_expr (pe_bm PySem.F.plainAttrs_list PySem.F.slot_list_append PySem.F.type_list_append mt_append (pv 5) (pa_cons (pe_tup (pa_cons (pv 7) (pa_cons (pv 8) (pa_cons (pe_slice slA (pv 9) po_none (po_some pe_int)) pa_nil)))) pa_nil)))))))))
  (pss_one (ps_ret (pe_callTy (tupA (K := K) rfl) (by rfl) T.b_tuple boot_tuple (pa_cons (pv 5) pa_nil))))))), ?_⟩
  refine ⟨room_le1 (by simp), fun wp nwp => ⟨room_le1 (by simp), fun fp nfp => ?_⟩⟩
  have wpa : wp ≠ a := fun z => by obtain ⟨c, f, s, n, e⟩ := hsrc; rw [z, e] at nwp; cases nwp
  have s1 : Same H (upd H wp (.lst [.str "a", .str "b", .str "cd"])) := Same.new nwp
  have hw1 : (upd H wp (.lst [.str "a", .str "b", .str "cd"])) wp = some (.lst (words.map V.str)) := upd_same
  generalize upd H wp (.lst [.str "a", .str "b", .str "cd"]) = H1 at s1 hw1 nfp
  have sr1 := hsrc.same s1
  have fpa : fp ≠ a := fun z => by obtain ⟨c, f, s, n, e⟩ := sr1; rw [z, e] at nfp; cases nfp
  have hnp1 := s1 _ _ hnp
  -- what draws leave: all that stood in H1 but the source
  have putf : ∀ {H2 : Hp} {o : HO}, Out a H1 H2 → Out a H1 (upd H2 fp o) := fun k b o e ne => by
    rw [upd_ne (fun z => by rw [z, nfp] at e; cases e)]; exact k b o e ne
  have puts : ∀ {H2 : Hp} {o : HO}, SrcAt H2 a → SrcAt (upd H2 fp o) a := fun ⟨c, f, s, n, e⟩ => ⟨c, f, s, n, by rw [upd_ne (Ne.symm fpa)]; exact e⟩
  refine ⟨_, rfl, (many : Int), rfl, by omega, by omega, ?_⟩
  refine for_it (walk_range (lo := 0) (n := ((many : Nat) : Int).toNat)) (fun i σ H2 => Out a H1 H2 ∧ SrcAt H2 a ∧ ∃ (ys : List V) (bs : List Brd) (x y z u t : Option V), σ = [some (.ref a), some (.int (many : Nat)), some (.ref np), some (.bl fr), some (.ref wp), some (.ref fp), x, y, z, u, none, t] ∧
      H2 fp = some (.lst ys) ∧ Paired (RBd H2) ys bs ∧ bs.length = i ∧ (∀ b ∈ bs, BrdOk b) ∧ (fr = true → ∀ b ∈ bs, b.rw = []))
    ⟨Out.of (Same.new nfp), sr1.same (Same.new nfp), [], [], none, none, none, none, none, rfl, upd_same, .nil, rfl, (fun b h => by cases h), fun _ b h => by cases h⟩ (fun _ _ _ _ _ => True.intro) (fun i x σ H2 H3 hi2 h y => ?_) fun σ H2 h => ?_
  · obtain ⟨o2, sr2, ys, bs, x0, y0, z0, u0, t0, rfl, hfp, hys, hbl, hbok, hbfr⟩ := h
    obtain ⟨rfl, rfl⟩ := y
    have hi3 : i < many := by rw [Int.toNat_natCast] at hi2; exact hi2
    have yl := hys.length
    -- found.append((name, side, row[:20])) from any state that the draws have left
    have fin : ∀ (D : Ends) (Hx : Hp) (nm : Str) (sd : Nat) (rv : V) (ws : List Str) (k tt : Option V), Out a H3 Hx → SrcAt Hx a → Tp Hx rv (ws.map V.str) → (∀ z ∈ ws, Lets z 20) → Lets nm 8 → sd < 2 → (fr = true → ws = []) →
        (∀ Hy x y z u t, (Out a H1 Hy ∧ SrcAt Hy a ∧ ∃ (ys : List V) (bs : List Brd) (x' y' z' u' t' : Option V), ([some (.ref a), some (.int (many : Nat)), some (.ref np), some (.bl fr), some (.ref wp), some (.ref fp), x, y, z, u, none, t] : L2.St) = [some (.ref a), some (.int (many : Nat)), some (.ref np), some (.bl fr), some (.ref wp), some (.ref fp), x', y', z', u', none, t'] ∧
            Hy fp = some (.lst ys) ∧ Paired (RBd Hy) ys bs ∧ bs.length = i + 1 ∧ (∀ b ∈ bs, BrdOk b) ∧ (fr = true → ∀ b ∈ bs, b.rw = [])) → D.nx [some (.ref a), some (.int (many : Nat)), some (.ref np), some (.bl fr), some (.ref wp), some (.ref fp), x, y, z, u, none, t] Hy) →
        tDrop (tBM K "list" rAppend (tVar 5) (tCons (tTup (tCons (tVar 7) (tCons (tVar 8) (tCons (tSl (fun x lo hi H Q => ∃ xs, Tp H x xs ∧ ∀ v H', Same H H' → Tp H' v (cutV xs lo hi) → Q v H') (tVar 9) tNoPart (tPart (tC (.int 20)))) tNil)))) tNil)) D
          [some (.ref a), some (.int (many : Nat)), some (.ref np), some (.bl fr), some (.ref wp), some (.ref fp), k, some (.str nm), some (.int (sd : Nat)), some rv, none, tt] Hx := by
      intro D Hx nm sd rv ws k tt ox srx hrv hws hnm hsd hfr nx
      have hfx := ox _ _ hfp fpa
      refine ⟨_, rfl, .inl ⟨rfl, _, SqL.of hfx⟩, _, rfl, _, rfl, _, rfl, _, rfl, _, hrv, fun rv2 Hy sy hrv2 => ⟨room_le1 (by simp), fun t nt => ?_⟩⟩
      rw [cut20, ← List.map_take] at hrv2
      have syt : Same Hx (upd Hy t (.tup [.str nm, .int (sd : Nat), rv2])) := sy.trans (Same.new nt)
      have hfy := syt _ _ hfx
      have ht : (upd Hy t (.tup [.str nm, .int (sd : Nat), rv2])) t = some (.tup [.str nm, .int (sd : Nat), rv2]) := upd_same
      have hrv3 := stp (Same.new (o := .tup [.str nm, .int (sd : Nat), rv2]) nt) hrv2
      generalize upd Hy t (.tup [.str nm, .int (sd : Nat), rv2]) = Hz at syt hfy ht hrv3
      refine ⟨fp, ys, _, rfl, rfl, hfy, by rw [yl, hbl, sizeLine_eq]; omega, nx _ _ _ _ _ _ ⟨putf ((o2.trans ox).trans (Out.of syt)), puts (srx.same syt), ys ++ [.ref t], bs ++ [⟨nm, sd, ws.take 20⟩], _, _, _, _, _, rfl, upd_same, ?_, by rw [List.length_append, hbl]; rfl, fun b hb => ?_, fun f b hb => ?_⟩⟩
      · have k1 : Tk Hz (upd Hz fp (.lst (ys ++ [.ref t]))) := Tk.upd hfy fun xs => by intro z; cases z
        exact (pimp (fun _ _ h => RBd.mono ((ox.tk sr2).trans ((Same.tk syt).trans k1)) h) hys).snoc ⟨rv2, Tp.mono ⟨t, rfl, ht⟩ k1, hrv3.mono k1⟩
      · rcases List.mem_append.mp hb with hb | hb
        · exact hbok b hb
        · rw [List.mem_singleton.mp hb]
          exact ⟨hnm, hsd, by show (ws.take 20).length ≤ 20; rw [List.length_take]; omega, fun z hz => hws z (List.mem_of_mem_take hz)⟩
      · rcases List.mem_append.mp hb with hb | hb
        · exact hbfr f b hb
        · rw [List.mem_singleton.mp hb]
          show ws.take 20 = []
          rw [hfr f]; rfl
    -- the name, the side
    refine ⟨_, rfl, _, rfl, _, rfl, _, len_l (o2 _ _ hnp1 npa), a, ns.length, by rw [List.length_map]; rfl, sr2, by omega, by omega, fun H4 r o4 sr4 hr4 => ?_⟩
    have hnp4 := (o2.trans o4) _ _ hnp1 npa
    have enm : (ns.map V.str)[r]? = some (.str (ns.getD r "")) := by
      rw [List.getElem?_map, List.getElem?_eq_getElem hr4, List.getD_eq_getElem?_getD, List.getElem?_eq_getElem hr4]; rfl
    have nmok : Lets (ns.getD r "") 8 := by
      rw [List.getD_eq_getElem?_getD, List.getElem?_eq_getElem hr4]
      exact nlets _ (List.getElem_mem hr4)
    generalize ns.getD r "" = nm at enm nmok
    refine ⟨_, ix_l hnp4 enm, ?_⟩
    refine ⟨_, rfl, a, 2, rfl, sr4, by omega, by omega, fun H5 sd o5 sr5 hsd => ?_⟩
    have o35 := o4.trans o5
    refine ⟨room_le1 (by simp), fun t1 nt1 => ?_⟩
    have s6 : Same H5 (upd H5 t1 (.tup [])) := Same.new nt1
    have ht1 : Tp (upd H5 t1 (.tup [])) (.ref t1) (([] : List Str).map V.str) := ⟨t1, rfl, upd_same⟩
    generalize upd H5 t1 (.tup []) = H6 at s6 ht1
    have sr6 := sr5.same s6
    have o36 := o35.trans (Out.of s6)
    refine ⟨_, rfl, fr, rfl, ?_⟩
    cases hfr0 : fr with
    | true =>
      rw [hfr0] at fin
      refine iteF (fin _ H6 nm sd (.ref t1) [] _ _ o36 sr6 ht1 (fun z h => by cases h) nmok hsd (fun _ => rfl) fun Hy x y z u t k => ?_)
      exact k
    | false =>
      rw [hfr0] at fin
      have frx : ∀ {ws : List Str}, (false = true → ws = []) := fun z => Bool.noConfusion z
      refine iteT ⟨_, rfl, a, 3, rfl, sr6, by omega, by omega, fun H7 r7 o7 sr7 hr7 => ⟨(r7 : Int), rfl, by omega, by omega, fun D hD => ?_⟩⟩
      have o37 := o36.trans o7
      refine lc_out (walk_range (lo := 0) (n := ((r7 : Nat) : Int).toNat)) (by omega) hD sr7 (fun _ _ y => ∃ z, y = V.str z ∧ z ∈ words) (fun _ _ _ _ _ h => h) (fun _ _ => True.intro) (fun j x H8 H9 Qc hj o8 sr8 y kk => ?_) fun H8 zs o8 sr8 hzs hl hY => ?_
      · obtain ⟨rfl, rfl⟩ := y
        refine ⟨rfl, _, rfl, _, rfl, a, 3, rfl, sr8, by omega, by omega, fun H10 r10 o10 sr10 hr10 => ?_⟩
        obtain ⟨z, hz, hzw⟩ := word_at hr10
        have hw10 := (o2.trans (o37.trans (o8.trans o10))) _ _ hw1 wpa
        exact ⟨_, ix_l hw10 hz, kk _ _ o10 sr10 ⟨z, rfl, hzw⟩⟩
      obtain ⟨ws, rfl, hws⟩ := listed_strs hY
      refine ⟨D, _, rfl, .inl ⟨SqL.of hzs, fun l nl => ?_⟩⟩
      have s9 : Same H8 (upd H8 l (.tup (ws.map V.str))) := Same.new nl
      have ht9 : Tp (upd H8 l (.tup (ws.map V.str))) (.ref l) (ws.map V.str) := ⟨l, rfl, upd_same⟩
      generalize upd H8 l (.tup (ws.map V.str)) = H9 at s9 ht9
      have sr9 := sr8.same s9
      have o39 := (o37.trans o8).trans (Out.of s9)
      have wsok : ∀ z ∈ ws, Lets z 20 := fun z hz => words_ok z (hws z hz)
      have hfp9 := o39 _ _ hfp fpa
      have hys9 : Paired (RBd H9) ys bs := pimp (fun _ _ h => RBd.mono (o39.tk sr2) h) hys
      -- found != []
      refine ⟨_, rfl, room_le1 (by simp), fun e0 ne0 => ?_⟩
      have s10 : Same H9 (upd H9 e0 (.lst [])) := Same.new ne0
      have he0 : (upd H9 e0 (.lst [])) e0 = some (.lst []) := upd_same
      generalize upd H9 e0 (.lst []) = H10 at s10 he0
      have sr10 := sr9.same s10
      have o310 := o39.trans (Out.of s10)
      have ht10 := stp s10 ht9
      refine ⟨bs, ⟨⟨fp, ys, rfl, s10 _ _ hfp9, pimp (fun _ _ h => RBd.mono (Same.tk s10) h) hys9⟩, ⟨e0, rfl, he0⟩, hbok⟩, _, rfl, ite2 (fun c1 => ?_) fun c1 => ?_⟩
      · have bpos : 0 < bs.length := by
          cases bs with
          | nil => simp at c1
          | cons b bs => simp
        refine ⟨_, rfl, a, 2, rfl, sr10, by omega, by omega, fun H11 r11 o11 sr11 hr11 => ⟨rfl, _, rfl, ite2 (fun c2 => ?_) fun c2 => ?_⟩⟩
        · have o311 := o310.trans o11
          refine ⟨_, rfl, _, rfl, _, rfl, _, len_l (o311 _ _ hfp fpa), a, bs.length, by rw [yl]; rfl, sr11, bpos, by omega, fun H12 r12 o12 sr12 hr12 => ?_⟩
          have o312 := o311.trans o12
          obtain ⟨b, hb⟩ : ∃ b, bs[r12]? = some b := ⟨_, List.getElem?_eq_getElem hr12⟩
          obtain ⟨yv, hyv, ry⟩ := paired_at hys hb
          obtain ⟨rr, hr1, hr2⟩ := ry.mono (o312.tk sr2)
          have bok := hbok b (List.mem_of_getElem? hb)
          refine ⟨_, ix_l (o312 _ _ hfp fpa) hyv, tg3 hr1 ?_⟩
          refine ⟨_, rfl, a, 2, rfl, sr12, by omega, by omega, fun H13 r13 o13 sr13 hr13 => ⟨rfl, _, rfl, ite2 (fun c3 => ?_) fun c3 => ?_⟩⟩
          · have o313 := o312.trans o13
            refine ⟨_, rfl, _, rfl, _, rfl, a, 3, rfl, sr13, by omega, by omega, fun H14 r14 o14 sr14 hr14 => ?_⟩
            obtain ⟨z, hz, hzw⟩ := word_at hr14
            have o314 := o313.trans o14
            have hw14 := (o2.trans o314) _ _ hw1 wpa
            refine ⟨_, ix_l hw14 hz, room_le1 (by simp), fun t2 nt2 => ⟨b.rw.map V.str, [.str z], ?_, ⟨t2, rfl, upd_same⟩, by rw [List.length_map]; have := bok.len; simp; omega, fun v15 H15 s15 hv15 => ?_⟩⟩
            · have k := ((o13.trans o14).tk sr12)
              exact stp (Same.new nt2) (hr2.mono k)
            · have st : Same H14 H15 := (Same.new nt2).trans s15
              refine fin _ H15 b.nm sd v15 (b.rw ++ [z]) _ _ (o314.trans (Out.of st)) (sr14.same st) (by rw [List.map_append]; exact hv15) ?_ bok.nm hsd frx ?_
              · intro x hx
                rcases List.mem_append.mp hx with hx | hx
                · exact bok.rw x hx
                · rw [List.mem_singleton.mp hx]; exact words_ok z hzw
              · exact fun Hy x y z u t k => k
          · exact fin _ H13 b.nm sd rr b.rw _ _ (o312.trans o13) sr13 (hr2.mono (o13.tk sr12)) bok.rw bok.nm hsd frx fun Hy x y z u t k => k
        · exact fin _ H11 nm sd (.ref l) ws _ _ (o310.trans o11) sr11 (ht10.mono (o11.tk sr10)) wsok nmok hsd frx fun Hy x y z u t k => k
      · exact fin _ H10 nm sd (.ref l) ws _ _ o310 sr10 ht10 wsok nmok hsd frx fun Hy x y z u t k => k
  · obtain ⟨o2, sr2, ys, bs, x0, y0, z0, u0, t0, rfl, hfp, hys, hbl, hbok, hbfr⟩ := h
    rw [Int.toNat_natCast] at hbl
    have oH : Out a H H2 := fun b o e ne => o2 _ _ (s1 _ _ e) ne
    refine ⟨_, rfl, fp, ys, rfl, .inl ⟨SqL.of hfp, fun l nl => q _ _ bs (oH.trans (Out.of (Same.new nl))) (sr2.same (Same.new nl)) ⟨ys, ⟨l, rfl, upd_same⟩, pimp (fun _ _ h => RBd.mono (Tk.new nl) h) hys⟩ ⟨by omega, by omega, hbok⟩ hbl hbfr⟩⟩
end
end Ug

/-! the law -/
namespace Ug
open PySem PySem.Spec PyProof.Rows L2
theorem sure_iff {bs : List Brd} {nms : List Str} {L : List (List (Nat × Nat))} {n : Nat} {cnt : List Nat} {p : List (Nat × Nat)} (nd : nms.Nodup) (g : Greatest bs nms L) (hp : p ∈ L) : Sure n cnt p ↔ n ≤ sumMin (fun c => cnt.count c) p := out_all (g.pg nd p hp).nd n
theorem rpg_ref {H : Hp} {v : V} {p : List (Nat × Nat)} (h : RPg H v p) : ¬ v = V.non := by
  obtain ⟨xs, ⟨a, rfl, _⟩, _⟩ := h
  intro z; cases z
theorem same_out {H H1 H2 : Hp} {a : Addr} (s : Same H H1) (n : H a = none) (o : Out a H1 H2) : Same H H2 := fun b u e => o _ _ (s _ _ e) fun z => by rw [z, n] at e; cases e
/-- a mask for each choice -/
theorem mask_for (bs : List Brd) (c : List (Str × Nat)) : ∃ m, ChosenMask bs c m := by
  refine ⟨bitsOr 0 ((List.range bs.length).filter fun k => picked c (bAt bs k)), fun k => ?_⟩
  rw [testBit_bitsOr, Nat.zero_testBit, Bool.false_or, decide_eq_true_eq, List.mem_filter, List.mem_range]
theorem met_le {bs : List Brd} {nms : List Str} {pts cnt : List Nat} (nd : nms.Nodup) (hc : ∀ k, cnt.count k = pts.getD k 0) : metOf bs pts nms ≤ cnt.length := by
  obtain ⟨c, h1, h2, h3⟩ := choice_eq bs pts (two bs nms)
  obtain ⟨m, hm⟩ := mask_for bs c
  have tnd : (two bs nms).Nodup := by unfold two; exact nd.sublist List.filter_sublist
  rw [← metOf_two, ← h3, ← cntOf_chosen hc (by rw [h1]; exact tnd) hm]
  exact cntOf_le _ _
theorem best_le_met {bs : List Brd} {nms : List Str} {pts cnt : List Nat} {p : List (Nat × Nat)} (ok : BdsOk bs) (nok : NamesOk bs nms) (hc : ∀ k, cnt.count k = pts.getD k 0) (hp : Pg bs p) : sumMin (fun k => pts.getD k 0) p ≤ metOf bs pts nms := by
  obtain ⟨c, h1, h2, h3⟩ := choice_eq bs pts (two bs nms)
  obtain ⟨m, hm⟩ := mask_for bs c
  have tnd : (two bs nms).Nodup := by unfold two; exact nok.nd.sublist List.filter_sublist
  have e := sum_le_chosen (cnt := cnt) (nms := nms) (fun b hb => by have := (ok.all b hb).sd; omega) (fun b hb => (nok.mem _).mpr ⟨b, hb, rfl⟩) h1 h2 hm hp
  rw [← metOf_two, ← h3, ← cntOf_chosen hc (by rw [h1]; exact tnd) hm]
  have : (fun k => cnt.count k) = fun k => pts.getD k 0 := funext hc
  rw [this] at e
  exact e
section
variable {P : Program} {w : World} {K : PySem.W.Frag} {mg : Str → Option Value} {base : Heap}
abbrev n__law_is_edge : List Str := ["_law_hall", "_law_boards_here", "_law_counted_here", "_law_number", "_law_pairing", "_law_aim", "_law_found", "_law_above", "_law_book"]
theorem sc__law_is_edge : FnScope ["_law_hall", "_law_boards_here", "_law_counted_here", "_law_number", "_law_pairing", "_law_aim", "_law_found", "_law_above", "_law_book"] ["_law_hall", "_law_boards_here", "_law_counted_here", "_law_number", "_law_pairing"] (defScope s__law_is_edge) := ⟨rfl, rfl, rfl, by decide +kernel, rfl, by decide +kernel, by decide +kernel⟩
theorem ok__law_is_edge (T : Tx K mg) : Dfn P w K mg base 15 "_law_is_edge" ["_law_hall", "_law_boards_here", "_law_counted_here", "_law_number", "_law_pairing"] (fun vs H Q => ∃ (hv bv cv ptv : V) (n : Nat) (bs : List Brd) (nms : List Str) (cnt : List Nat) (p : List (Nat × Nat)) (L0 : List (List (Nat × Nat))), vs = [hv, bv, cv, .int (n : Nat), ptv] ∧
    RHall K H hv bs nms ∧ RBds H bv bs ∧ Tp H cv (nats cnt) ∧ RPg H ptv p ∧ Greatest bs nms L0 ∧ p ∈ L0 ∧ n = sumMin (fun c => cnt.count c) p ∧ (∀ q ∈ L0, sumMin (fun c => cnt.count c) q ≤ n) ∧ cnt.length ≤ 24 ∧ (∀ k ∈ cnt, k < bs.length) ∧ ∀ H', Same H H' → Q (.bl true) H') :=
  Dfn.mk T.f__law_is_edge T.g__law_is_edge sc__law_is_edge (fun _ _ _ _ _ _ us hl => match us, hl with | [_, _, _, _, _], _ => rfl) (fun vs H Q h => by obtain ⟨hv, bv, cv, ptv, n, bs, nms, cnt, p, L0, rfl, _⟩ := h; rfl) fun cdv A outer s0 H vs Q E hr h => by
  obtain ⟨hv, bv, cv, ptv, n, bs, nms, cnt, p, L0, rfl, hh, hb, hc, hp, g0, hp0, hn, hmax, hl, hlt, q⟩ := h
  refine ⟨_, (pss_cons (ps_set (i := 5) sc__law_is_edge.nd rfl (Or.inl rfl) (pe_tup (pa_cons pe_str (pa_cons (pv 3) (pa_cons (pv 2) pa_nil)))))
  (pss_cons (ps_set (i := 6) sc__law_is_edge.nd rfl (Or.inl rfl) (pe_c ((ok_sure T).mono (by decide)) hr (pa_cons (pv 0) (pa_cons (pv 5) pa_nil))))
  (pss_cons (ps_if (PW.pt (pw_or (pt_cmpR op_isN (pv 6) pe_non (nomark _)) (pw_or (pt_not (pt_val (pe_c ((ok__law_is_pairing T).mono (by decide)) hr (pa_cons (pv 1) (pa_cons (pv 6) pa_nil))))) (pw_or1 (pt_cmpR op_notBl (pe_c ((ok_is_sure T).mono (by decide)) hr (pa_cons (pv 0) (pa_cons (pv 5) (pa_cons (pv 6) pa_nil)))) pe_bl (nomark _)))))) pss_never pss_nil)
  (pss_cons (ps_if (PW.pt (pw_or (pt_cmpR op_notBl (pe_c ((ok_is_sure T).mono (by decide)) hr (pa_cons (pv 0) (pa_cons (pv 5) (pa_cons (pv 4) pa_nil)))) pe_bl (nomark _)) (pw_or1 (pt_cmpR op_notN (pe_c ((ok_spoilers T).mono (by decide)) hr (pa_cons (pv 0) (pa_cons (pv 5) pa_nil))) pe_non (nomark _))))) pss_never pss_nil)
  (pss_cons (ps_set (i := 7) sc__law_is_edge.nd rfl (Or.inl rfl) (pe_tup (pa_cons pe_str (pa_cons (pe_op op_add (pv 3) pe_int) (pa_cons (pv 2) pa_nil)))))
  (pss_cons (ps_if (PW.pt (pw_or (pt_cmpR op_notN (pe_c ((ok_sure T).mono (by decide)) hr (pa_cons (pv 0) (pa_cons (pv 7) pa_nil))) pe_non (nomark _)) (pw_or1 (pt_cmpR op_notBl (pe_c ((ok_is_sure T).mono (by decide)) hr (pa_cons (pv 0) (pa_cons (pv 7) (pa_cons (pv 4) pa_nil)))) pe_bl (nomark _))))) pss_never pss_nil)
  (pss_cons (ps_set (i := 8) sc__law_is_edge.nd rfl (Or.inl rfl) (pe_c ((ok_spoilers T).mono (by decide)) hr (pa_cons (pv 0) (pa_cons (pv 7) pa_nil))))
  (pss_one (ps_ret (pe_and (pe_callB call_isiND (by rfl) T.b_isinstance (by decide +kernel) (pa_cons (pv 8) (pa_cons (pe_bltn (v := .ty "dict") (by rfl) T.b_dict boot_dict rfl) pa_nil))) (pe_one (pe_cmpR op_isBl (pe_c ((ok_are_spoilers T).mono (by decide)) hr (pa_cons (pv 0) (pa_cons (pv 7) (pa_cons (pv 8) pa_nil)))) pe_bl (nomark _))))))))))))), ?_⟩
  have ok : BdsOk bs := (let ⟨_, _, _, _, _, _, _, _, h, _⟩ := hh; h)
  have nok : NamesOk bs nms := (let ⟨_, _, _, _, _, _, _, _, _, h⟩ := hh; h)
  have pg := g0.pg nok.nd p hp0
  have n24 : n ≤ 24 := by rw [hn]; exact Nat.le_trans (sumMin_le pg.nd) hl
  have a1 : AimOk bs n cnt := ⟨by omega, hl, hlt⟩
  have a2 : AimOk bs (n + 1) cnt := ⟨by omega, hl, hlt⟩
  have sp : Sure n cnt p := (sure_iff nok.nd g0 hp0).mpr (by rw [hn]; exact Nat.le_refl _)
  have nsp : ∀ {L q}, Greatest bs nms L → q ∈ L → ¬ Sure (n + 1) cnt q := fun {L q} g hq z => by
    have h1 := (sure_iff nok.nd g hq).mp z
    have h2 := hmax q ((g.perm nok.nd g0).mem_iff.mp hq)
    omega
  refine ⟨_, rfl, _, rfl, room_le1 (by simp), fun t nt => ?_⟩
  have s1 : Same H (upd H t (.tup [.str "least", .int (n : Nat), cv])) := Same.new nt
  have ra : RAim (upd H t (.tup [.str "least", .int (n : Nat), cv])) (.ref t) n cnt := ⟨cv, ⟨t, rfl, upd_same⟩, stp s1 hc⟩
  generalize hH1 : upd H t (.tup [.str "least", .int (n : Nat), cv]) = H1 at s1 ra
  have eH : upd H t (.tup [.str "least", .int (n : Nat), cv]) = H1 := hH1
  refine ⟨_, rfl, _, rfl, hv, .ref t, bs, nms, n, cnt, rfl, hh.mono s1, ra, a1, fun H2 r L s2 g hz => ?_⟩
  have s12 := s1.trans s2
  rcases hz with ⟨rfl, hno⟩ | ⟨p2, hp2, hr2, hs2⟩
  · exact absurd sp (hno p ((g0.perm nok.nd g).mem_iff.mp hp0))
  have pg2 := (g.pg nok.nd p2 hp2).ok
  refine ⟨_, rfl, rfl, _, rfl, iteCN (rpg_ref hr2) ⟨_, rfl, _, rfl, _, _, bs, p2, rfl, hb.mono (Same.tk s12), ok, hr2, pg2, fun H3 s3 => ⟨_, rfl, iteF ?_⟩⟩⟩
  have s13 := s12.trans s3
  refine ⟨_, rfl, _, rfl, _, rfl, _, _, _, bs, nms, n, cnt, p2, rfl, hh.mono s13, ra.mono (s2.trans s3), a1, hr2.mono (Same.tk s3), pg2, fun H4 b4 s4 hb4 => ?_⟩
  have eb4 := hb4.mpr hs2
  subst eb4
  have s14 := s13.trans s4
  refine ⟨_, _, rfl, rfl, _, rfl, iteF' rfl ?_⟩
  -- the pairing of most_points, and no book
  refine ⟨_, rfl, _, rfl, _, rfl, _, _, _, bs, nms, n, cnt, p, rfl, hh.mono s14, ra.mono (s2.trans (s3.trans s4)), a1, hp.mono (Same.tk s14), pg.ok, fun H5 b5 s5 hb5 => ?_⟩
  have eb5 := hb5.mpr sp
  subst eb5
  have s15 := s14.trans s5
  have s25 := s2.trans (s3.trans (s4.trans s5))
  refine ⟨_, _, rfl, rfl, _, rfl, iteF' rfl ⟨_, rfl, _, rfl, _, _, bs, nms, n, cnt, rfl, hh.mono s15, ra.mono s25, a1, fun H6 r6 L6 s6 g6 hz6 => ?_⟩⟩
  rcases hz6 with ⟨rfl, _⟩ | ⟨d, es, ep, ks, rfl, bk⟩
  rotate_left
  · exfalso
    have hp6 := (g0.perm nok.nd g6).mem_iff.mp hp0
    rw [← bk.are] at hp6
    obtain ⟨k, hk, e⟩ := List.mem_map.mp hp6
    obtain ⟨l, m, _, hm, _, hnle⟩ := bk.lots k hk
    rw [e] at hm
    exact hnle (sp m hm)
  have s16 := s15.trans s6
  refine ⟨rfl, _, rfl, iteF' rfl ?_⟩
  -- one more
  refine ⟨_, rfl, _, _, rfl, rfl, _, rfl, room_le1 (by simp), fun t7 nt7 => ?_⟩
  have s7 : Same H6 (upd H6 t7 (.tup [.str "least", .int ((n : Nat) + 1), cv])) := Same.new nt7
  have rb : RAim (upd H6 t7 (.tup [.str "least", .int ((n : Nat) + 1), cv])) (.ref t7) (n + 1) cnt := ⟨cv, ⟨t7, rfl, upd_same⟩, stp (s16.trans s7) hc⟩
  have key : ∀ H7, Same H6 H7 → RAim H7 (.ref t7) (n + 1) cnt → Same H H7 := fun H7 s _ => s16.trans s
  have s17 := s16.trans s7
  refine ⟨_, rfl, _, rfl, hv, .ref t7, bs, nms, n + 1, cnt, rfl, hh.mono s17, rb, a2, fun H8 r8 L8 s8 g8 hz8 => ?_⟩
  have s18 := s17.trans s8
  rcases hz8 with ⟨rfl, _⟩ | ⟨p8, hp8, _, hs8⟩
  rotate_left
  · exact absurd hs8 (nsp g8 hp8)
  refine ⟨rfl, _, rfl, iteF' rfl ?_⟩
  refine ⟨_, rfl, _, rfl, _, rfl, _, _, _, bs, nms, n + 1, cnt, p, rfl, hh.mono s18, rb.mono s8, a2, hp.mono (Same.tk s18), pg.ok, fun H9 b9 s9 hb9 => ?_⟩
  have eb9 : b9 = false := by
    rw [Bool.eq_false_iff]
    exact fun z => nsp g0 hp0 (hb9.mp z)
  subst eb9
  have s19 := s18.trans s9
  refine ⟨_, _, rfl, rfl, _, rfl, iteF' rfl ?_⟩
  refine ⟨_, rfl, _, rfl, _, _, bs, nms, n + 1, cnt, rfl, hh.mono s19, rb.mono (s8.trans s9), a2, fun H10 r10 L10 s10 g10 hz10 => ?_⟩
  have s110 := s19.trans s10
  rcases hz10 with ⟨rfl, p10, hp10, hs10⟩ | ⟨d, es, ep, ks, rfl, bk⟩
  · exact absurd hs10 (nsp g10 hp10)
  refine ⟨_, rfl, d, es, ep, rfl, bk.at_, _, rfl, iteT ?_⟩
  refine ⟨_, rfl, _, rfl, _, rfl, _, _, d, bs, nms, n + 1, cnt, L10, es, ep, ks, rfl, hh.mono s110, rb.mono (s8.trans (s9.trans s10)), a2, g10, bk, fun H11 s11 => ⟨_, _, rfl, rfl, q H11 (s110.trans s11)⟩⟩
abbrev n__law_is_met_edge : List Str := ["_law_hall", "_law_counted_here", "_law_number", "_law_above", "_law_choice"]
theorem sc__law_is_met_edge : FnScope ["_law_hall", "_law_counted_here", "_law_number", "_law_above", "_law_choice"] ["_law_hall", "_law_counted_here", "_law_number"] (defScope s__law_is_met_edge) := ⟨rfl, rfl, rfl, by decide +kernel, rfl, by decide +kernel, by decide +kernel⟩
theorem ok__law_is_met_edge (T : Tx K mg) : Dfn P w K mg base 9 "_law_is_met_edge" ["_law_hall", "_law_counted_here", "_law_number"] (fun vs H Q => ∃ (hv cv : V) (bs : List Brd) (nms : List Str) (cnt pts : List Nat), vs = [hv, cv, .int (metOf bs pts nms : Nat)] ∧
    RHall K H hv bs nms ∧ (∀ b ∈ bs, b.rw = []) ∧ Tp H cv (nats cnt) ∧ (∀ k, cnt.count k = pts.getD k 0) ∧ cnt.length ≤ 24 ∧ (∀ k ∈ cnt, k < bs.length) ∧ ∀ H', Same H H' → Q (.bl true) H') :=
  Dfn.mk T.f__law_is_met_edge T.g__law_is_met_edge sc__law_is_met_edge (fun _ _ _ _ _ _ us hl => match us, hl with | [_, _, _], _ => rfl) (fun vs H Q h => by obtain ⟨hv, cv, bs, nms, cnt, pts, rfl, _⟩ := h; rfl) fun cdv A outer s0 H vs Q E hr h => by
  obtain ⟨hv, cv, bs, nms, cnt, pts, rfl, hh, hfr, hc, hcnt, hl, hlt, q⟩ := h
  refine ⟨_, (pss_cons (ps_if (pt_cmpR op_notN (pe_c ((ok_met_spoiler T).mono (by decide)) hr (pa_cons (pv 0) (pa_cons (pe_tup (pa_cons pe_str (pa_cons (pv 2) (pa_cons (pv 1) pa_nil)))) pa_nil))) pe_non (nomark _)) pss_never pss_nil)
  (pss_cons (ps_set (i := 3) sc__law_is_met_edge.nd rfl (Or.inl rfl) (pe_tup (pa_cons pe_str (pa_cons (pe_op op_add (pv 2) pe_int) (pa_cons (pv 1) pa_nil)))))
  (pss_cons (ps_set (i := 4) sc__law_is_met_edge.nd rfl (Or.inl rfl) (pe_c ((ok_met_spoiler T).mono (by decide)) hr (pa_cons (pv 0) (pa_cons (pv 3) pa_nil))))
  (pss_one (ps_ret (pe_and (pe_callB (isiA (K := K) rfl) (by rfl) T.b_isinstance (by decide +kernel) (pa_cons (pv 4) (pa_cons (pe_bltn (v := .ty "tuple") (by rfl) T.b_tuple boot_tuple rfl) pa_nil))) (pe_one (pe_cmpR op_isBl (pe_c ((ok_is_met_spoiler T).mono (by decide)) hr (pa_cons (pv 0) (pa_cons (pv 3) (pa_cons (pv 4) pa_nil)))) pe_bl (nomark _))))))))), ?_⟩
  have nok : NamesOk bs nms := (let ⟨_, _, _, _, _, _, _, _, _, h⟩ := hh; h)
  have m24 := met_le (bs := bs) nok.nd hcnt
  have tnd : (two bs nms).Nodup := by unfold two; exact nok.nd.sublist List.filter_sublist
  have val : ∀ {c m}, ChOk (two bs nms) c → ChosenMask bs c m → cntOf cnt m = (c.map fun q => sideSum bs pts q.1 q.2).sum := fun {c m} ho hm => cntOf_chosen hcnt (by rw [ho.names]; exact tnd) hm
  have least : ∀ {c m}, ChOk (two bs nms) c → ChosenMask bs c m → metOf bs pts nms ≤ cntOf cnt m := fun {c m} ho hm => by
    rw [val ho hm, ← metOf_two]
    exact choice_ge ho.names ho.sides
  obtain ⟨c0, h1, h2, h3⟩ := choice_eq bs pts (two bs nms)
  rw [metOf_two] at h3
  have c0ok : ChOk (two bs nms) c0 := ⟨h1, h2⟩
  generalize metOf bs pts nms = M at *
  have a1 : AimOk bs M cnt := ⟨by omega, hl, hlt⟩
  have a2 : AimOk bs (M + 1) cnt := ⟨by omega, hl, hlt⟩
  refine ⟨_, rfl, _, rfl, _, rfl, room_le1 (by simp), fun t nt => ?_⟩
  have s1 : Same H (upd H t (.tup [.str "least", .int (M : Nat), cv])) := Same.new nt
  have ra : RAim (upd H t (.tup [.str "least", .int (M : Nat), cv])) (.ref t) M cnt := ⟨cv, ⟨t, rfl, upd_same⟩, stp s1 hc⟩
  refine ⟨hv, .ref t, bs, nms, M, cnt, rfl, hh.mono s1, hfr, ra, a1, fun H2 r s2 hz => ?_⟩
  rcases hz with ⟨rfl, _⟩ | ⟨c, m, _, cok, hm, hnle⟩
  rotate_left
  · exact absurd (least cok hm) hnle
  have s12 := s1.trans s2
  refine ⟨rfl, _, rfl, iteF' rfl ?_⟩
  refine ⟨_, rfl, _, _, rfl, rfl, _, rfl, room_le1 (by simp), fun t7 nt7 => ?_⟩
  have s7 : Same H2 (upd H2 t7 (.tup [.str "least", .int ((M : Nat) + 1), cv])) := Same.new nt7
  have s17 := s12.trans s7
  have rb : RAim (upd H2 t7 (.tup [.str "least", .int ((M : Nat) + 1), cv])) (.ref t7) (M + 1) cnt := ⟨cv, ⟨t7, rfl, upd_same⟩, stp s17 hc⟩
  refine ⟨_, rfl, _, rfl, hv, .ref t7, bs, nms, M + 1, cnt, rfl, hh.mono s17, hfr, rb, a2, fun H8 r8 s8 hz8 => ?_⟩
  rcases hz8 with ⟨rfl, hall⟩ | ⟨c, m, hrc, cok, hm, hnle⟩
  · obtain ⟨m, hm, hle⟩ := hall c0 c0ok
    rw [val c0ok hm, h3] at hle
    omega
  have s18 := s17.trans s8
  obtain ⟨xs, hxs, _⟩ := id hrc
  refine ⟨_, rfl, _, isi_tt hxs, _, rfl, iteT ?_⟩
  exact ⟨_, rfl, _, rfl, _, rfl, _, _, _, bs, nms, M + 1, m, cnt, c, rfl, hh.mono s18, hfr, rb.mono s8, a2, hrc, cok, hm, hnle, fun H9 s9 => ⟨_, _, rfl, rfl, q H9 (s18.trans s9)⟩⟩
end
end Ug

/-! law -/
namespace Ug
open PySem PySem.Spec PyProof.Rows L2
section
variable {P : Program} {w : World} {K : PySem.W.Frag} {mg : Str → Option Value} {base : Heap}
abbrev n_law : List Str := ["_law_script", "_law_source_here", "_law_names_here", "_law_is_fresh", "_law_boards_here", "_law_hall", "_law_at", "_law_points_here", "_law_counted_here", "_law_number", "_law_pairing", "_law_met"]
theorem sc_law : FnScope ["_law_script", "_law_source_here", "_law_names_here", "_law_is_fresh", "_law_boards_here", "_law_hall", "_law_at", "_law_points_here", "_law_counted_here", "_law_number", "_law_pairing", "_law_met"] ["_law_script"] (defScope s_law) := ⟨rfl, rfl, rfl, by decide +kernel, rfl, by decide +kernel, by decide +kernel⟩
def spLaw (K : PySem.W.Frag) : Prm := fun vs H Q => ∃ (sa : Addr) (ns : List Int), vs = [.ref sa] ∧ SqL K H sa (ns.map V.int) ∧ ns.length ≤ 63 ∧ ∀ H', Q (.bl true) H'
theorem fn_mk {x q : Str} {st : Stmt} {f : Addr} {fd : FuncData} {N ps : List Str} {k : Nat} {p : Prm} (F : FnP K x q st f fd) (S : FnScope N ps (defScope st)) (len : ∀ vs H Q, p vs H Q → vs.length = ps.length)
    (body : ∀ (cdv : Value) (A : Around) (outer : List Env) (s : Shared) (H : Hp) (vs : List V) (Q : VK) (E : XK), Room k (A.deeper (envOfC q (defScope st) s.heap.objs.size f cdv)) → p vs H Q →
      ∃ t, PSs (cxOf CX0 P w K mg base N q (defScope st) f cdv A outer s H E).nox (defBody st) t ∧ t { nx := fun _ H' => Q .non H', rt := Q } (start N vs) H) : FnOk P w K mg base CX0 (k + 1) f fd ps p.sp :=
  F.ok S (fun vs H Q E h => len vs H Q h) fun cdv A outer s H vs Q E hr h => by
    obtain ⟨t, h1, h2⟩ := body cdv A outer s H vs Q E hr h
    exact ⟨t, h1.nox, h2⟩
theorem law_ok (T : Tx K mg) {fd : FuncData} (F : FnP K "law" "law" s_law (He.ga K "law") fd) : FnOk P w K mg base CX0 16 (He.ga K "law") fd ["_law_script"] (spLaw K).sp :=
  fn_mk F sc_law (fun vs H Q h => by obtain ⟨sa, ns, rfl, _⟩ := h; rfl) fun cdv A outer s0 H vs Q E hr h => by
  obtain ⟨sa, ns, rfl, hs, hl, q⟩ := h
  refine ⟨_, (pss_cons (ps_set (i := 1) sc_law.nd rfl (Or.inl rfl) (pe_c ((ok__law_source T).mono (by decide)) hr (pa_cons (pv 0) (pa_cons pe_int pa_nil))))
  (pss_cons (ps_set (i := 2) sc_law.nd rfl (Or.inl rfl) (pe_c ((ok__law_names T).mono (by decide)) hr (pa_cons (pv 1) (pa_cons (pe_op op_add pe_int (pe_c ((ok__law_take T).mono (by decide)) hr (pa_cons (pv 1) (pa_cons pe_int pa_nil)))) pa_nil))))
  (pss_cons (ps_set (i := 3) sc_law.nd rfl (Or.inl rfl) (pe_cmpR op_eq (pe_c ((ok__law_take T).mono (by decide)) hr (pa_cons (pv 1) (pa_cons pe_int pa_nil))) pe_int (nomark _)))
  (pss_cons (ps_set (i := 4) sc_law.nd rfl (Or.inl rfl) (pe_c ((ok__law_boards T).mono (by decide)) hr (pa_cons (pv 1) (pa_cons (pe_op op_add pe_int (pe_c ((ok__law_take T).mono (by decide)) hr (pa_cons (pv 1) (pa_cons pe_int pa_nil)))) (pa_cons (pv 2) (pa_cons (pv 3) pa_nil))))))
  (pss_cons (ps_set (i := 5) sc_law.nd rfl (Or.inl rfl) (pe_mkr ((ok_Hall_init T).mono (by decide : 5 ≤ 14)) T.mk_Hall hr (by rfl) T.g_Hall (pa_cons (pv 4) pa_nil)))
  (pss_cons (ps_for PassesOwn.never rfl (pi_range2 (by rfl) T.b_range (pa_cons pe_int (pa_cons (pe_callB (call_max2 rfl) (by rfl) T.b_max (by decide +kernel) (pa_cons pe_int (pa_cons (pe_callB (call_min2 rfl) (by rfl) T.b_min (by decide +kernel) (pa_cons pe_int (pa_cons (pe_callB (lenA (K := K) rfl) (by rfl) T.b_len (by decide +kernel) (pa_cons (pv 0) pa_nil)) pa_nil))) pa_nil))) pa_nil))) (pg_name (i := 6) sc_law.nd rfl (Or.inl rfl))
    (pss_cons (ps_set (i := 1) sc_law.nd rfl (Or.inl rfl) (pe_c ((ok__law_source T).mono (by decide)) hr (pa_cons (pv 0) (pa_cons (pv 6) pa_nil))))
    (pss_cons (ps_set (i := 7) sc_law.nd rfl (Or.inl rfl) (pe_c ((ok__law_points T).mono (by decide)) hr (pa_cons (pv 1) (pa_cons (pe_callB (lenA (K := K) rfl) (by rfl) T.b_len (by decide +kernel) (pa_cons (pv 4) pa_nil)) pa_nil))))
    (pss_cons (ps_set (i := 8) sc_law.nd rfl (Or.inl rfl) (pe_c ((ok__law_counted T).mono (by decide)) hr (pa_cons (pv 7) (pa_cons (pe_cmpR op_eq (pe_c ((ok__law_take T).mono (by decide)) hr (pa_cons (pv 1) (pa_cons pe_int pa_nil))) pe_int (nomark _)) pa_nil))))
    (pss_cons (ps_asg (pe_c ((ok_most_points T).mono (by decide)) hr (pa_cons (pv 5) (pa_cons (pv 7) pa_nil))) (pg_tup (by rfl) (pgs_cons (pg_name (i := 9) sc_law.nd rfl (Or.inl rfl)) (pgs_cons (pg_name (i := 10) sc_law.nd rfl (Or.inl rfl)) pgs_nil))))
    (pss_cons (ps_if (PW.pt (pw_or (pt_not (pt_val (pe_c ((ok__law_is_int T).mono (by decide)) hr (pa_cons (pv 9) pa_nil)))) (pw_or1 (pt_not (pt_val (pe_c ((ok__law_is_pairing T).mono (by decide)) hr (pa_cons (pv 4) (pa_cons (pv 10) pa_nil)))))))) pss_never pss_nil)
    (pss_cons (ps_if (PW.pt (pw_or (pt_cmpR op_lt (pv 9) pe_int (nomark _)) (pw_or (pt_cmpR op_gt (pv 9) pe_int (nomark _)) (pw_or1 (pt_not (pt_val (pe_c ((ok__law_is_edge T).mono (by decide)) hr (pa_cons (pv 5) (pa_cons (pv 4) (pa_cons (pv 8) (pa_cons (pv 9) (pa_cons (pv 10) pa_nil)))))))))))) pss_never pss_nil)
    (pss_one (ps_if (pt_val (pv 3))
      (pss_cons (ps_set (i := 11) sc_law.nd rfl (Or.inl rfl) (pe_c ((ok_met_points T).mono (by decide)) hr (pa_cons (pv 5) (pa_cons (pv 7) pa_nil))))
      (pss_one (ps_if (PW.pt (pw_or (pt_not (pt_val (pe_c ((ok__law_is_int T).mono (by decide)) hr (pa_cons (pv 11) pa_nil)))) (pw_or (pt_cmpR op_lt (pv 11) (pv 9) (nomark _)) (pw_or (pt_cmpR op_gt (pv 11) pe_int (nomark _)) (pw_or1 (pt_not (pt_val (pe_c ((ok__law_is_met_edge T).mono (by decide)) hr (pa_cons (pv 5) (pa_cons (pv 8) (pa_cons (pv 11) pa_nil))))))))))) pss_never pss_nil))) pss_nil)))))))))
  (pss_one (ps_ret pe_bl)))))))), ?_⟩
  refine ⟨_, rfl, sa, 0, ns, rfl, hs, by omega, by omega, fun H1 a s1 na sr1 => ?_⟩
  -- the names
  refine ⟨_, rfl, _, rfl, a, 3, rfl, sr1, by omega, by omega, fun H2 r2 o2 sr2 hr2 => ⟨_, _, rfl, rfl, a, 1 + r2, rfl, sr2, by omega, by omega, fun H3 np nsm o3 sr3 npa hnp n1 n3 nlets => ?_⟩⟩
  refine ⟨_, rfl, a, 2, rfl, sr3, by omega, by omega, fun H4 r4 o4 sr4 hr4 => ⟨rfl, ?_⟩⟩
  -- the boards
  have hnp4 := o4 _ _ hnp npa
  refine ⟨_, rfl, _, rfl, a, 8, rfl, sr4, by omega, by omega, fun H5 r5 o5 sr5 hr5 => ⟨_, _, rfl, rfl, _, rfl, _, rfl, a, np, 1 + r5, nsm, decide (V.int (r4 : Nat) = V.int 1), rfl, sr5, npa, o5 _ _ hnp4 npa, n1, n3, nlets, by omega, by omega, fun H6 bv bs o6 sr6 hb bok hbl hfr => ?_⟩⟩
  have hsr : SqL K H6 sa (ns.map V.int) := sql (same_out s1 na (o2.trans (o3.trans (o4.trans (o5.trans o6))))) hs
  generalize decide (V.int (r4 : Nat) = V.int 1) = fr at hfr ⊢
  -- the hall
  refine ⟨_, rfl, fun x dx nx ndx ne => ?_⟩
  have s7 : Same H6 (upd (upd H6 dx (.own x)) x (.ins (He.ga K "Hall") dx [])) := sput nx (Same.new ndx)
  refine ⟨x, dx, bv, bs, rfl, upd_same, hb.mono (Same.tk s7), bok, fun H8 nms hh out => ⟨rfl, ?_⟩⟩
  have s8 : Same H6 H8 := fun b o e => out _ _ (s7 _ _ e) fun z => by rw [z, nx] at e; cases e
  have nok : NamesOk bs nms := (let ⟨_, _, _, _, _, _, _, _, _, h⟩ := hh; h)
  have hs8 := sql s8 hsr
  have hb8 := hb.mono (Same.tk s8)
  have nl : (ns.map V.int).length = ns.length := List.length_map _
  have h8 := bok.hi
  clear hb hsr
  -- how many turns
  have turns : ∃ k : Nat, (if (if (((ns.map V.int).length : Nat) : Int) < (4 : Int) then (((ns.map V.int).length : Nat) : Int) else (4 : Int)) > (2 : Int) then (if (((ns.map V.int).length : Nat) : Int) < (4 : Int) then (((ns.map V.int).length : Nat) : Int) else (4 : Int)) else (2 : Int)) = (k : Nat) ∧ k ≤ 4 := by
    have gen : ∀ z : Int, 0 ≤ z → z ≤ 4 → ∃ k : Nat, (if z > (2 : Int) then z else (2 : Int)) = (k : Nat) ∧ k ≤ 4 := fun z h0 h4 => by
      split
      · exact ⟨z.toNat, by omega, by omega⟩
      · exact ⟨2, rfl, by omega⟩
    refine gen _ ?_ ?_
    · split <;> omega
    · split <;> omega
  obtain ⟨k, ek, k4⟩ := turns
  refine ⟨_, rfl, _, len_sl hs8, _, _, rfl, _, _, rfl, (1 : Int), (k : Int), by rw [ek], ⟨by omega, by omega, by omega, by omega⟩, ?_⟩
  refine for_it (walk_range (lo := 1) (n := ((k : Int) - 1).toNat)) (fun i σ H9 => Same H8 H9 ∧ ∃ (s' p1 p2 p3 p4 p5 p6 : Option V) (nmv : V), σ = [some (.ref sa), s', some nmv, some (.bl fr), some bv, some (.ref x), p1, p2, p3, p4, p5, p6]) ⟨Same.refl _, _, _, _, _, _, _, _, _, rfl⟩ (fun _ _ _ _ _ => True.intro) (fun i y σ H9 H10 hi hp yy => ?_) fun σ H9 hp => ?_
  · obtain ⟨s9, s', p1, p2, p3, p4, p5, p6, nmv, rfl⟩ := hp
    obtain ⟨rfl, rfl⟩ := yy
    have e1 : (1 : Int) + (i : Nat) = ((1 + i : Nat) : Int) := by omega
    refine ⟨_, rfl, _, rfl, sa, 1 + i, ns, by show [V.ref sa, V.int ((1 : Int) + (i : Nat))] ++ [] = _; rw [e1]; rfl, sql s9 hs8, by omega, by omega, fun H11 a' s11 na' sr11 => ?_⟩
    have s911 := s9.trans s11
    have na8 : H8 a' = none := by
      cases e : H8 a' with
      | none => rfl
      | some o => have := s9 _ _ e; rw [na'] at this; cases this
    refine ⟨_, rfl, _, rfl, _, (hb8.mono (Same.tk s911)).lenIs, a', bs.length, rfl, sr11, h8, fun H12 ptv pts o12 sr12 hpt hptl hsum h24 => ?_⟩
    have s12 := same_out s911 na8 o12
    refine ⟨_, rfl, _, rfl, a', 2, rfl, sr12, by omega, by omega, fun H13 r13 o13 sr13 hr13 => ⟨rfl, ?_⟩⟩
    have s13 := same_out s12 na8 o13
    have hpt13 := hpt.mono (o13.tk sr12)
    refine ⟨_, pts, _, rfl, hpt13, by omega, hsum, h24, fun H14 cv cnt s14 hcv hcnt hcl hclt => ?_⟩
    have s814 := s13.trans s14
    have pok : PtsOk bs pts := ⟨hptl, fun k hk => by have := h24 k hk; omega⟩
    have hpt14 := stp s14 hpt13
    refine ⟨_, rfl, _, rfl, _, _, bs, nms, pts, rfl, hh.mono s814, hpt14, pok, fun H15 r15 u15 L15 p15 s15 hr15 hu15 g15 hp15 hmax => tg2 hr15 ?_⟩
    have s815 := s814.trans s15
    have fcnt : (fun c => cnt.count c) = fun k => pts.getD k 0 := funext hcnt
    have pg := g15.pg nok.nd p15 hp15
    have n24 : sumMin (fun k => pts.getD k 0) p15 ≤ 24 := by
      have := sumMin_le (cnt := cnt) pg.nd
      rw [fcnt] at this
      omega
    have metl := best_le_met bok nok hcnt pg
    have met24 := met_le (bs := bs) nok.nd hcnt
    generalize hN : sumMin (fun k => pts.getD k 0) p15 = N at *
    refine ⟨_, rfl, _, rfl, _, rfl, iteF ⟨_, rfl, _, rfl, _, _, bs, p15, rfl, hb8.mono (Same.tk s815), bok, hu15, pg.ok, fun H16 s16 => ⟨_, rfl, iteF ?_⟩⟩⟩
    have s816 := s815.trans s16
    have s1416 := s15.trans s16
    refine ⟨_, rfl, _, _, rfl, rfl, _, rfl, iteCN (by omega) ⟨_, rfl, _, _, rfl, rfl, _, rfl, iteCN (by omega) ?_⟩⟩
    refine ⟨_, rfl, _, rfl, _, rfl, _, rfl, _, rfl, _, bv, cv, u15, N, bs, nms, cnt, p15, L15, rfl, hh.mono s816, hb8.mono (Same.tk s816), stp s1416 hcv, hu15.mono (Same.tk s16), g15, hp15, by rw [fcnt, hN], (fun q hq => by rw [fcnt]; exact hmax q hq), by omega, (fun k hk => by have := hclt k hk; omega), fun H17 s17 => ⟨_, rfl, iteF ?_⟩⟩
    have s817 := s816.trans s17
    have s1417 := s1416.trans s17
    refine ⟨_, rfl, fr, rfl, ?_⟩
    cases hfr0 : fr with
    | false => exact iteF ⟨s817, _, _, _, _, _, _, _, _, rfl⟩
    | true =>
      have fresh := hfr hfr0
      refine iteT ⟨_, rfl, _, rfl, _, _, bs, nms, pts, rfl, hh.mono s817, fresh, stp s1417 hpt14, pok, fun H18 s18 => ?_⟩
      have s818 := s817.trans s18
      have s1418 := s1417.trans s18
      refine ⟨_, rfl, _, rfl, _, rfl, iteF ⟨_, rfl, _, rfl, _, _, rfl, rfl, _, rfl, iteCN (by omega) ⟨_, rfl, _, _, rfl, rfl, _, rfl, iteCN (by omega) ?_⟩⟩⟩
      exact ⟨_, rfl, _, rfl, _, rfl, _, cv, bs, nms, cnt, pts, rfl, hh.mono s818, fresh, stp s1418 hcv, hcnt, by omega, (fun k hk => by have := hclt k hk; omega), fun H19 s19 => ⟨_, rfl, iteF ⟨s818.trans s19, _, _, _, _, _, _, _, _, rfl⟩⟩⟩
  · exact q H9
end
end Ug

/-! the head: one run of the kernel; the facts of the text, and those that isinstance(.., Hall) asks -/
namespace Ug
open PySem PySem.Spec PyProof.Rows L2
abbrev R : PySem.W.OpenRow := PySem.W.OpenLaw.row PySem.Challenge.rw_untoldgames_k72_whole_points_are_least_a
def exB (K : PySem.W.Frag) : Bool :=
  decide (PySem.W.findIn K (.ref (He.ga K "Hall")) "__class__" = some (some (.builtin "object.__class__"))) && (decide (PySem.W.specialIn K (.builtin "object.__class__") "__get__" = some (some (.builtin "getset_descriptor.__get__"))) &&
  (decide (PySem.W.takesIn K (.builtin "object.__class__") = some true) && (decide (PySem.W.mroIn K (He.ga K "Hall") (.type "object") = some true) && decide (PySem.W.kitOne K (.ref (He.ga K "Hall")) (.ref (He.ga K "Hall")) = some true))))
def obG (g : Addr → Option Obj) : Bool × He.AlD := let K := He.frG g (He.asD g 6); (exB K, He.obsD fa fn K)
def hk : PySem.W.Hook where
  α := Bool × He.AlD
  obs := fun s => obG s.heap.get?
  val := fun _ => (true, He.valD fn)
  says := fun _ h => ∃ K, K.In h ∧ He.SaysD fa fn K ∧ exB K = true
  of := fun w s e => by
    have e1 : exB (He.frG s.heap.get? (He.asD s.heap.get? 6)) = true := congrArg Prod.fst e
    have e2 : He.obsD fa fn (He.frG s.heap.get? (He.asD s.heap.get? 6)) = He.valD fn := congrArg Prod.snd e
    exact ⟨_, He.frG_in, e2, e1⟩
  keeps := fun w h h' ⟨K, a, b⟩ k => ⟨K, fun c o e => k c o (a c o e), b⟩
def ob (s : PySem.W.SharedT) : Bool × He.AlD := obG (HandSHeadRun.getT s)
theorem ob_eq (s : PySem.W.SharedT) : ob s = hk.obs s.abs := by
  have e : HandSHeadRun.getT s = s.abs.heap.get? := funext (HandSHeadRun.getT_eq s)
  show obG (HandSHeadRun.getT s) = obG s.abs.heap.get?
  rw [e]
theorem tx_of {K : PySem.W.Frag} {h : Heap} {mg : Str → Option Value} (X : K.In h) (G : h.Ns mainGlobals mg) (c : He.SaysD fa fn K) (e : exB K = true) : Tx K mg := by
  unfold exB at e
  rw [Bool.and_eq_true, Bool.and_eq_true, Bool.and_eq_true, Bool.and_eq_true] at e
  obtain ⟨e1, e2, e3, e4, e5⟩ := e
  exact { txt_of X G c with i1 := of_decide_eq_true e1, i2 := of_decide_eq_true e2, i3 := of_decide_eq_true e3, i4 := of_decide_eq_true e4, i5 := of_decide_eq_true e5 }
def nm0 : List PySem.Str := ["HallError", "NoAim", "NotFresh", "NoPoints", "BadHall", "TooMany", "LETTERS", "MOST_LETTERS", "MOST_NAME", "MOST_BEGUN", "is_integer", "is_within", "is_letters", "is_word", "is_name", "is_words", "is_ascending", "is_lot", "mask_of", "lot_of"]
def nm1 : List PySem.Str := ["mover_of", "MOST_BOARDS_halls", "is_board", "Hall", "begun_rows", "is_fresh", "MOST_BOARDS_pairs", "MOST_PAIRINGS", "is_ahead", "are_pair", "all_pairs", "is_pairing", "partners", "Search", "greatest_of", "check_size", "greatest", "pairings", "outcomes", "MOST_POINTS"]
def nm2 : List PySem.Str := ["check_points", "sum_of", "most_points", "met_points", "met_of", "names_of", "MOST_AIMS", "MOST_LEAST", "MOST_DEEP", "MOST_PARTS", "aims_in", "parts_of", "is_any_aim", "is_aim", "check_aim", "holds", "MOST_CHOSEN", "check_fresh", "two_sided_names", "is_choice"]
def nm3 : List PySem.Str := ["choices", "chosen", "met_spoiler", "is_met_spoiler", "spoiling", "sure_of", "sure", "is_sure", "spoilers", "is_outcome", "are_spoilers", "_law_is_int", "_law_source", "_law_take", "_law_is_ahead", "_law_are_pair", "_law_pairs", "_law_is_pairing", "_law_boards", "_law_names"]
def nm4 : List PySem.Str := ["_law_points", "_law_counted", "_law_is_edge", "_law_is_met_edge"]
def nms : List PySem.Str := nm0 ++ (nm1 ++ (nm2 ++ (nm3 ++ (nm4))))
theorem run (w : World) : HandSHeadRun.RunEq R (PySem.W.view R.prog [94]) hk ob 5000 nms w := by
  intro os
  kernel_rfl
end Ug

/-! the end -/
namespace Ug
open PySem PySem.Spec PyProof.Rows L2
theorem facts {P : Program} {w : World} {K : PySem.W.Frag} {h : Heap} {mg : Str → Option Value} {f : Addr} (X : K.In h) (G : h.Ns mainGlobals mg) (hfa : mg ("law" : Str) = some (.ref f)) (c : He.SaysD fa fn K) (e : exB K = true) :
    ∃ fd : FuncData, (∀ (s : Shared) (v : Value), BindsTo s fd ⟨[v], []⟩ [("_law_script", v)]) ∧ ∀ base : Heap, K.In base → base.Ns mainGlobals mg → FnOk P w K mg base CX0 16 f fd ["_law_script"] (spLaw K).sp := by
  have T := tx_of X G c e
  obtain ⟨fd, F⟩ := T.f_law
  have e := hfa.symm.trans T.g_law
  cases e
  have b := FunD.bindsA (ps := ["_law_script"]) F fun _ _ _ _ _ _ us hl => match us, hl with | [_], _ => rfl
  exact ⟨fd, fun s v => b s [v] rfl, fun base _ _ => law_ok T F⟩
end Ug
open PySem PySem.W PySem.Calls PyProof.Rows
theorem PySem.Challenge.cw_untoldgames_k72_whole_points_are_least_a_holds : PySem.Challenge.rw_untoldgames_k72_whole_points_are_least_a.Holds := by
  w_on; o_law
  refine HandSHeadRun.head_any (r := OpenLaw.row PySem.Challenge.rw_untoldgames_k72_whole_points_are_least_a) (q := view (OpenLaw.row PySem.Challenge.rw_untoldgames_k72_whole_points_are_least_a).prog [94]) (H := Ug.hk) (ob := Ug.ob) (M := 5000) (loose := Ug.nms) (d := HandSHeadRun.topDef (OpenLaw.row PySem.Challenge.rw_untoldgames_k72_whole_points_are_least_a).prog 94) (kwd := []) Ug.ob_eq
    (by kernel_rfl) (fun s => by kernel_rfl) Ug.run (by kernel_rfl) (by kernel_rfl) (by kernel_rfl) (by rfl) (by first | assumption | decide +kernel) (by decide +kernel) ⟨rfl, rfl, rfl, rfl, rfl, by decide +kernel⟩ ?hw ?hc
  case hw => w_witness2
  case hc =>
    refine L2.walk_ofE (l := PySem.Challenge.rw_untoldgames_k72_whole_points_are_least_a) (n := 63) (k := 16) (x := "_law_script") (CX := L2.CX0) rfl (by decide) (by kernel_rfl) ⟨rfl, by decide, by decide⟩ ?F (fun _ _ _ _ z => z)
    intro w mg fa h Y G hmg0
    obtain ⟨K, KX, c, ex⟩ := Y
    have hmg : mg ("law" : PySem.Str) = some (.ref fa) := by
      have e : (HandSHeadRun.topDef (OpenLaw.row PySem.Challenge.rw_untoldgames_k72_whole_points_are_least_a).prog 94).name = ("law" : PySem.Str) := by kernel_rfl
      rw [← e]
      exact hmg0
    obtain ⟨fd, hb, hF⟩ := Ug.facts (P := (PySem.Challenge.rw_untoldgames_k72_whole_points_are_least_a).prog) (w := w) KX G hmg c ex
    exact ⟨K, fd, (Ug.spLaw K).sp, KX, hb, fun H a ns hl _ hS => ⟨a, ns, rfl, hS, hl, fun _ => rfl⟩, hF⟩
