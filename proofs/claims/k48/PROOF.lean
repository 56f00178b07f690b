import PyProof.Rows.All
import Wide.All
import OpenK.AllK
import Wide.FinOn
import HandS.ForMost
import HandS.Deep
import HandS.DictComp
import HandS.IsInst
import HandS.Replace
import HandS.SortRule
import HandS.SortInts
import HandS.TupSets
import HandS.SetKeys
import HandS.TupLe
import HandS.Wide
import HandS.WideBits
import KE.SortData
import KE.DataMinMax
import PyProof.CollectStr
import PyProof.Draws
import PySem.Challenge.RW_oncewords_k48_whole_names
import KE.GoesEnum
set_option Elab.async false
set_option linter.all false
set_option maxRecDepth 100000
set_option maxHeartbeats 4000000
section
/-! The plain law: words, friends, least orders, renamed companies. No program in sight. -/
namespace OW
abbrev Wd := List Nat
abbrev Fs := List (Nat × Nat)
/-- pairs in ascending order -/
def pLt (p q : Nat × Nat) : Prop := p.1 < q.1 ∨ (p.1 = q.1 ∧ p.2 < q.2)
/-- a company of n letters -/
structure Co (n : Nat) (F : Fs) : Prop where
  lt : ∀ p ∈ F, p.1 < p.2 ∧ p.2 < n
  asc : F.Pairwise pLt
/-- the friends of a letter, as they are met -/
def fr (F : Fs) (i : Nat) : Wd := F.flatMap fun p => (if p.1 = i then [p.2] else []) ++ (if p.2 = i then [p.1] else [])
theorem mem_fr {F : Fs} {i j : Nat} : j ∈ fr F i ↔ (i, j) ∈ F ∨ (j, i) ∈ F := by
  unfold fr
  rw [List.mem_flatMap]
  constructor
  · rintro ⟨⟨a, b⟩, hp, h⟩
    rcases List.mem_append.mp h with h | h
    · split at h
      · rename_i e
        have e' : a = i := e
        have h' : j = b := by simpa using h
        subst e' h'; exact .inl hp
      · cases h
    · split at h
      · rename_i e
        have e' : b = i := e
        have h' : j = a := by simpa using h
        subst e' h'; exact .inr hp
      · cases h
  · rintro (h | h)
    · exact ⟨_, h, by simp⟩
    · exact ⟨_, h, by simp⟩
theorem fr_symm {F : Fs} {i j : Nat} : j ∈ fr F i ↔ i ∈ fr F j := by rw [mem_fr, mem_fr]; exact Or.comm
/-- the letters ahead of c -/
def ahead (r : Wd) (c : Nat) : Wd := r.takeWhile (fun o => decide (o ≠ c))
def pick (F : Fs) (r : Wd) (c : Nat) : Bool := (ahead r c).all fun o => decide (o ∉ fr F c)
def free (F : Fs) (r : Wd) : Wd := r.filter (pick F r)
def mnl : Wd → Nat
  | [] => 0
  | x :: xs => xs.foldl min x
theorem foldl_min : ∀ (xs : Wd) (x : Nat), (xs.foldl min x = x ∨ xs.foldl min x ∈ xs) ∧ xs.foldl min x ≤ x ∧ ∀ y ∈ xs, xs.foldl min x ≤ y
  | [], x => ⟨.inl rfl, Nat.le_refl _, fun _ h => nomatch h⟩
  | z :: zs, x => by
    obtain ⟨h1, h2, h3⟩ := foldl_min zs (min x z)
    rw [List.foldl_cons]
    refine ⟨?_, Nat.le_trans h2 (Nat.min_le_left _ _), fun y hy => ?_⟩
    · rcases h1 with h1 | h1
      · rw [h1]
        by_cases e : x ≤ z
        · rw [Nat.min_eq_left e]; exact .inl rfl
        · rw [Nat.min_eq_right (by omega)]; exact .inr List.mem_cons_self
      · exact .inr (List.mem_cons_of_mem _ h1)
    · rcases List.mem_cons.mp hy with rfl | hy
      · exact Nat.le_trans h2 (Nat.min_le_right _ _)
      · exact h3 y hy
theorem mnl_mem {l : Wd} (h : l ≠ []) : mnl l ∈ l := by
  cases l with
  | nil => exact absurd rfl h
  | cons x xs =>
    rcases (foldl_min xs x).1 with e | e
    · show xs.foldl min x ∈ _; rw [e]; exact List.mem_cons_self
    · exact List.mem_cons_of_mem _ e
theorem mnl_le {l : Wd} {y : Nat} (h : y ∈ l) : mnl l ≤ y := by
  cases l with
  | nil => cases h
  | cons x xs =>
    rcases List.mem_cons.mp h with rfl | h
    · exact (foldl_min xs _).2.1
    · exact (foldl_min xs x).2.2 y h
theorem mnl_eq {l : Wd} {m : Nat} (hm : m ∈ l) (h : ∀ y ∈ l, m ≤ y) : mnl l = m :=
  Nat.le_antisymm (mnl_le hm) (h _ (mnl_mem (List.ne_nil_of_mem hm)))
theorem ahead_head (c : Nat) (r : Wd) : ahead (c :: r) c = [] := by
  unfold ahead
  rw [List.takeWhile_cons]
  simp
theorem free_ne {F : Fs} {r : Wd} (h : r ≠ []) : free F r ≠ [] := by
  cases r with
  | nil => exact absurd rfl h
  | cons c r =>
    have hp : pick F (c :: r) c = true := by unfold pick; rw [ahead_head]; rfl
    exact List.ne_nil_of_mem (List.mem_filter.mpr ⟨List.mem_cons_self, hp⟩)
theorem mem_free {F : Fs} {r : Wd} {c : Nat} : c ∈ free F r ↔ c ∈ r ∧ pick F r c = true := List.mem_filter
/-- the letter that comes next -/
def nextL (F : Fs) (r : Wd) : Nat := mnl (free F r)
theorem nextL_mem {F : Fs} {r : Wd} (h : r ≠ []) : nextL F r ∈ r := (mem_free.mp (mnl_mem (free_ne h))).1
def out (r : Wd) (c : Nat) : Wd := r.filter fun o => decide (o ≠ c)
def lo (F : Fs) : Nat → Wd → Wd
  | 0, _ => []
  | _ + 1, [] => []
  | k + 1, x :: xs => nextL F (x :: xs) :: lo F k (out (x :: xs) (nextL F (x :: xs)))
/-- the least order -/
def kd (F : Fs) (r : Wd) : Wd := lo F r.length r
theorem out_length {r : Wd} {c : Nat} (nd : r.Nodup) (h : c ∈ r) : (out r c).length + 1 = r.length := by
  induction r with
  | nil => cases h
  | cons x xs ih =>
    obtain ⟨nx, ndx⟩ := List.nodup_cons.mp nd
    unfold out
    rw [List.filter_cons]
    by_cases e : x = c
    · subst e
      rw [if_neg (by simp), List.length_cons]
      have : xs.filter (fun o => decide (o ≠ x)) = xs := List.filter_eq_self.mpr fun y hy => decide_eq_true (fun q => nx (q ▸ hy))
      rw [this]
    · rw [if_pos (by simpa using e), List.length_cons, List.length_cons]
      rcases List.mem_cons.mp h with q | q
      · exact absurd q.symm e
      · have := ih ndx q
        unfold out at this
        omega
theorem out_nodup {r : Wd} {c : Nat} (nd : r.Nodup) : (out r c).Nodup := nd.filter _
theorem mem_out {r : Wd} {c x : Nat} : x ∈ out r c ↔ x ∈ r ∧ x ≠ c := by unfold out; rw [List.mem_filter, decide_eq_true_eq]
theorem kd_nil (F : Fs) : kd F [] = [] := rfl
theorem kd_step {F : Fs} {r : Wd} (nd : r.Nodup) (h : r ≠ []) : kd F r = nextL F r :: kd F (out r (nextL F r)) := by
  cases r with
  | nil => exact absurd rfl h
  | cons x xs =>
    have e := out_length nd (nextL_mem (F := F) h)
    show lo F (xs.length + 1) (x :: xs) = _
    have e2 : (out (x :: xs) (nextL F (x :: xs))).length = xs.length := by rw [List.length_cons] at e; omega
    show nextL F (x :: xs) :: lo F xs.length (out (x :: xs) (nextL F (x :: xs))) = _
    unfold kd
    rw [e2]
theorem kd_induct {F : Fs} (Pr : Wd → Wd → Prop) (h0 : Pr [] []) (hs : ∀ r, r.Nodup → r ≠ [] → Pr (out r (nextL F r)) (kd F (out r (nextL F r))) → Pr r (nextL F r :: kd F (out r (nextL F r)))) :
    ∀ (k : Nat) (r : Wd), r.length = k → r.Nodup → Pr r (kd F r)
  | 0, r, e, _ => by
    have : r = [] := List.length_eq_zero_iff.mp e
    subst this; exact h0
  | k + 1, r, e, nd => by
    have hne : r ≠ [] := fun q => by subst q; cases e
    rw [kd_step nd hne]
    have e2 := out_length nd (nextL_mem (F := F) hne)
    exact hs r nd hne (kd_induct Pr h0 hs k _ (by omega) (out_nodup nd))
theorem perm_out {r : Wd} {c : Nat} (nd : r.Nodup) (h : c ∈ r) : (c :: out r c).Perm r := by
  refine (List.perm_ext_iff_of_nodup (List.nodup_cons.mpr ⟨fun q => (mem_out.mp q).2 rfl, out_nodup nd⟩) nd).mpr fun x => ?_
  rw [List.mem_cons, mem_out]
  constructor
  · rintro (e | ⟨e, _⟩)
    · rw [e]; exact h
    · exact e
  · intro hx
    by_cases e : x = c
    · exact .inl e
    · exact .inr ⟨hx, e⟩
theorem kd_perm {F : Fs} {r : Wd} (nd : r.Nodup) : (kd F r).Perm r :=
  kd_induct (F := F) (fun r k => k.Perm r) (List.Perm.refl _) (fun r nd hne ih => (List.Perm.cons _ ih).trans (perm_out nd (nextL_mem hne))) r.length r rfl nd
theorem kd_nodup {F : Fs} {r : Wd} (nd : r.Nodup) : (kd F r).Nodup := (kd_perm nd).nodup_iff.mpr nd
/-- x stands ahead of y -/
def bef (r : Wd) (x y : Nat) : Prop := x ∈ ahead r y ∧ y ∈ r
theorem pick_iff {F : Fs} {r : Wd} {c : Nat} : pick F r c = true ↔ ∀ o ∈ ahead r c, o ∉ fr F c := by
  unfold pick
  rw [List.all_eq_true]
  exact ⟨fun h o ho => of_decide_eq_true (h o ho), fun h o ho => decide_eq_true (h o ho)⟩
theorem ahead_sub {r : Wd} {c x : Nat} (h : x ∈ ahead r c) : x ∈ r := (List.takeWhile_sublist _).subset h
theorem ahead_cons_ne {x c : Nat} {r : Wd} (h : x ≠ c) : ahead (x :: r) c = x :: ahead r c := by
  unfold ahead
  rw [List.takeWhile_cons, if_pos (by simpa using h)]
/-- two orders of the same letters that have friends alike: the same least order -/
theorem kd_same {F : Fs} : ∀ (k : Nat) (r s : Wd), r.length = k → r.Nodup → s.Nodup → s.Perm r → (∀ x y, y ∈ r → x ∈ fr F y → (x ∈ ahead r y ↔ x ∈ ahead s y)) → kd F r = kd F s
  | 0, r, s, e, _, _, p, _ => by
    have h1 : r = [] := List.length_eq_zero_iff.mp e
    subst h1
    have h2 : s = [] := p.eq_nil
    rw [h2]
  | k + 1, r, s, e, nd, nds, p, h => by
    have hne : r ≠ [] := fun q => by subst q; cases e
    have hns : s ≠ [] := fun q => by subst q; exact hne p.symm.eq_nil
    have hfr : ∀ c, c ∈ free F r ↔ c ∈ free F s := fun c => by
      rw [mem_free, mem_free, pick_iff, pick_iff, p.mem_iff]
      refine and_congr_right fun hc => ⟨fun q o ho hf => q o ((h o c hc hf).mpr ho) hf, fun q o ho hf => q o ((h o c hc hf).mp ho) hf⟩
    have hn : nextL F r = nextL F s := by
      refine (mnl_eq ((hfr _).mpr (mnl_mem (free_ne hns))) fun y hy => mnl_le ((hfr y).mp hy))
    rw [kd_step nd hne, kd_step nds hns, ← hn]
    have e2 := out_length nd (nextL_mem (F := F) hne)
    have ahead_out : ∀ (t : Wd) (c x y : Nat), y ≠ c → (x ∈ ahead (out t c) y ↔ x ∈ ahead t y ∧ x ≠ c) := by
      intro t c x y hy
      induction t with
      | nil => exact ⟨fun q => (nomatch q), fun q => (nomatch q.1)⟩
      | cons z zs ih =>
        unfold out
        rw [List.filter_cons]
        by_cases hz : z = c
        · subst hz
          rw [if_neg (by simp), ahead_cons_ne (Ne.symm hy), List.mem_cons]
          unfold out at ih
          rw [ih]
          exact ⟨fun q => ⟨.inr q.1, q.2⟩, fun q => ⟨q.1.resolve_left q.2, q.2⟩⟩
        · rw [if_pos (by simpa using hz)]
          by_cases hzy : z = y
          · subst hzy
            rw [ahead_head, ahead_head]
            exact ⟨fun q => (nomatch q), fun q => (nomatch q.1)⟩
          · rw [ahead_cons_ne hzy, ahead_cons_ne hzy, List.mem_cons, List.mem_cons]
            unfold out at ih
            rw [ih]
            constructor
            · rintro (q | q)
              · rw [q]; exact ⟨.inl rfl, hz⟩
              · exact ⟨.inr q.1, q.2⟩
            · rintro ⟨q | q, q2⟩
              · exact .inl q
              · exact .inr ⟨q, q2⟩
    congr 1
    refine kd_same k _ _ (by omega) (out_nodup nd) (out_nodup nds) ?_ fun x y hy hx => ?_
    · exact p.filter _
    · obtain ⟨hy1, hy2⟩ := mem_out.mp hy
      rw [ahead_out _ _ _ _ hy2, ahead_out _ _ _ _ hy2, h x y hy1 hx]
/-- in the least order friends stand as in the word -/
theorem kd_ahead {F : Fs} : ∀ (k : Nat) (r : Wd), r.length = k → r.Nodup → ∀ x y, y ∈ r → x ∈ r → x ∈ fr F y → (x ∈ ahead r y → x ∈ ahead (kd F r) y)
  | 0, r, e, _, x, y, hy, _, _ => by
    have h1 : r = [] := List.length_eq_zero_iff.mp e
    subst h1; cases hy
  | k + 1, r, e, nd, x, y, hy, hx, hf => by
    intro ha
    have hne : r ≠ [] := fun q => by subst q; cases e
    have hn := mem_free.mp (mnl_mem (free_ne (F := F) hne))
    rw [kd_step nd hne]
    have e2 := out_length nd (nextL_mem (F := F) hne)
    have hyn : nextL F r ≠ y := fun q => pick_iff.mp hn.2 x (by
      have : mnl (free F r) = y := q
      rw [this]; exact ha) (by
      have : mnl (free F r) = y := q
      rw [this]; exact hf)
    rw [ahead_cons_ne hyn]
    by_cases hxn : x = nextL F r
    · exact hxn ▸ List.mem_cons_self
    · refine List.mem_cons_of_mem _ (kd_ahead k _ (by omega) (out_nodup nd) x y (mem_out.mpr ⟨hy, Ne.symm hyn⟩) (mem_out.mpr ⟨hx, hxn⟩) hf ?_)
      clear hne hn e2 hyn e nd hf hx
      generalize nextL F r = c at hxn
      induction r with
      | nil => cases hy
      | cons z zs ih =>
        unfold out
        rw [List.filter_cons]
        by_cases hzy : z = y
        · subst hzy
          rw [ahead_head] at ha
          cases ha
        · rw [ahead_cons_ne hzy] at ha
          have hy' : y ∈ zs := (List.mem_cons.mp hy).resolve_left (Ne.symm hzy)
          by_cases hz : z = c
          · rw [if_neg (by simpa using hz)]
            rcases List.mem_cons.mp ha with q | q
            · exact absurd (q.trans hz) hxn
            · exact ih hy' q
          · rw [if_pos (by simpa using hz), ahead_cons_ne hzy]
            rcases List.mem_cons.mp ha with q | q
            · exact q ▸ List.mem_cons_self
            · exact List.mem_cons_of_mem _ (ih hy' q)
theorem ahead_total {r : Wd} {x y : Nat} (hx : x ∈ r) (hy : y ∈ r) (hne : x ≠ y) : x ∈ ahead r y ∨ y ∈ ahead r x := by
  induction r with
  | nil => cases hx
  | cons z zs ih =>
    by_cases hzx : z = x
    · subst hzx
      rw [ahead_cons_ne hne]
      exact .inl List.mem_cons_self
    · by_cases hzy : z = y
      · subst hzy
        rw [ahead_cons_ne hzx]
        exact .inr List.mem_cons_self
      · rw [ahead_cons_ne hzx, ahead_cons_ne hzy]
        exact (ih ((List.mem_cons.mp hx).resolve_left (Ne.symm hzx)) ((List.mem_cons.mp hy).resolve_left (Ne.symm hzy))).imp (List.mem_cons_of_mem _) (List.mem_cons_of_mem _)
theorem ahead_asym {r : Wd} {x y : Nat} (h : x ∈ ahead r y) : y ∉ ahead r x := by
  induction r with
  | nil => cases h
  | cons z zs ih =>
    by_cases hzy : z = y
    · subst hzy; rw [ahead_head] at h; cases h
    · rw [ahead_cons_ne hzy] at h
      by_cases hzx : z = x
      · subst hzx; rw [ahead_head]; exact fun q => nomatch q
      · rw [ahead_cons_ne hzx]
        intro q
        rcases List.mem_cons.mp h with e | h
        · exact hzx e.symm
        · rcases List.mem_cons.mp q with e | q
          · exact hzy e.symm
          · exact ih h q
theorem kd_idem {F : Fs} (irr : ∀ x, x ∉ fr F x) {r : Wd} (nd : r.Nodup) : kd F (kd F r) = kd F r := by
  refine (kd_same r.length r (kd F r) rfl nd (kd_nodup nd) (kd_perm nd) fun x y hy hx => ⟨fun h => kd_ahead r.length r rfl nd x y hy (ahead_sub h) hx h, fun h => ?_⟩).symm
  have hxr : x ∈ r := (kd_perm nd).mem_iff.mp (ahead_sub h)
  have hne : x ≠ y := fun e => irr y (e ▸ hx)
  rcases ahead_total hxr hy hne with q | q
  · exact q
  · exact absurd (kd_ahead r.length r rfl nd y x hxr hy (fr_symm.mp hx) q) (ahead_asym h)
end OW
end
section
/-! The plain law, second part: orders, renamed companies, own names. -/
namespace OW
theorem sub_perm {α : Type} [DecidableEq α] : ∀ {l m : List α}, l.Nodup → (∀ x ∈ l, x ∈ m) → ∃ t, m.Perm (l ++ t)
  | [], m, _, _ => ⟨m, List.Perm.refl _⟩
  | x :: xs, m, nd, h => by
    obtain ⟨nx, nd'⟩ := List.nodup_cons.mp nd
    have hp := List.perm_cons_erase (h x List.mem_cons_self)
    obtain ⟨t, ht⟩ := sub_perm (m := m.erase x) nd' fun y hy => by
      have hne : y ≠ x := fun e => by subst e; exact nx hy
      exact (List.mem_erase_of_ne hne).mpr (h y (List.mem_cons_of_mem _ hy))
    exact ⟨t, hp.trans (List.Perm.cons x ht)⟩
theorem sub_len {α : Type} [DecidableEq α] {l m : List α} (nd : l.Nodup) (h : ∀ x ∈ l, x ∈ m) : l.length ≤ m.length := by
  obtain ⟨t, p⟩ := sub_perm nd h
  rw [p.length_eq, List.length_append]
  exact Nat.le_add_right _ _
theorem sub_eq {α : Type} [DecidableEq α] {l m : List α} (nd : l.Nodup) (h : ∀ x ∈ l, x ∈ m) (hl : m.length ≤ l.length) : l.Perm m := by
  obtain ⟨t, p⟩ := sub_perm nd h
  have e := p.length_eq
  rw [List.length_append] at e
  have : t = [] := List.length_eq_zero_iff.mp (by omega)
  subst this
  rw [List.append_nil] at p
  exact p.symm
theorem getD_at {α : Type} {l : List α} {d : α} {i : Nat} (h : i < l.length) : l.getD i d = l[i] := by
  rw [List.getD_eq_getElem?_getD, List.getElem?_eq_getElem h]; rfl
/-! ### first stands -/
def fstep (acc : Wd) (c : Nat) : Wd := if c ∈ acc then acc else acc ++ [c]
def firsts (w : Wd) : Wd := w.foldl fstep []
theorem firsts_snoc (w : Wd) (c : Nat) : firsts (w ++ [c]) = fstep (firsts w) c := by
  unfold firsts; rw [List.foldl_append]; rfl
theorem mem_firsts_go : ∀ (w acc : Wd) (c : Nat), c ∈ w.foldl fstep acc ↔ c ∈ acc ∨ c ∈ w
  | [], acc, c => by simp
  | x :: xs, acc, c => by
    rw [List.foldl_cons, mem_firsts_go xs, List.mem_cons]
    unfold fstep
    split
    · rename_i h
      constructor
      · rintro (q | q)
        · exact .inl q
        · exact .inr (.inr q)
      · rintro (q | q | q)
        · exact .inl q
        · exact .inl (q ▸ h)
        · exact .inr q
    · rw [List.mem_append, List.mem_singleton, or_assoc]
theorem mem_firsts {w : Wd} {c : Nat} : c ∈ firsts w ↔ c ∈ w := by
  unfold firsts; rw [mem_firsts_go]; simp
theorem firsts_nodup_go : ∀ (w acc : Wd), acc.Nodup → (w.foldl fstep acc).Nodup
  | [], _, h => h
  | x :: xs, acc, h => by
    rw [List.foldl_cons]
    refine firsts_nodup_go xs _ ?_
    unfold fstep
    split
    · exact h
    · rename_i hx
      exact List.nodup_append.mpr ⟨h, by simp, fun a ha b hb => by
        rw [List.mem_singleton] at hb; subst hb; exact fun e => hx (e ▸ ha)⟩
theorem firsts_nodup (w : Wd) : (firsts w).Nodup := firsts_nodup_go w [] .nil
theorem firsts_len_go : ∀ (w acc : Wd), (w.foldl fstep acc).length ≤ acc.length + w.length
  | [], acc => by simp
  | x :: xs, acc => by
    rw [List.foldl_cons]
    refine Nat.le_trans (firsts_len_go xs _) ?_
    unfold fstep
    split <;> simp <;> omega
/-- the law's way: the places of first stands -/
def firstAt (w : Wd) (k : Nat) : Wd := ((List.range k).filter fun i => decide (w.getD i 0 ∉ w.take i)).map fun i => w.getD i 0
theorem firstAt_succ (w : Wd) (k : Nat) : firstAt w (k + 1) = firstAt w k ++ (if w.getD k 0 ∉ w.take k then [w.getD k 0] else []) := by
  unfold firstAt
  rw [List.range_succ, List.filter_append, List.map_append]
  congr 1
  rw [List.filter_cons]
  split <;> split <;> simp_all
theorem firstAt_eq (w : Wd) : ∀ k, k ≤ w.length → firstAt w k = firsts (w.take k)
  | 0, _ => rfl
  | k + 1, h => by
    have hk : k < w.length := h
    have e : w.take (k + 1) = w.take k ++ [w.getD k 0] := by
      rw [List.take_add_one, List.getElem?_eq_getElem hk, getD_at hk]; rfl
    rw [firstAt_succ, firstAt_eq w k (Nat.le_of_lt hk), e, firsts_snoc]
    unfold fstep
    by_cases q : w.getD k 0 ∈ w.take k
    · rw [if_neg (fun z => z q), if_pos (mem_firsts.mpr q), List.append_nil]
    · rw [if_pos q, if_neg (fun z => q (mem_firsts.mp z))]
theorem firsts_eq (w : Wd) : firstAt w w.length = firsts w := by rw [firstAt_eq w _ (Nat.le_refl _), List.take_length]
/-- the kind of a word -/
def kindOf (F : Fs) (w : Wd) : Wd := kd F (firsts w)
theorem kindOf_nodup (F : Fs) (w : Wd) : (kindOf F w).Nodup := kd_nodup (firsts_nodup w)
theorem mem_kindOf {F : Fs} {w : Wd} {c : Nat} : c ∈ kindOf F w ↔ c ∈ w := by unfold kindOf; rw [(kd_perm (firsts_nodup w)).mem_iff, mem_firsts]
def move (told kind : Wd) : Wd := kind.map fun i => told.getD i 0
/-! ### all orders -/
def ordStep (n : Nat) (rows : List Wd) : List Wd := rows.flatMap fun r => ((List.range n).filter fun s => decide (s ∉ r)).map fun s => r ++ [s]
def ord (n : Nat) : Nat → List Wd
  | 0 => [[]]
  | k + 1 => ordStep n (ord n k)
theorem ord_mem : ∀ {n k : Nat} {r : Wd}, r ∈ ord n k → r.length = k ∧ r.Nodup ∧ ∀ x ∈ r, x < n
  | n, 0, r, h => by
    have : r = [] := by simpa [ord] using h
    subst this; exact ⟨rfl, .nil, fun _ q => nomatch q⟩
  | n, k + 1, r, h => by
    obtain ⟨p, hp, hr⟩ := List.mem_flatMap.mp (show r ∈ ordStep n (ord n k) from h)
    obtain ⟨s, hs, rfl⟩ := List.mem_map.mp hr
    obtain ⟨hs1, hs2⟩ := List.mem_filter.mp hs
    obtain ⟨h1, h2, h3⟩ := ord_mem hp
    refine ⟨by rw [List.length_append, h1]; rfl, List.nodup_append.mpr ⟨h2, by simp, fun a ha b hb => ?_⟩, fun x hx => ?_⟩
    · rw [List.mem_singleton] at hb; subst hb
      exact fun e => (of_decide_eq_true hs2) (e ▸ ha)
    · rcases List.mem_append.mp hx with q | q
      · exact h3 x q
      · rw [List.mem_singleton] at q; subst q; exact List.mem_range.mp hs1
theorem ord_ne (n : Nat) : ∀ k, k ≤ n → ord n k ≠ []
  | 0, _ => by simp [ord]
  | k + 1, h => by
    obtain ⟨p, hp⟩ := List.exists_mem_of_ne_nil _ (ord_ne n k (by omega))
    obtain ⟨h1, h2, h3⟩ := ord_mem hp
    -- a letter that is not there
    have : ∃ s, s < n ∧ s ∉ p := by
      by_cases q : ∃ s, s < n ∧ s ∉ p
      · exact q
      · exfalso
        have sub : ∀ x ∈ List.range n, x ∈ p := fun x hx => by
          by_cases z : x ∈ p
          · exact z
          · exact absurd ⟨x, List.mem_range.mp hx, z⟩ q
        have := sub_len (List.nodup_range (n := n)) sub
        rw [List.length_range] at this
        omega
    obtain ⟨s, hs, hn⟩ := this
    exact List.ne_nil_of_mem (List.mem_flatMap.mpr ⟨p, hp, List.mem_map.mpr ⟨s, List.mem_filter.mpr ⟨List.mem_range.mpr hs, decide_eq_true hn⟩, rfl⟩⟩)
theorem ordStep_len (n : Nat) (rows : List Wd) : (ordStep n rows).length ≤ rows.length * n := by
  unfold ordStep
  induction rows with
  | nil => simp
  | cons r rs ih =>
    rw [List.flatMap_cons, List.length_append, List.length_cons, Nat.succ_mul, List.length_map]
    have : ((List.range n).filter fun s => decide (s ∉ r)).length ≤ n := by
      have := List.length_filter_le (fun s => decide (s ∉ r)) (List.range n)
      rwa [List.length_range] at this
    omega
theorem ord_len (n : Nat) : ∀ k, (ord n k).length ≤ n ^ k
  | 0 => by simp [ord]
  | k + 1 => by
    refine Nat.le_trans (ordStep_len n _) ?_
    rw [Nat.pow_succ]
    exact Nat.mul_le_mul_right _ (ord_len n k)
/-! ### renamed -/
def leP (p q : Nat × Nat) : Bool := decide (p.1 < q.1) || (decide (p.1 = q.1) && decide (p.2 ≤ q.2))
def nm (told : Wd) (p : Nat × Nat) : Nat × Nat := (min (told.getD p.1 0) (told.getD p.2 0), max (told.getD p.1 0) (told.getD p.2 0))
theorem leP_iff {p q : Nat × Nat} : leP p q = true ↔ p.1 < q.1 ∨ (p.1 = q.1 ∧ p.2 ≤ q.2) := by
  unfold leP; rw [Bool.or_eq_true, Bool.and_eq_true]; simp only [decide_eq_true_eq]
theorem leP_trans (a b c : Nat × Nat) (h : leP a b = true) (h2 : leP b c = true) : leP a c = true := by
  rw [leP_iff] at *; omega
theorem leP_total (a b : Nat × Nat) : (leP a b || leP b a) = true := by
  rw [Bool.or_eq_true, leP_iff, leP_iff]; omega
theorem leP_anti {a b : Nat × Nat} (h : leP a b = true) (h2 : leP b a = true) : a = b := by
  rw [leP_iff] at *
  have e1 : a.1 = b.1 := by omega
  have e2 : a.2 = b.2 := by omega
  exact Prod.ext e1 e2
def rn (F : Fs) (told : Wd) : Fs := (F.map (nm told)).mergeSort leP
theorem sorted_one {α : Type} {le : α → α → Prop} (anti : ∀ a b, le a b → le b a → a = b) : ∀ {l m : List α}, l.Perm m → l.Pairwise le → m.Pairwise le → l = m
  | [], m, p, _, _ => (p.symm.eq_nil).symm
  | x :: xs, [], p, _, _ => nomatch p.eq_nil
  | x :: xs, y :: ys, p, h1, h2 => by
    obtain ⟨a1, a2⟩ := List.pairwise_cons.mp h1
    obtain ⟨b1, b2⟩ := List.pairwise_cons.mp h2
    have e : x = y := by
      have hx : x ∈ y :: ys := p.mem_iff.mp List.mem_cons_self
      have hy : y ∈ x :: xs := p.mem_iff.mpr List.mem_cons_self
      rcases List.mem_cons.mp hx with q | q
      · exact q
      · rcases List.mem_cons.mp hy with z | z
        · exact z.symm
        · exact anti _ _ (a1 y z) (b1 x q)
    subst e
    rw [sorted_one anti (List.Perm.cons_inv p) a2 b2]
theorem rn_sorted (F : Fs) (told : Wd) : (rn F told).Pairwise fun a b => leP a b = true := List.pairwise_mergeSort leP_trans leP_total _
theorem rn_perm (F : Fs) (told : Wd) : (rn F told).Perm (F.map (nm told)) := List.mergeSort_perm _ _
theorem rn_one {F : Fs} {told : Wd} {G : Fs} (p : G.Perm (F.map (nm told))) (s : G.Pairwise fun a b => leP a b = true) : G = rn F told :=
  sorted_one (le := fun a b => leP a b = true) (fun _ _ => leP_anti) (p.trans (rn_perm F told).symm) s (rn_sorted F told)
theorem Co.sorted {n : Nat} {F : Fs} (c : Co n F) : F.Pairwise fun a b => leP a b = true := c.asc.imp fun {a b} h => leP_iff.mpr (by unfold pLt at h; omega)
theorem Co.nodup {n : Nat} {F : Fs} (c : Co n F) : F.Nodup := c.asc.imp fun {a b} h e => by subst e; unfold pLt at h; omega
theorem Co.irr {n : Nat} {F : Fs} (c : Co n F) (x : Nat) : x ∉ fr F x := fun h => by
  rcases mem_fr.mp h with q | q
  · have := (c.lt _ q).1; exact Nat.lt_irrefl _ this
  · have := (c.lt _ q).1; exact Nat.lt_irrefl _ this
/-! ### own names -/
def fits (F : Fs) (row : Wd) (letter sign : Nat) : Bool := (List.range row.length).all fun i => decide (i ∈ fr F letter) == decide (row.getD i 0 ∈ fr F sign)
def ownStep (n : Nat) (F : Fs) (k : Nat) (rows : List Wd) : List Wd := rows.flatMap fun r => ((List.range n).filter fun s => decide (s ∉ r) && fits F r k s).map fun s => r ++ [s]
def own (n : Nat) (F : Fs) : Nat → List Wd
  | 0 => [[]]
  | k + 1 => ownStep n F k (own n F k)
def good (F : Fs) (row : Wd) : Bool := (List.range row.length).all fun k => fits F (row.take k) k (row.getD k 0)
theorem good_snoc (F : Fs) (row : Wd) (s : Nat) : good F (row ++ [s]) = (good F row && fits F row row.length s) := by
  unfold good
  rw [List.length_append, List.length_singleton, List.range_succ, List.all_append, List.all_cons, List.all_nil, Bool.and_true]
  congr 1
  · rw [Bool.eq_iff_iff, List.all_eq_true, List.all_eq_true]
    refine forall_congr' fun k => ?_
    rw [List.mem_range]
    refine imp_congr_right fun hk => ?_
    rw [List.take_append_of_le_length (Nat.le_of_lt hk)]
    have : (row ++ [s]).getD k 0 = row.getD k 0 := by
      rw [List.getD_eq_getElem?_getD, List.getD_eq_getElem?_getD, List.getElem?_append_left hk]
    rw [this]
  · rw [List.take_append_of_le_length (Nat.le_refl _), List.take_length]
    have : (row ++ [s]).getD row.length 0 = s := by
      rw [List.getD_eq_getElem?_getD, List.getElem?_append_right (Nat.le_refl _), Nat.sub_self]; rfl
    rw [this]
theorem own_filter (n : Nat) (F : Fs) : ∀ k, own n F k = (ord n k).filter (good F)
  | 0 => rfl
  | k + 1 => by
    show ownStep n F k (own n F k) = (ordStep n (ord n k)).filter (good F)
    rw [own_filter n F k]
    unfold ownStep ordStep
    have hl : ∀ r ∈ ord n k, r.length = k := fun r hr => (ord_mem hr).1
    revert hl
    generalize ord n k = rows
    intro hl
    induction rows with
    | nil => rfl
    | cons r rs ih =>
      have ih' := ih fun x hx => hl x (List.mem_cons_of_mem _ hx)
      have hr : r.length = k := hl r List.mem_cons_self
      rw [List.flatMap_cons, List.filter_append, ← ih', List.filter_cons, List.filter_map]
      have e : (good F ∘ fun s => r ++ [s]) = fun s => good F r && fits F r k s := by
        funext s
        show good F (r ++ [s]) = _
        rw [good_snoc, hr]
      rw [e, List.filter_filter]
      cases hg : good F r
      · rw [if_neg (by simp)]
        simp
      · rw [if_pos rfl, List.flatMap_cons]
        congr 2
        refine List.filter_congr fun s _ => ?_
        simp [Bool.and_comm]
theorem good_iff {F : Fs} {row : Wd} : good F row = true ↔ ∀ i k, i < k → k < row.length → (i ∈ fr F k ↔ row.getD i 0 ∈ fr F (row.getD k 0)) := by
  unfold good
  rw [List.all_eq_true]
  constructor
  · intro h i k hik hk
    have h1 := h k (List.mem_range.mpr hk)
    unfold fits at h1
    rw [List.all_eq_true] at h1
    have hl : (row.take k).length = k := by rw [List.length_take]; omega
    have h2 := h1 i (List.mem_range.mpr (by rw [hl]; exact hik))
    have : (row.take k).getD i 0 = row.getD i 0 := by
      rw [List.getD_eq_getElem?_getD, List.getD_eq_getElem?_getD, List.getElem?_take_of_lt hik]
    rw [this, beq_iff_eq, decide_eq_decide] at h2
    exact h2
  · intro h k hk
    rw [List.mem_range] at hk
    unfold fits
    rw [List.all_eq_true]
    intro i hi
    have hl : (row.take k).length = k := by rw [List.length_take]; omega
    rw [List.mem_range, hl] at hi
    have : (row.take k).getD i 0 = row.getD i 0 := by
      rw [List.getD_eq_getElem?_getD, List.getD_eq_getElem?_getD, List.getElem?_take_of_lt hi]
    rw [this, beq_iff_eq, decide_eq_decide]
    exact h i k hi hk
theorem inj_of_nodup {row : Wd} (nd : row.Nodup) {i k : Nat} (hi : i < row.length) (hk : k < row.length) (e : row.getD i 0 = row.getD k 0) : i = k := by
  rw [getD_at hi, getD_at hk] at e
  exact (List.getElem_inj nd).mp e
theorem mem_fr_lt {n : Nat} {F : Fs} (c : Co n F) {a b : Nat} (h : a < b) : a ∈ fr F b ↔ (a, b) ∈ F := by
  rw [mem_fr]
  constructor
  · rintro (q | q)
    · have := (c.lt _ q).1
      exact absurd (Nat.lt_trans this h) (Nat.lt_irrefl _)
    · exact q
  · exact .inr
theorem nm_adj {n : Nat} {F : Fs} (c : Co n F) {x y : Nat} (h : x ≠ y) : (min x y, max x y) ∈ F ↔ x ∈ fr F y := by
  by_cases q : x < y
  · rw [Nat.min_eq_left (Nat.le_of_lt q), Nat.max_eq_right (Nat.le_of_lt q), mem_fr_lt c q]
  · have q' : y < x := by omega
    rw [Nat.min_eq_right (Nat.le_of_lt q'), Nat.max_eq_left (Nat.le_of_lt q'), fr_symm, mem_fr_lt c q']
/-- a renaming leaves the company as it is exactly if friends come to friends, strangers to strangers -/
theorem good_rn {n : Nat} {F : Fs} (c : Co n F) {told : Wd} (hl : told.length = n) (nd : told.Nodup) : good F told = true ↔ rn F told = F := by
  have inj : ∀ p ∈ F, ∀ q ∈ F, nm told p = nm told q → p = q := by
    rintro ⟨a, b⟩ hp ⟨a', b'⟩ hq e
    have h1 := c.lt _ hp
    have h2 := c.lt _ hq
    simp only at h1 h2
    unfold nm at e
    simp only [Prod.mk.injEq] at e
    have ia : ∀ {i k}, i < n → k < n → told.getD i 0 = told.getD k 0 → i = k := fun hi hk e => inj_of_nodup nd (by omega) (by omega) e
    have n1 : told.getD a 0 ≠ told.getD b 0 := fun q => absurd (ia (by omega) (by omega) q) (by omega)
    have n2 : told.getD a' 0 ≠ told.getD b' 0 := fun q => absurd (ia (by omega) (by omega) q) (by omega)
    have : (told.getD a 0 = told.getD a' 0 ∧ told.getD b 0 = told.getD b' 0) ∨ (told.getD a 0 = told.getD b' 0 ∧ told.getD b 0 = told.getD a' 0) := by omega
    rcases this with ⟨q1, q2⟩ | ⟨q1, q2⟩
    · have e1 := ia (by omega) (by omega) q1
      have e2 := ia (by omega) (by omega) q2
      exact Prod.ext e1 e2
    · have e1 := ia (by omega) (by omega) q1
      have e2 := ia (by omega) (by omega) q2
      exfalso; omega
  have ndm : (F.map (nm told)).Nodup := List.pairwise_map.mpr (List.Pairwise.imp_of_mem (fun {p q} hp hq hne e => hne (inj p hp q hq e)) c.nodup)
  rw [good_iff, hl]
  have tne : ∀ {i k}, i < n → k < n → i ≠ k → told.getD i 0 ≠ told.getD k 0 := fun hi hk h e => h (inj_of_nodup nd (by omega) (by omega) e)
  constructor
  · intro h
    refine (rn_one ?_ c.sorted).symm
    -- the image lies in F, and has as many
    have sub : ∀ x ∈ F.map (nm told), x ∈ F := by
      intro x hx
      obtain ⟨⟨a, b⟩, hp, rfl⟩ := List.mem_map.mp hx
      have h1 := c.lt _ hp
      simp only at h1
      unfold nm
      exact (nm_adj c (tne (by omega) (by omega) (by omega))).mpr ((h a b h1.1 h1.2).mp ((mem_fr_lt c h1.1).mpr hp))
    exact (sub_eq ndm sub (by rw [List.length_map]; exact Nat.le_refl _)).symm
  · intro h i k hik hk
    have p : (F.map (nm told)).Perm F := by
      have := (rn_perm F told).symm
      rwa [h] at this
    rw [mem_fr_lt c hik]
    rw [← nm_adj c (tne (by omega) hk (by omega))]
    have hm : (min (told.getD i 0) (told.getD k 0), max (told.getD i 0) (told.getD k 0)) ∈ F ↔ _ := p.mem_iff.symm
    rw [hm, List.mem_map]
    constructor
    · intro hp
      exact ⟨_, hp, rfl⟩
    · rintro ⟨⟨a, b⟩, hp, e⟩
      have h1 := c.lt _ hp
      simp only at h1
      unfold nm at e
      simp only [Prod.mk.injEq] at e
      have ia : ∀ {i k}, i < n → k < n → told.getD i 0 = told.getD k 0 → i = k := fun hi hk e => inj_of_nodup nd (by omega) (by omega) e
      have n1 := tne (i := a) (k := b) (by omega) (by omega) (by omega)
      have n2 := tne (i := i) (k := k) (by omega) (by omega) (by omega)
      have : (told.getD a 0 = told.getD i 0 ∧ told.getD b 0 = told.getD k 0) ∨ (told.getD a 0 = told.getD k 0 ∧ told.getD b 0 = told.getD i 0) := by omega
      rcases this with ⟨q1, q2⟩ | ⟨q1, q2⟩
      · have e1 := ia (by omega) (by omega) q1
        have e2 := ia (by omega) (by omega) q2
        subst e1 e2; exact hp
      · have e1 := ia (by omega) (by omega) q1
        have e2 := ia (by omega) (by omega) q2
        exfalso; omega
theorem own_eq {n : Nat} {F : Fs} (c : Co n F) : own n F n = (ord n n).filter fun told => decide (rn F told = F) := by
  rw [own_filter]
  refine List.filter_congr fun r hr => ?_
  obtain ⟨h1, h2, _⟩ := ord_mem hr
  rw [Bool.eq_iff_iff, decide_eq_true_eq]
  exact good_rn c h1 h2
end OW
end
section
/-! Rules that the layer lacks: sorted of a text, of a dict with text keys; min, max of data; list of a text. -/
namespace OWK
open PySem PySem.Spec PyProof.Rows L2
/-- a text value whose sign (token) is fit for any use: not nought, below n -/
def TokS (n : Nat) (v : Value) (x : Str) : Prop := ∃ t, v = .str x t ∧ t ≠ 0 ∧ t < n
def AnyS (v : Value) (x : Str) : Prop := ∃ t, v = .str x t
/-- the order of texts -/
def leS (a b : Str) : Bool := decide (a.cps.toList ≤ b.cps.toList)
def sortS (xs : List Str) : List Str := xs.mergeSort leS
theorem each_vals : ∀ {vs : List Value} {xs : List Str}, PySem.W.EachIs AnyS vs xs → Vals (xs.map V.str) vs
  | _, _, .nil => .nil
  | _, _, .cons r t => .cons r (each_vals t)
theorem vals_each : ∀ {vs : List Value} {xs : List Str}, Vals (xs.map V.str) vs → PySem.W.EachIs AnyS vs xs
  | [], [], .nil => .nil
  | _ :: _, _ :: _, .cons r t => .cons r (vals_each t)
theorem each_tok {n : Nat} {vs : List Value} {xs : List Str} (h : PySem.W.EachIs (TokS n) vs xs) : PySem.W.EachIs AnyS vs xs := h.mono fun v x ⟨t, e, _⟩ => ⟨t, e⟩
theorem alike_strs (ks : List Str) : PySem.W.AllAlike (ks.map fun x => PyData.str x) := PySem.W.AllAlike.of fun _ _ => by unfold PySem.W.alike; rfl
theorem sortable_strs (ks : List Str) : PySem.W.Sortable (ks.map fun x => PyData.str x) := PySem.W.Sortable.others fun _ => ⟨(fun q => nomatch q), fun _ q => nomatch q⟩
theorem leS_eq : PySem.W.dataLe false (fun x : Str => PyData.str x) = leS := by
  rw [PySem.W.dataLe_str (fun x => x)]
  rfl
section
variable {P : Program} {w : World} {A : Around} {E : Value → Shared → Prop} {s : Shared}
/-- sorted of anything whose items come as texts -/
theorem sorted_gatherE {v : Value} {R : Value → Str → Prop} {Q : Value → Shared → Prop} {C : List Value → Shared → Prop} (hu : A.units + 3 < cLine) (hR : ∀ v x, R v x → AnyS v x)
    (hcol : wpAny (model P w) A.in1 (collect v) C E s)
    (hC : ∀ out s', C out s' → ∃ ks : List Str, ks.length ≤ sizeLine ∧ PySem.W.EachIs R out ks ∧
      ∀ (out2 : List Value) (ep : Nat) (h'' : Heap), PySem.W.EachIs R out2 (sortS ks) → h''.get? s'.heap.objs.size = some (seqObj "list" (List.toArray out2) ep) → (∀ b o, s'.heap.get? b = some o → h''.get? b = some o) → Q (.ref s'.heap.objs.size) { s' with heap := h'' }) :
    wpAny (model P w) A (call (.builtin "sorted") [v]) Q E s := by
  refine Calls.call_function_entry kind_sorted plain_sorted entry_sorted (args_sorted1 _) ?_
  unfold Builtin.«sorted»
  refine wpAny_bind (m := checkCount "sorted" 1 1 _) (wpAny_pure ?_)
  refine wpAny_bind (thn hcol fun out s1 c1 => ?_)
  obtain ⟨ks, hz, e1, fin⟩ := hC out s1 c1
  have hl : out.length = ks.length := e1.length
  refine wpAny_bind (wpAny_newList ?_ (by rw [hl]; exact hz))
  have hoL : (s1.heap.push (seqObj "list" out.toArray 0)).get? s1.heap.objs.size = some (seqObj "list" out.toArray 0) := Heap.get?_push_size _ rfl
  refine wpAny_bind (wpAny_holding (PySem.W.list_sort_data (enc := fun x : Str => PyData.str x) (s := { s1 with heap := s1.heap.push (seqObj "list" out.toArray 0) }) hoL e1
    (e1.mono fun v x r => by obtain ⟨t, e⟩ := hR v x r; subst e; exact ⟨[], .str x t, List.not_mem_nil⟩) (alike_strs ks) (sortable_strs ks) hz (fun b _ => by show A.units + 1 + 1 + 0 < cLine; omega) fun out2 hl2 e2 => ?_))
  rw [leS_eq] at e2
  obtain ⟨ep, he⟩ := sortedHeap_at (vs := out) (out := out2.toArray) hoL
  refine wpAny_pure ⟨_, rfl, fin out2 ep _ e2 he fun b u q => ?_⟩
  have hlt := Heap.lt_size q
  rw [sortedHeap_old (Nat.ne_of_lt hlt) (by rw [size_push']; exact Nat.lt_succ_of_lt hlt)]
  exact Heap.get?_push_of_some _ q
theorem sorted_gather {v : Value} {R : Value → Str → Prop} {ks : List Str} {Q : Value → Shared → Prop} {C : List Value → Shared → Prop} (hu : A.units + 3 < cLine) (hz : ks.length ≤ sizeLine) (hR : ∀ v x, R v x → AnyS v x)
    (hcol : wpAny (model P w) A.in1 (collect v) C E s)
    (hC : ∀ out s', C out s' → PySem.W.EachIs R out ks ∧
      ∀ (out2 : List Value) (ep : Nat) (h'' : Heap), PySem.W.EachIs R out2 (sortS ks) → h''.get? s'.heap.objs.size = some (seqObj "list" (List.toArray out2) ep) → (∀ b o, s'.heap.get? b = some o → h''.get? b = some o) → Q (.ref s'.heap.objs.size) { s' with heap := h'' }) :
    wpAny (model P w) A (call (.builtin "sorted") [v]) Q E s :=
  sorted_gatherE hu hR hcol fun out s' c => ⟨ks, hz, hC out s' c⟩
end
end OWK
end
section
namespace OWK
open PySem PySem.Spec PyProof.Rows L2
/-- the signs of a text -/
def sg (c : Nat) : Str := ⟨#[c]⟩
def signs (x : Str) : List Str := x.cps.toList.map sg
theorem each_at {R : Value → Str → Prop} : ∀ {out : List Value} {ks : List Str}, out.length = ks.length → (∀ (i : Nat) v x, out[i]? = some v → ks[i]? = some x → R v x) → PySem.W.EachIs R out ks
  | [], [], _, _ => .nil
  | v :: vs, x :: xs, h, f => .cons (f 0 v x rfl rfl) (each_at (by simpa using h) fun i v x a b => f (i + 1) v x (by simpa using a) (by simpa using b))
  | [], _ :: _, h, _ => by simp at h
  | _ :: _, [], h, _ => by simp at h
section
variable {X : Cx}
theorem items_signs {x : Str} {acc : Array Value} (h : ItemsOf (SignAt x) acc x.cps.size) : PySem.W.EachIs AnyS acc.toList (signs x) := by
  refine each_at (by rw [Array.length_toList, h.1]; simp [signs]) fun i v y a b => ?_
  obtain ⟨c, u, e1, e2⟩ := h.2 i v (by rw [← Array.getElem?_toList]; exact a)
  subst e2
  refine ⟨u, ?_⟩
  unfold signs at b
  rw [List.getElem?_map, Array.getElem?_toList, e1] at b
  have : sg c = y := Option.some.inj b
  rw [← this]; rfl
theorem out_ok {P : Program} {w : World} {H : Hp} {h : Heap} {p : Addr} {out2 : List Value} {ys : List Str} {ep : Nat} (e : PySem.W.EachIs AnyS out2 ys) (he : h.get? p = some (seqObj "list" out2.toArray ep)) (hz : ys.length ≤ sizeLine) : ObjOk P w H h p (.lst (ys.map V.str)) :=
  ⟨by rw [List.length_map]; exact hz, out2, ep, each_vals e, he⟩
theorem sortS_len (xs : List Str) : (sortS xs).length = xs.length := List.length_mergeSort _
/-- sorted(text) -/
def rSortT : List V → Hp → VK → Prop := fun xs H Q => ∃ x : Str, xs = [.str x] ∧ x.cps.size ≤ sizeLine ∧ ∀ p, H p = none → Q (.ref p) (upd H p (.lst ((sortS (signs x)).map V.str)))
theorem cr_sortT1 (hc : X.calm = true) (hu : X.A.units + 3 < cLine) : CallR X (.builtin "sorted") rSortT := by
  intro pins s σ H xs us Q I r q
  obtain ⟨x, ex, hz, q⟩ := q
  subst ex
  obtain ⟨u, eu, rx⟩ := vals1 r
  subst eu
  obtain ⟨t, rfl⟩ := rx
  have hlen : (signs x).length ≤ sizeLine := by simpa [signs] using hz
  refine sorted_gather (R := AnyS) (ks := signs x) (C := fun out s' => ∃ acc : Array Value, out = acc.toList ∧ (∀ b o, s.heap.get? b = some o → s'.heap.get? b = some o) ∧ s'.gens = s.gens ∧ s'.os = s.os ∧ s'.drawn = s.drawn ∧ ItemsOf (SignAt x) acc x.cps.size) hu hlen (fun _ _ h => h)
    (wpAny_collect_str (A := X.A.in1) (I.ok.hd hc) x t (fun s' acc k g d o hi => ⟨acc, rfl, k, g, o, d, hi⟩) hz) fun out s' ⟨acc, e1, k, g, o, d, hi⟩ => ?_
  subst e1
  refine ⟨items_signs hi, fun out2 ep h'' e2 he k2 => ?_⟩
  obtain ⟨hp, gs, dr, tk, os⟩ := s'
  dsimp only at k g o d k2 he
  subst g o d
  have I1 : Inv X pins σ H { s with heap := hp, toks := tk } := I.kept k
  have hlz : (sortS (signs x)).length ≤ sizeLine := by rw [sortS_len]; exact hlen
  exact ⟨.ref _, upd H hp.objs.size (.lst ((sortS (signs x)).map V.str)), I1.laid (t' := tk) k2 (Nat.le_refl _) (out_ok e2 he hlz), rfl, q _ (I1.hok.fresh (Nat.le_refl _))⟩
/-- sorted(dict), the keys texts -/
def rSortDk : List V → Hp → VK → Prop := fun xs H Q => ∃ (a : Addr) (kvs : List (Key × V)) (ks : List Str), xs = [.ref a] ∧ Rd H a (.dK kvs) ∧ kvs.map (·.1) = ks.map Sum.inr ∧ ∀ p, H p = none → Q (.ref p) (upd H p (.lst ((sortS ks).map V.str)))
theorem cr_sortDk (hc : X.calm = true) (hu : X.A.units + 3 < cLine) : CallR X (.builtin "sorted") rSortDk := by
  intro pins s σ H xs us Q I r q
  obtain ⟨a, kvs, ks, ex, hd, hks, q⟩ := q
  subst ex
  obtain ⟨u, eu, rx⟩ := vals1 r
  subst eu
  cases rx
  obtain ⟨z, lo, vs, rel, dd⟩ := dk_rd I.hok hd
  obtain ⟨ep, hat⟩ := dd.dictAt
  have hkeys : vs.map (·.1) = ks.map Sum.inr := rel.keys.symm.trans hks
  have hl : vs.length = ks.length := by
    have e := congrArg List.length hkeys
    rwa [List.length_map, List.length_map] at e
  have hk2 : kvs.length = ks.length := by
    have e := congrArg List.length hks
    rwa [List.length_map, List.length_map] at e
  have hz : ks.length ≤ sizeLine := by rw [← hk2]; exact z
  refine sorted_gather (R := AnyS) (ks := ks) (C := fun out s' => ∃ (acc : Array Value) (h' : Heap) (tk : Nat), out = acc.toList ∧ s' = { s with heap := h', toks := tk } ∧ (∀ b o, s.heap.get? b = some o → h'.get? b = some o) ∧ ItemsOf (fun j v => ∃ k x, vs[j]? = some (k, x) ∧ (mixKind X.prog X.w).is k v = true) acc vs.length) hu hz (fun _ _ h => h)
    (PySem.W.kdu_collect (A := X.A.in1) (PySem.W.kdl_dict (knd := mixKind X.prog X.w) (kvs := vs) (ep := ep) lo) (I.ok.hd hc) hat (by rw [hl]; exact hz) fun h' tk acc k hacc => ⟨acc, h', tk, rfl, rfl, k, hacc⟩) fun out s' ⟨acc, h', tk, e1, e2, k, hacc⟩ => ?_
  subst e1 e2
  refine ⟨each_at (by rw [Array.length_toList, hacc.1, hl]) fun i v y e1 e2 => ?_, fun out2 ep2 h'' e2 he k2 => ?_⟩
  · obtain ⟨k', x, q1, q2⟩ := hacc.2 i v (by rw [← Array.getElem?_toList]; exact e1)
    have e3 : (vs.map (·.1))[i]? = some k' := by rw [List.getElem?_map, q1]; rfl
    rw [hkeys, List.getElem?_map, e2] at e3
    have e5 : Sum.inr y = k' := Option.some.inj e3
    subst e5
    obtain ⟨t, ev⟩ := Value.isStrOf_shape (x := y) (v := v) q2
    exact ⟨t, ev⟩
  · have I1 : Inv X pins σ H { s with heap := h', toks := tk } := I.kept k
    have hlz : (sortS ks).length ≤ sizeLine := by rw [sortS_len]; exact hz
    exact ⟨.ref _, upd H h'.objs.size (.lst ((sortS ks).map V.str)), I1.laid (t' := tk) k2 (Nat.le_refl _) (out_ok e2 he hlz), rfl, q _ (I1.hok.fresh (Nat.le_refl _))⟩
/-- list(text) -/
def rListT : List V → Hp → VK → Prop := fun xs H Q => ∃ x : Str, xs = [.str x] ∧ x.cps.size ≤ sizeLine ∧ ∀ p, H p = none → Q (.ref p) (upd H p (.lst ((signs x).map V.str)))
end
end OWK
end
section
namespace OWK
open PySem PySem.Spec PyProof.Rows L2
section
variable {X : Cx}
theorem cr_listT (hc : X.calm = true) : CallR X (.type "list") rListT := by
  intro pins s σ H xs us Q I r q
  obtain ⟨x, ex, hz, q⟩ := q
  subst ex
  obtain ⟨u, eu, rx⟩ := vals1 r
  subst eu
  obtain ⟨t, rfl⟩ := rx
  refine call_list_str (I.ok.hd hc) x t (hn := hz) fun h' tk acc c k hS hi => ?_
  have hlz : ((signs x).map V.str).length ≤ sizeLine := by simpa [signs] using hz
  exact ⟨.ref _, upd H s.heap.objs.size (.lst ((signs x).map V.str)), I.laid (t' := tk) k (Nat.le_refl _) ⟨hlz, acc.toList, c, each_vals (items_signs hi), hS⟩, rfl, q _ (I.hok.fresh (Nat.le_refl _))⟩
/-- x in a tuple of data -/
def rInDT (K : PySem.W.Frag) : R2 := fun x y H Q => ∃ d ds, Dp K H x d ∧ Dp K H y (.tuple ds) ∧ SeqAt.shaped d = true ∧ SeqAt.shaped (.tuple ds) = true ∧ Q (.bl (ds.any fun z => PyData.eqv z d)) H
theorem op_inDT (hu : X.A.units + 65 < cLine) : OpR X (compareOp .In) (rInDT X.K) := by
  intro pins s σ H x y v u Q I rx ry h
  obtain ⟨d, ds, hd, he, sd, se, q⟩ := h
  obtain ⟨as, r1⟩ := Dp.reads I d x v hd rx
  obtain ⟨bs, r2⟩ := Dp.reads I (.tuple ds) y u he ry
  exact SeqAt.in_tuple_reads r2 r1 (SeqAt.canLay_of_shaped se) (SeqAt.canLay_of_shaped sd) (room_in_shaped sd hu) ⟨.bl _, H, I, rfl, q⟩
theorem dpAll_get {K : PySem.W.Frag} {H : Hp} : ∀ {vs : List V} {ds : List PyData}, DpAll K H vs ds → ∀ (i : Nat) (v : V), vs[i]? = some v → ∃ d, ds[i]? = some d ∧ Dp K H v d
  | _, _, .cons h t, 0, v, e => by
    have : _ = v := Option.some.inj e
    subst this; exact ⟨_, rfl, h⟩
  | _, _, .cons h t, i + 1, v, e => by
    obtain ⟨d, e1, h1⟩ := dpAll_get t i v (by simpa using e)
    exact ⟨d, by simpa using e1, h1⟩
theorem dpAll_len {K : PySem.W.Frag} {H : Hp} : ∀ {vs : List V} {ds : List PyData}, DpAll K H vs ds → vs.length = ds.length
  | _, _, .nil => rfl
  | _, _, .cons _ t => by rw [List.length_cons, List.length_cons, dpAll_len t]
/-- min of a list of data of one make -/
def rMinDat (K : PySem.W.Frag) : List V → Hp → VK → Prop := fun xs H Q => ∃ (a : Addr) (vs : List V) (d : PyData) (ds : List PyData), xs = [.ref a] ∧ SqL K H a vs ∧ DpAll K H vs (d :: ds) ∧ PySem.W.AlikeAll (d :: ds) ∧ PyData.depthAll (d :: ds) ≤ 40 ∧
  ∀ (i : Nat) v, vs[i]? = some v → (d :: ds)[i]? = some (PySem.W.minD d ds) → Q v H
theorem cr_minDat (hc : X.calm = true) (hu : X.A.units + 42 < cLine) : CallR X (.builtin "min") (rMinDat X.K) := by
  intro pins s σ H xs us Q I r q
  obtain ⟨a, vs, d, ds, ex, hl, hd, hal, hdep, q⟩ := q
  subst ex
  obtain ⟨u, eu, rx⟩ := vals1 r
  subst eu
  cases rx
  obtain ⟨its, rv, p, hz⟩ := I.list hl
  obtain ⟨as, hr⟩ := Dp.readsAll I _ _ its hd rv
  refine PySem.W.min_list_data (I.ok.hd hc) p.isList (by simpa using hr) hal (by omega) fun i v h' tk bs e1 e2 k => ?_
  have e1' : its[i]? = some v := by simpa using e1
  have hi : i < its.length := (List.getElem?_eq_some_iff.mp e1').1
  have hiv : i < vs.length := by rw [rv.length]; exact hi
  obtain ⟨u', hu', ru⟩ := rv.get (List.getElem?_eq_getElem hiv)
  have euv : u' = v := Option.some.inj (hu'.symm.trans e1')
  subst euv
  obtain ⟨d', e3, hd'⟩ := dpAll_get hd i vs[i] (List.getElem?_eq_getElem hiv)
  obtain ⟨bs', r'⟩ := Dp.reads I d' _ _ hd' ru
  have e4 := (PySem.Reads.unique (PySem.W.reads_keeps k r') _ _ e2).1
  exact ⟨vs[i], H, I.kept (t' := tk) k, ru, q i vs[i] (List.getElem?_eq_getElem hiv) (by rw [e3, e4])⟩
end
end OWK
end
section
namespace OWK
open PySem PySem.Spec PyProof.Rows L2
section
variable {prog : Program} {w : World} {A : Around} {E : Value → Shared → Prop} {s : Shared}
/-- the two texts, by place -/
def two2 (x y : Str) (i : Nat) : Str := if i = 0 then x else y
theorem two_at {x y : Str} {t u : Tok} {i : Nat} {v : Value} (h : (#[Value.str x t, Value.str y u] : Array Value)[i]? = some v) : ∃ k, v = .str (two2 x y i) k := by
  match i, h with
  | 0, h => exact ⟨t, (Option.some.inj h).symm⟩
  | 1, h => exact ⟨u, (Option.some.inj h).symm⟩
  | i + 2, h => simp at h
theorem lt_strs (x y : Str) : PySem.W.dataLt (.str x) (.str y) = decide (x.cps.toList < y.cps.toList) := by
  have h := congrFun (congrFun (PySem.W.dataLe_str (fun z : Str => z)) y) x
  rw [PySem.W.dataLe_eq] at h
  simp only [cond_false] at h
  have h2 : (!PySem.W.dataLt (PyData.str x) (PyData.str y)) = decide (y.cps.toList ≤ x.cps.toList) := h
  rw [← PySem.W.not_lt_str] at h2
  cases e : PySem.W.dataLt (PyData.str x) (PyData.str y) <;> cases e2 : decide (x.cps.toList < y.cps.toList) <;> rw [e, e2] at h2 <;> simp at h2 <;> rfl
theorem tup_two (h : Heap) (a b : Value) : (h.push { cls := .type "tuple", data := .seq #[a, b] }).IsTuple h.objs.size #[a, b] := ⟨_, Heap.get?_push_size _ rfl, rfl, 0, rfl⟩
theorem cmp_two_lt (x y : Str) (t u : Tok) (hu : A.units < cLine) : CmpOf prog w A .Lt (fun i v => (#[Value.str x t, Value.str y u] : Array Value)[i]? = some v) (fun i j => PySem.W.dataLt (.str (two2 x y i)) (.str (two2 x y j))) := by
  intro i j vi vj s Q E hi hj hQ
  obtain ⟨k1, rfl⟩ := two_at hi
  obtain ⟨k2, rfl⟩ := two_at hj
  exact PySem.W.rcLt_alike _ _ A s _ _ _ _ (Reads.str _ _) (Reads.str _ _) (by unfold PySem.W.alike; rfl) (fun q => nomatch q) (by show A.units + min 0 0 < cLine; simpa using hu) prog w E Q hQ
theorem cmp_two_gt (x y : Str) (t u : Tok) (hu : A.units < cLine) : CmpOf prog w A .Gt (fun i v => (#[Value.str x t, Value.str y u] : Array Value)[i]? = some v) (fun i j => PySem.W.dataLt (.str (two2 x y j)) (.str (two2 x y i))) := by
  intro i j vi vj s Q E hi hj hQ
  obtain ⟨k1, rfl⟩ := two_at hi
  obtain ⟨k2, rfl⟩ := two_at hj
  exact PySem.W.rcGt_alike _ _ A s _ _ _ _ (Reads.str _ _) (Reads.str _ _) (by unfold PySem.W.alike; rfl) (fun q => nomatch q) (by show A.units + min 0 0 < cLine; simpa using hu) prog w E Q hQ
theorem min_two_strs {x y : Str} {t u : Tok} {Q : Value → Shared → Prop} (hh : A.handled = none) (hu : A.units + 1 < cLine)
    (h : ∀ h' tk k, (∀ c o, s.heap.get? c = some o → h'.get? c = some o) → Q (.str (if y.cps.toList < x.cps.toList then y else x) k) { s with heap := h', toks := tk }) :
    wpAny (model prog w) A (call (.builtin "min") [.str x t, .str y u]) Q E s := by
  refine call_min_two (PySem.W.iter_tupleW (A := A.in1) hh (tup_two _ _ _) fun s₂ e W st hfp hw hk => ?_)
  refine ⟨_, _, _, _, _, _, _, rfl, Walks.tuple (A := A.in1) hh _ s.heap.objs.size (by rw [Heap.size_push]; exact Nat.ne_of_lt (Nat.lt_succ_self _)) _, st, hfp, by show 0 < 2; decide, cmp_two_lt (A := A.in1) x y t u hu, fun v h' tk hP hk' => ?_⟩
  have hold : ∀ c o, s.heap.get? c = some o → h'.get? c = some o := fun c o q => by
    refine hk' c o (fun hm => ?_) (hk c o (Heap.get?_push_of_some _ q))
    rw [List.mem_singleton.mp hm, Heap.size_push] at q
    exact absurd (Heap.lt_size q) (Nat.not_lt.mpr (Nat.le_succ _))
  subst e
  have hP2 : (#[Value.str x t, Value.str y u] : Array Value)[argBest (fun i j => PySem.W.dataLt (.str (two2 x y i)) (.str (two2 x y j))) 1]? = some v := hP
  by_cases hb : y.cps.toList < x.cps.toList
  · have e : argBest (fun i j => PySem.W.dataLt (.str (two2 x y i)) (.str (two2 x y j))) 1 = 1 := if_pos (by show PySem.W.dataLt (.str y) (.str x) = true; rw [lt_strs]; exact decide_eq_true hb)
    rw [e] at hP2
    have := h h' tk u hold
    rw [if_pos hb] at this
    have ev : Value.str y u = v := Option.some.inj hP2
    rw [← ev]; exact this
  · have e : argBest (fun i j => PySem.W.dataLt (.str (two2 x y i)) (.str (two2 x y j))) 1 = 0 := if_neg (by show ¬ PySem.W.dataLt (.str y) (.str x) = true; rw [lt_strs, decide_eq_true_eq]; exact hb)
    rw [e] at hP2
    have := h h' tk t hold
    rw [if_neg hb] at this
    have ev : Value.str x t = v := Option.some.inj hP2
    rw [← ev]; exact this
theorem max_two_strs {x y : Str} {t u : Tok} {Q : Value → Shared → Prop} (hh : A.handled = none) (hu : A.units + 1 < cLine)
    (h : ∀ h' tk k, (∀ c o, s.heap.get? c = some o → h'.get? c = some o) → Q (.str (if x.cps.toList < y.cps.toList then y else x) k) { s with heap := h', toks := tk }) :
    wpAny (model prog w) A (call (.builtin "max") [.str x t, .str y u]) Q E s := by
  refine call_max_two (PySem.W.iter_tupleW (A := A.in1) hh (tup_two _ _ _) fun s₂ e W st hfp hw hk => ?_)
  refine ⟨_, _, _, _, _, _, _, rfl, Walks.tuple (A := A.in1) hh _ s.heap.objs.size (by rw [Heap.size_push]; exact Nat.ne_of_lt (Nat.lt_succ_self _)) _, st, hfp, by show 0 < 2; decide, cmp_two_gt (A := A.in1) x y t u hu, fun v h' tk hP hk' => ?_⟩
  have hold : ∀ c o, s.heap.get? c = some o → h'.get? c = some o := fun c o q => by
    refine hk' c o (fun hm => ?_) (hk c o (Heap.get?_push_of_some _ q))
    rw [List.mem_singleton.mp hm, Heap.size_push] at q
    exact absurd (Heap.lt_size q) (Nat.not_lt.mpr (Nat.le_succ _))
  subst e
  have hP2 : (#[Value.str x t, Value.str y u] : Array Value)[argBest (fun i j => PySem.W.dataLt (.str (two2 x y j)) (.str (two2 x y i))) 1]? = some v := hP
  by_cases hb : x.cps.toList < y.cps.toList
  · have e : argBest (fun i j => PySem.W.dataLt (.str (two2 x y j)) (.str (two2 x y i))) 1 = 1 := if_pos (by show PySem.W.dataLt (.str x) (.str y) = true; rw [lt_strs]; exact decide_eq_true hb)
    rw [e] at hP2
    have := h h' tk u hold
    rw [if_pos hb] at this
    have ev : Value.str y u = v := Option.some.inj hP2
    rw [← ev]; exact this
  · have e : argBest (fun i j => PySem.W.dataLt (.str (two2 x y j)) (.str (two2 x y i))) 1 = 0 := if_neg (by show ¬ PySem.W.dataLt (.str x) (.str y) = true; rw [lt_strs, decide_eq_true_eq]; exact hb)
    rw [e] at hP2
    have := h h' tk t hold
    rw [if_neg hb] at this
    have ev : Value.str x t = v := Option.some.inj hP2
    rw [← ev]; exact this
end
section
variable {X : Cx}
theorem cr_min2S (hc : X.calm = true) (hu : X.A.units + 1 < cLine) : CallR X (.builtin "min") (fun xs H Q => ∃ x y, xs = [.str x, .str y] ∧ Q (.str (if y.cps.toList < x.cps.toList then y else x)) H) := by
  intro pins s σ H xs us Q I r q
  obtain ⟨x, y, ex, q⟩ := q
  subst ex
  cases r with
  | cons r1 r =>
    cases r with
    | cons r2 r =>
      cases r
      obtain ⟨t, rfl⟩ := r1
      obtain ⟨u, rfl⟩ := r2
      exact min_two_strs (I.ok.hd hc) hu fun h' tk k hk => ⟨.str _, H, I.kept hk, ⟨k, rfl⟩, q⟩
theorem cr_max2S (hc : X.calm = true) (hu : X.A.units + 1 < cLine) : CallR X (.builtin "max") (fun xs H Q => ∃ x y, xs = [.str x, .str y] ∧ Q (.str (if x.cps.toList < y.cps.toList then y else x)) H) := by
  intro pins s σ H xs us Q I r q
  obtain ⟨x, y, ex, q⟩ := q
  subst ex
  cases r with
  | cons r1 r =>
    cases r with
    | cons r2 r =>
      cases r
      obtain ⟨t, rfl⟩ := r1
      obtain ⟨u, rfl⟩ := r2
      exact max_two_strs (I.ok.hd hc) hu fun h' tk k hk => ⟨.str _, H, I.kept hk, ⟨k, rfl⟩, q⟩
end
end OWK
end
section
/-! enumerate of a tuple, of a text -/
namespace OWK
open PySem PySem.Spec PyProof.Rows L2
set_option maxHeartbeats 1000000 in
theorem enum_made {v : Value} {o : Obj} {Hq : Heap → Prop} (B : Begins v o Hq) :
    Meets (Builtin.«enumerate.__new__» ⟨[.type "enumerate", v], []⟩) (fun _ R s => Hq s.heap ∧
      R (.ok (.ret (.ref (s.heap.push o).objs.size))) { s with heap := (s.heap.push o).push { cls := .type "enumerate", data := .fields #[.none, .bool false, .ref s.heap.objs.size, rawInt 0, .none, .none] } }) :=
  .of_wp fun prog w A R s hs => by
    obtain ⟨hp, gs, dr, tk, os⟩ := s
    obtain ⟨h1, h⟩ := hs
    have hsub := sub_enumerate
    have q1 : ∀ {A' : Around} {E : Value → Shared → Prop} {Q : Value → Shared → Prop}, Q (.ref hp.objs.size) ⟨hp.push o, gs, dr, tk, os⟩ → wpAny (model prog w) A' (pyIter v) Q E ⟨hp, gs, dr, tk, os⟩ :=
      fun q => B.iter prog w _ _ ⟨hp, gs, dr, tk, os⟩ _ h1 q
    wp_walk using q1
    refine wpAny_stack_any fun st => wpAny_pure ?_
    split
    · rename_i cc _ _ _ _ _
      cases (cc == Value.type "enumerate")
      · wp_walk using q1
        exact ⟨_, rfl, h⟩
      · wp_walk using q1
        exact ⟨_, rfl, h⟩
    · wp_walk using q1
      exact ⟨_, rfl, h⟩
section
variable {prog : Program} {w : World} {A : Around} {E : Value → Shared → Prop} {s : Shared}
theorem enum_one {v : Value} {o : Obj} {Hq : Heap → Prop} {Q : Value → Shared → Prop} (B : Begins v o Hq) (h1 : Hq s.heap)
    (h : ∀ h', IsEnum h' (s.heap.objs.size + 1) s.heap.objs.size 0 .none → h'.get? s.heap.objs.size = some o → h'.objs.size = s.heap.objs.size + 2 →
      (∀ b u, s.heap.get? b = some u → h'.get? b = some u) → Q (.ref (s.heap.objs.size + 1)) { s with heap := h' }) :
    wpAny (model prog w) A (call (.type "enumerate") [v]) Q E s := by
  refine callType_new F.called_enumerate (by decide) (F.typeCall_enumerate_1 _) (F.newCall_enumerate_1 _) (fun obj => F.args_object_init_2 obj _) F.entry_enumerate_new (enum_made B) ⟨h1, ?_⟩
  have hz : (s.heap.push o).objs.size = s.heap.objs.size + 1 := Heap.size_push ..
  show _ ∧ _
  rw [hz]
  have he : IsEnum ((s.heap.push o).push { cls := .type "enumerate", data := .fields #[.none, .bool false, .ref s.heap.objs.size, rawInt 0, .none, .none] }) (s.heap.objs.size + 1) s.heap.objs.size 0 .none := by
    have := Heap.get?_push_size (s.heap.push o) (o := { cls := .type "enumerate", data := .fields #[.none, .bool false, .ref s.heap.objs.size, rawInt 0, .none, .none] }) rfl
    rw [hz] at this; exact this
  refine ⟨⟨_, he, rfl⟩, h _ he (Heap.get?_push_of_some _ (Heap.get?_push_size _ B.free)) (by rw [Heap.size_push, hz]) fun b u y => Heap.get?_push_of_some _ (Heap.get?_push_of_some _ y)⟩
end
/-- the pair of a place and an item, new at each turn -/
def ItEx (xs : List V) : It :=
  ⟨fun i _ => i < xs.length, fun i H v H' => ∃ T x, v = .ref T ∧ H T = none ∧ H' = upd H T (.tup [.int (i : Nat), x]) ∧ xs[i]? = some x, fun i _ => xs.length ≤ i⟩
theorem enum_turn_ok {X : Cx} {pins : List (Addr × Obj)} {σ : L2.St} {H : Hp} {s : Shared} {e it : Addr} {i : Nat} {u : Value} {x : V} {h' h'' : Heap} {tk : Nat} (I : Inv X pins σ H s) (hf : ∀ b ∈ [e, it], FpOk X pins H b)
    (ru : RelV x u) (hT : h'.get? s.heap.objs.size = some { cls := .type "tuple", data := .seq #[.int i tk, u] }) (hel : e < s.heap.objs.size)
    (hk : ∀ b o, b ≠ e → b ≠ it → s.heap.get? b = some o → h'.get? b = some o) (sb : Heap.SameBut e h' h'') :
    Inv X pins σ (upd H s.heap.objs.size (.tup [.int (i : Nat), x])) { s with heap := h'', toks := tk + 1 } := by
  have hT2 : h''.get? s.heap.objs.size = some { cls := .type "tuple", data := .seq #[.int i tk, u] } := (sb.2 _ (Nat.ne_of_gt hel)).trans hT
  have new : ObjOk X.prog X.w (upd H s.heap.objs.size (.tup [.int (i : Nat), x])) h'' s.heap.objs.size (.tup [.int (i : Nat), x]) :=
    ⟨by show 2 ≤ sizeLine; decide, [.int i tk, u], .cons ⟨_, rfl⟩ (.cons ru .nil), ⟨_, hT2, rfl, _, rfl⟩⟩
  exact I.turnedNew (ch := [e, it]) (fun b ob hb q => (sb.2 b (fun z => hb (by simp [z]))).trans (hk b ob (fun z => hb (by simp [z])) (fun z => hb (by simp [z])) q)) hf (Nat.le_refl _) new
theorem two_mem {b e it : Addr} (hb : b ∈ [e, it]) : b = e ∨ b = it := by simpa using hb
/-- over a text -/
theorem turn_enumS {P : Program} {w : World} {K : PySem.W.Frag} {elts : List Expr} {kk : Nat} {tpos : Pos} (x : Str) (t : Tok) (e it : Addr) :
    Turn P w K (.Tuple elts kk tpos) (ItEx ((signs x).map V.str)) [e, it] e (fun i h => (∃ old, IsEnum h e it ((i : Nat) : Int) old) ∧ h.IsStrIter it (strIterType x) x t i ∧ e ≠ it) where
  mem := by simp
  obj := fun i h st b hb => by
    obtain ⟨⟨old, he⟩, ⟨o, ho, hc, hd⟩, _⟩ := st
    rcases two_mem hb with z | z
    · rw [z]; exact ⟨_, he, fun v q => nomatch q⟩
    · rw [z]; exact ⟨o, ho, fun v q => by rw [hd] at q; cases q⟩
  keep := fun i h h' st k => let ⟨⟨old, he⟩, hi, hne⟩ := st; ⟨⟨old, k e (by simp) _ he⟩, by obtain ⟨o, q1, q2, q3⟩ := hi; exact ⟨o, k it (by simp) _ q1, q2, q3⟩, hne⟩
  item := by
    intro X hP hw hK hc i pins s σ H E I hf st hg
    subst hP hw hK
    obtain ⟨⟨old, he⟩, hit, hne⟩ := st
    have hel : e < s.heap.objs.size := Heap.lt_size he
    have hil : it < s.heap.objs.size := by obtain ⟨_, q, _⟩ := hit; exact Heap.lt_size q
    have hlen : i < x.cps.size := by
      have : i < ((signs x).map V.str).length := hg
      simpa [signs] using this
    refine wpAny_pyNext_enum_itemD (Draws.text (A := X.A.in1) (I.ok.hd hc) it x t) he hit hlen hne (by simpa using hne) fun u h' tk hP ho hit' hT hsz hk => ?_
    obtain ⟨c, tk2, hcx, rfl⟩ := hP
    refine ⟨_, rfl, wpAny_letOwnedTupleGo_enum (s := { s with heap := h', toks := tk + 1 }) ho fun h'' he' sb => ?_⟩
    have hx : ((signs x).map V.str)[i]? = some (.str (sg c)) := by simp [signs, hcx]
    have I1 := enum_turn_ok (x := .str (sg c)) I hf ⟨tk2, rfl⟩ hT hel hk sb
    refine ⟨.ref s.heap.objs.size, _, I1, rfl, ⟨_, .str (sg c), rfl, I.hok.fresh (Nat.le_refl _), rfl, hx⟩, ⟨⟨Value.str ⟨#[c]⟩ tk2, ?_⟩, by obtain ⟨o, q1, q2, q3⟩ := hit'; exact ⟨o, (sb.2 it (Ne.symm hne)).trans q1, q2, q3⟩, hne⟩, fun b hb => ?_⟩
    · have e1 : ((i + 1 : Nat) : Int) = (i : Int) + 1 := by omega
      rw [e1]; exact he'
    · have hb' : b < s.heap.objs.size := by
        rcases two_mem hb with z | z
        · rw [z]; exact hel
        · rw [z]; exact hil
      rw [upd_ne (Nat.ne_of_lt hb')]
      exact (hf b hb).1
  done := by
    intro X hP hw hK hc i pins s σ H E I hf st hg
    subst hP hw hK
    obtain ⟨⟨old, he⟩, hit, hne⟩ := st
    obtain ⟨f0, f1, f2, f3, f4, f5⟩ := hf it (by simp)
    have hle : x.cps.size ≤ i := by
      have : ((signs x).map V.str).length ≤ i := hg
      simpa [signs] using this
    by_cases hi : i = x.cps.size
    · subst hi
      exact wpAny_pyNext_enum_endD (Draws.text (A := X.A.in1) (I.ok.hd hc) it x t) he hit fun h' eb => ⟨rfl, I.turned (t' := s.toks) (fun b o hb q => eb b o hb q) f0 f1 f3 f4 f5⟩
    · have D0 := Draws.text (prog := X.prog) (w := X.w) (A := X.A.in1) (I.ok.hd hc) it x t
      have D1 : Draws X.prog X.w X.A.in1 it [it] i (fun _ _ => False) (fun j h => j = i ∧ h.IsStrIter it (strIterType x) x t i) :=
        { live := fun j h st => D0.live i h st.2
          frame := fun j h h' st k => ⟨st.1, D0.frame i h h' st.2 k⟩
          item := fun j s Q E hj st => absurd st.1 (Nat.ne_of_lt hj)
          done := fun s Q E st hE => by
            have hq := st.2
            cases ha : x.cps.all (· < 128)
            · have et : strIterType x = "str_iterator" := by simp [strIterType, ha]
              rw [et] at hq
              exact wpAny_nextOf_wide_end (I.ok.hd hc) hq (Array.getElem?_eq_none hle) hE
            · have et : strIterType x = "str_ascii_iterator" := by simp [strIterType, ha]
              rw [et] at hq
              exact wpAny_nextOf_ascii_end (I.ok.hd hc) hq (Array.getElem?_eq_none hle) hE }
      exact wpAny_pyNext_enum_endD D1 he ⟨rfl, hit⟩ fun h' eb => ⟨rfl, I.turned (t' := s.toks) (fun b o hb q => eb b o hb q) f0 f1 f3 f4 f5⟩
  self := fun A i s Q E st h => let ⟨⟨_, he⟩, _⟩ := st; wpAny_pyIter_enum he h
def iEnumS (ta : TA) : TI := fun σ H R => ta σ H fun vs H1 => ∃ x : Str, vs = [.str x] ∧ R (ItEx ((signs x).map V.str)) H1
theorem pi_enumS {X : Cx} {e : Expr} {ta : TA} {p pos tpos : Pos} {elts : List Expr} {kk : Nat} (hg : Gl X "enumerate") (hm : X.mg "enumerate" = none) (ha : PA X [e] ta) (hs : starEach [e] X.env = [(false, eval e X.env)] := by rfl) :
    PI X (.Tuple elts kk tpos) (.Call (.Name "enumerate" p) [e] [] pos) (iEnumS ta) := by
  refine ⟨fun pins s σ H R I h => ?_⟩
  refine Call_ (ld_blt I hg hm boot_enumerate (PyProof.Rows.callWith_type1 (thn (ha.run pos pins s σ H _ I h) fun us s1 ⟨vs, H1, I1, r1, q1⟩ => ?_) hs rfl))
  obtain ⟨x, ex, q⟩ := q1
  subst ex
  obtain ⟨u, eu, rx⟩ := vals1 r1
  subst eu
  obtain ⟨t, rfl⟩ := rx
  refine enum_one (begins_text x t) trivial fun h' he hit hsz hk => wpAny_pyIter_enum he ?_
  have I2 : Inv X pins σ H1 { s1 with heap := h' } := I1.kept (t' := s1.toks) hk
  refine ⟨s1.heap.objs.size + 1, [s1.heap.objs.size + 1, s1.heap.objs.size], _, _, H1, rfl, I2, turn_enumS x t (s1.heap.objs.size + 1) s1.heap.objs.size, ⟨⟨.none, he⟩, ⟨_, hit, rfl, rfl⟩, Nat.succ_ne_self _⟩, fun b hb => ?_, q⟩
  have hle : s1.heap.objs.size ≤ b := by
    rcases two_mem hb with z | z
    · rw [z]; exact Nat.le_add_right _ _
    · rw [z]; exact Nat.le_refl _
  exact I1.fpOk hle (I1.hok.fresh hle)
/-- the tuple at a, each item in a new pair -/
def ItEt (K : PySem.W.Frag) (a : Addr) : It :=
  ⟨fun i H => ∃ (xs : List V) (x : V), SqT K H a xs ∧ xs[i]? = some x, fun i H v H' => ∃ T x, v = .ref T ∧ H T = none ∧ H' = upd H T (.tup [.int (i : Nat), x]) ∧ ∀ xs, SqT K H a xs → xs[i]? = some x, fun i H => ∃ xs : List V, SqT K H a xs ∧ xs.length = i⟩
theorem turn_enumT {P : Program} {w : World} {K : PySem.W.Frag} {elts : List Expr} {kk : Nat} {tpos : Pos} (a e it : Addr) :
    Turn P w K (.Tuple elts kk tpos) (ItEt K a) [e, it] e (fun i h => (∃ old, IsEnum h e it ((i : Nat) : Int) old) ∧ h.IsTupleIter it a i ∧ e ≠ it ∧ a ≠ e ∧ a ≠ it) where
  mem := by simp
  obj := fun i h st b hb => by
    obtain ⟨⟨old, he⟩, ⟨o, ho, hc, hd⟩, _⟩ := st
    rcases two_mem hb with z | z
    · rw [z]; exact ⟨_, he, fun v q => nomatch q⟩
    · rw [z]; exact ⟨o, ho, fun v q => by rw [hd] at q; cases q⟩
  keep := fun i h h' st k => let ⟨⟨old, he⟩, hi, hne⟩ := st; ⟨⟨old, k e (by simp) _ he⟩, hi.at fun o q => k it (by simp) o q, hne⟩
  item := by
    intro X hP hw hK hc i pins s σ H E I hf st hg
    subst hP hw hK
    obtain ⟨⟨old, he⟩, hit, hne, hae, hai⟩ := st
    obtain ⟨xs, x, hq, hx⟩ := hg
    obtain ⟨its, rv, p, hz⟩ := I.tuple hq
    obtain ⟨u0, hu0, ru0⟩ := rv.get hx
    have hel : e < s.heap.objs.size := Heap.lt_size he
    have hil : it < s.heap.objs.size := by obtain ⟨_, q, _⟩ := hit; exact Heap.lt_size q
    have hlt : i < its.toArray.size := by simpa using (List.getElem?_eq_some_iff.mp hu0).1
    refine wpAny_pyNext_enum_itemD (Draws.tuple (A := X.A.in1) (I.ok.hd hc) it a hai its.toArray) he ⟨hit, p⟩ hlt hne (by simp [hne, Ne.symm hae]) fun u h' tk hP ho hst' hT hsz hk => ?_
    have eu : u0 = u := by
      have : its.toArray[i]? = some u := hP
      have h2 : its[i]? = some u := by simpa using this
      exact Option.some.inj (hu0.symm.trans h2)
    subst eu
    refine ⟨_, rfl, wpAny_letOwnedTupleGo_enum (s := { s with heap := h', toks := tk + 1 }) ho fun h'' he' sb => ?_⟩
    have I1 := enum_turn_ok (x := x) I hf ru0 hT hel hk sb
    refine ⟨.ref s.heap.objs.size, _, I1, rfl, ⟨_, x, rfl, I.hok.fresh (Nat.le_refl _), rfl, fun ys hy => by rw [I.tuple_inj hy hq]; exact hx⟩, ⟨⟨u0, ?_⟩, hst'.1.at fun o q => (sb.2 it (Ne.symm hne)).trans q, hne, hae, hai⟩, fun b hb => ?_⟩
    · have e1 : ((i + 1 : Nat) : Int) = (i : Int) + 1 := by omega
      rw [e1]; exact he'
    · have hb' : b < s.heap.objs.size := by
        rcases two_mem hb with z | z
        · rw [z]; exact hel
        · rw [z]; exact hil
      rw [upd_ne (Nat.ne_of_lt hb')]
      exact (hf b hb).1
  done := by
    intro X hP hw hK hc i pins s σ H E I hf st hg
    subst hP hw hK
    obtain ⟨⟨old, he⟩, hit, hne, hae, hai⟩ := st
    obtain ⟨xs, hq, hx⟩ := hg
    obtain ⟨its, rv, p, hz⟩ := I.tuple hq
    obtain ⟨f0, f1, f2, f3, f4, f5⟩ := hf it (by simp)
    have hl := rv.length
    have hsz : its.toArray.size = i := by
      have : its.toArray.size = its.length := by simp
      omega
    subst hsz
    exact wpAny_pyNext_enum_endD (Draws.tuple (A := X.A.in1) (I.ok.hd hc) it a hai its.toArray) he ⟨hit, p⟩ fun h' eb => ⟨rfl, I.turned (t' := s.toks) (fun b o hb q => eb b o hb q) f0 f1 f3 f4 f5⟩
  self := fun A i s Q E st h => let ⟨⟨_, he⟩, _⟩ := st; wpAny_pyIter_enum he h
def iEnumT (K : PySem.W.Frag) (ta : TA) : TI := fun σ H R => ta σ H fun vs H1 => ∃ a xs, vs = [.ref a] ∧ SqT K H1 a xs ∧ R (ItEt K a) H1
theorem pi_enumT {X : Cx} {e : Expr} {ta : TA} {p pos tpos : Pos} {elts : List Expr} {kk : Nat} (hg : Gl X "enumerate") (hm : X.mg "enumerate" = none) (ha : PA X [e] ta) (hs : starEach [e] X.env = [(false, eval e X.env)] := by rfl) :
    PI X (.Tuple elts kk tpos) (.Call (.Name "enumerate" p) [e] [] pos) (iEnumT X.K ta) := by
  refine ⟨fun pins s σ H R I h => ?_⟩
  refine Call_ (ld_blt I hg hm boot_enumerate (PyProof.Rows.callWith_type1 (thn (ha.run pos pins s σ H _ I h) fun us s1 ⟨vs, H1, I1, r1, q1⟩ => ?_) hs rfl))
  obtain ⟨a, xs, ex, hq, q⟩ := q1
  subst ex
  obtain ⟨u, eu, rx⟩ := vals1 r1
  subst eu
  cases rx
  obtain ⟨its, rv, p', hz⟩ := I1.tuple hq
  have hal : a < s1.heap.objs.size := p'.lt
  refine enum_one (begins_tuple a its.toArray) p' fun h' he hit hsz hk => wpAny_pyIter_enum he ?_
  have I2 : Inv X pins σ H1 { s1 with heap := h' } := I1.kept (t' := s1.toks) hk
  refine ⟨s1.heap.objs.size + 1, [s1.heap.objs.size + 1, s1.heap.objs.size], _, _, H1, rfl, I2, turn_enumT a (s1.heap.objs.size + 1) s1.heap.objs.size, ⟨⟨.none, he⟩, ⟨_, hit, rfl, rfl⟩, Nat.succ_ne_self _, Nat.ne_of_lt (Nat.lt_succ_of_lt hal), Nat.ne_of_lt hal⟩, fun b hb => ?_, q⟩
  have hle : s1.heap.objs.size ≤ b := by
    rcases two_mem hb with z | z
    · rw [z]; exact Nat.le_add_right _ _
    · rw [z]; exact Nat.le_refl _
  exact I1.fpOk hle (I1.hok.fresh hle)
end OWK
end
section
/-! Sets of texts: set(list), sorted(set). -/
namespace OWK
open PySem PySem.Spec PyProof.Rows L2
def FineE (w : World) (e : Int × Value) : Prop := ∃ x tk, e.2 = Value.str x tk ∧ e.1 = hashStr w x
def txOf (e : Int × Value) : Str := match e.2 with | .str x _ => x | _ => ⟨#[]⟩
theorem txOf_str {hh : Int} {x : Str} {t : Tok} : txOf (hh, .str x t) = x := rfl
/-- at a stands a set of the texts of l -/
def SetS (w : World) (h : Heap) (a : Addr) (l : List Str) : Prop :=
  ∃ o es ep t, h.get? a = some o ∧ o.ExactSet ∧ o.data = .set es ep t ∧ (∀ e ∈ es.toList, FineE w e) ∧ (es.toList.map txOf).Nodup ∧ (∀ x, x ∈ es.toList.map txOf ↔ x ∈ l) ∧
    es.size < scanBound ∧ t.fits es.size = true ∧ Ris t.place.toList ∧ (w.params.followText "set-order" = true ∨ t.led = true)
section
variable {P : Program} {w : World} {A : Around} {E : Value → Shared → Prop} {s : Shared} {a : Addr}
theorem fine_elems {l : List (Int × Value)} (g : ∀ e ∈ l, FineE w e) : ElemsOf (PySem.strKind P w) l := fun e he => by
  obtain ⟨x, tk, e1, e2⟩ := g e he
  exact ⟨⟨x, by rw [e1]; simp [PySem.strKind, Value.isStrOf], e2⟩, by rw [e1]; rfl⟩
theorem fine_is {e : Int × Value} (g : FineE w e) (x : Str) : (PySem.strKind P w).is x e.2 = true ↔ txOf e = x := by
  obtain ⟨y, tk, e1, _⟩ := g
  have e3 : txOf e = y := by unfold txOf; rw [e1]
  rw [e3, e1]
  constructor
  · intro h
    obtain ⟨t, q⟩ := Value.isStrOf_shape (x := x) (v := .str y tk) h
    injection q with q1 _
  · intro h; subst h; simp [PySem.strKind, Value.isStrOf]
theorem SetS.keep {h h' : Heap} {l : List Str} (R : SetS w h a l) (k : ∀ o, h.get? a = some o → h'.get? a = some o) : SetS w h' a l := by
  obtain ⟨o, es, ep, t, q, r⟩ := R
  exact ⟨o, es, ep, t, k o q, r⟩
/-- the tail of add: the table is stored, and laid anew where it is too full -/
theorem setS_tail {g : Bool → Sem Unit} (hg : ∀ (b : Bool) (s₁ : Shared) (Q' : Unit → Shared → Prop), Q' () s₁ → wpAny (model P w) A (g b) Q' E s₁)
    {o : Obj} {es : Array (Int × Value)} {ep : Nat} {t : SetTable} (ho : s.heap.get? a = some o) (hex : o.ExactSet) (hd : o.data = .set es ep t)
    {es1 : Array (Int × Value)} {t2 : SetTable} {l : List Str} (g1 : ∀ e ∈ es1.toList, FineE w e) (nd1 : (es1.toList.map txOf).Nodup) (m1 : ∀ x, x ∈ es1.toList.map txOf ↔ x ∈ l)
    (hb1 : es1.size < scanBound) (hf2 : t2.fits es1.size = true) (hr : Ris t2.place.toList) (hl : w.params.followText "set-order" = true ∨ t2.led = true) {wd : Bool} {R : Option Bool → Shared → Prop}
    (hR : ∀ h', Heap.SameBut a s.heap h' → SetS w h' a l → R (some true) { s with heap := h' }) :
    wpAny (model P w) A (do
        storeSet a es1 t2
        if (!wd && t2.tooFull) = true then do
            g (relayAll t2 es1 (SetTable.grown es1.size)).2.2
            storeSet a (relayAll t2 es1 (SetTable.grown es1.size)).1 (relayAll t2 es1 (SetTable.grown es1.size)).2.1
            pure (some true)
          else pure (some true)) R E s := by
  refine wpAny_bind (wpAny_storeSet_of ho hd ?_ (fits_of_scanBound hb1))
  have q1 := store_at (es' := es1) (t' := t2) ho hd
  have b1 := Heap.SameBut.update s.heap a (Obj.putSet es1 t2)
  split
  · have p1 := relayAll_perm t2 es1 (SetTable.grown es1.size)
    have p2 := relayAll_fits t2 es1 (SetTable.grown es1.size)
    have p3 := relayAll_ris t2 es1 (SetTable.grown es1.size)
    have p4 := relayAll_led t2 es1 (SetTable.grown es1.size)
    generalize relayAll t2 es1 (SetTable.grown es1.size) = Z at p1 p2 p3 p4 ⊢
    obtain ⟨es2, t3, gv⟩ := Z
    dsimp only at p1 p2 p3 p4 ⊢
    have z2 : es2.size = es1.size := by rw [← Array.length_toList, p1.length_eq, Array.length_toList]
    refine wpAny_bind (hg _ _ _ ?_)
    refine wpAny_bind (wpAny_storeSet_of q1 rfl ?_ (fits_of_scanBound (by rw [z2]; exact hb1)))
    have q2 := store_at (es' := es2) (t' := t3) q1 rfl
    refine wpAny_pure (hR _ (b1.trans (Heap.SameBut.update _ a _)) ?_)
    exact ⟨_, es2, _, t3, q2, hex, rfl, fun e he => g1 e (p1.mem_iff.mp he), (p1.map txOf).nodup_iff.mpr nd1, fun x => (p1.map txOf).mem_iff.trans (m1 x), by rw [z2]; exact hb1, p2, p3, hl.imp id fun z => by rw [p4]; exact z⟩
  · exact wpAny_pure (hR _ b1 ⟨_, es1, _, t2, q1, hex, rfl, g1, nd1, m1, hb1, hf2, hr, hl⟩)
/-- a text is added, its hash at hand -/
theorem setS_add {x : Str} {tk : Tok} {l : List Str} {Q : Bool → Shared → Prop} (R : SetS w s.heap a l) (room : l.length + 1 < scanBound)
    (hQ : ∀ b h', Heap.SameBut a s.heap h' → SetS w h' a (l ++ [x]) → Q b { s with heap := h' }) :
    wpAny (model P w) A (setAddHashed a (.str x tk) (hashStr w x)) Q E s := by
  obtain ⟨o, es, ep, t, ho, hex, hd, g, nd, hm, hb, hf, hr, hl⟩ := R
  have hkey : (PySem.strKind P w).is x (.str x tk) = true := by simp [PySem.strKind, Value.isStrOf]
  have hsc : (Value.str x tk).scannable = true := rfl
  have hel : ElemsOf (PySem.strKind P w) es.toList := fine_elems g
  have hsz0 : es.size ≤ l.length := by
    have h1 := OW.sub_len nd fun y hy => (hm y).mp hy
    rwa [List.length_map, Array.length_toList] at h1
  show wpAny (model P w) A (setAddHashed a (.str x tk) ((PySem.strKind P w).hash x)) Q E s
  unfold setAddHashed setAddHashedIn
  refine wpAny_holding (wpAny_bind (wpAny_setState_of ho hd hf ?_))
  dsimp only
  rw [byScan_of hsc hb hel]
  simp only [↓reduceIte]
  unfold setAddByScan
  refine wpAny_bind ?_
  refine wpAny_bind (wpAny_rule ?_)
  refine wpAny_bind (wpAny_setScan_of hkey ho hd hf hel ?_)
  cases hfi : List.findIdx? (fun e => (PySem.strKind P w).is x e.2) es.toList with
  | some j =>
    dsimp only
    obtain ⟨hj, pj, _⟩ := List.findIdx?_eq_some_iff_getElem.mp hfi
    have hin : x ∈ l := (hm x).mp (List.mem_map.mpr ⟨es.toList[j], List.getElem_mem hj, (fine_is (P := P) (g _ (List.getElem_mem hj)) x).mp pj⟩)
    refine wpAny_pure (wpAny_pure ?_)
    exact hQ _ s.heap (Heap.SameBut.refl a s.heap) ⟨o, es, ep, t, ho, hex, hd, g, nd, fun y => by
      rw [hm y, List.mem_append, List.mem_singleton]
      exact ⟨.inl, fun z => z.elim id fun e => e ▸ hin⟩, hb, hf, hr, hl⟩
  | none =>
    dsimp only
    have hnk : x ∉ es.toList.map txOf := fun z => by
      obtain ⟨e, he, q⟩ := List.mem_map.mp z
      have c := List.findIdx?_eq_none_iff.mp hfi e he
      rw [(fine_is (P := P) (g e he) x).mpr q] at c
      cases c
    have hgw : ∀ (b : Bool) {s₁ : Shared} {Q' : Unit → Shared → Prop}, Q' () s₁ → wpAny (model P w) A (match b with | true => rule "set.scan.the-table-gave-way" | false => pure ()) Q' E s₁ :=
      fun b s₁ Q' q => by cases b <;> first | exact wpAny_pure q | exact wpAny_rule q
    have p1 := layNew_perm t es ((PySem.strKind P w).hash x) (.str x tk)
    have p2 := layNew_fits t es ((PySem.strKind P w).hash x) (.str x tk)
    have p3 := layNew_ris t es ((PySem.strKind P w).hash x) (.str x tk) hr
    have p4 := layNew_led t es ((PySem.strKind P w).hash x) (.str x tk)
    generalize layNew t es ((PySem.strKind P w).hash x) (.str x tk) = Z at p1 p2 p3 p4 ⊢
    obtain ⟨es1, t1, wd, gv⟩ := Z
    dsimp only at p1 p2 p3 p4 ⊢
    rw [Array.toList_push] at p1
    have pc : es1.toList.Perm (((PySem.strKind P w).hash x, Value.str x tk) :: es.toList) := p1.trans (List.perm_append_singleton _ _)
    have pk : (es1.toList.map txOf).Perm (x :: es.toList.map txOf) := pc.map txOf
    have g1 : ∀ e ∈ es1.toList, FineE w e := fun e he => by
      rcases List.mem_cons.mp (pc.mem_iff.mp he) with z | z
      · rw [z]; exact ⟨x, tk, rfl, rfl⟩
      · exact g e z
    have nd1 : (es1.toList.map txOf).Nodup := pk.nodup_iff.mpr (List.nodup_cons.mpr ⟨hnk, nd⟩)
    have m1 : ∀ y, y ∈ es1.toList.map txOf ↔ y ∈ l ++ [x] := fun y => by
      rw [pk.mem_iff, List.mem_cons, List.mem_append, List.mem_singleton, hm y]
      exact Or.comm
    have hsz : es1.size = es.size + 1 := by rw [← Array.length_toList, pc.length_eq, List.length_cons, Array.length_toList]
    have hb1 : es1.size < scanBound := by omega
    have hled : w.params.followText "set-order" = true ∨ t1.led = true := hl.imp id fun z => by rw [p4]; exact z
    refine wpAny_bind (hgw _ ?_)
    split
    · refine wpAny_bind ?_
      rw [hashByValue_scannable 8 hsc]
      refine wpAny_pure ?_
      refine setS_tail ?_ ho hex hd g1 nd1 m1 hb1 ?_ ?_ ?_ ?_
      · intro b s₁ Q' q; cases b <;> first | exact wpAny_pure q | exact wpAny_rule q
      · first | (split <;> first | exact p2 | exact SetTable.fits_plain_off p2) | exact p2
      · first | (split <;> exact p3) | exact p3
      · first | (split <;> exact hled) | exact hled
      · intro h' sb r; dsimp only; exact wpAny_pure (hQ _ h' sb r)
    · refine wpAny_bind (wpAny_pure ?_)
      simp only [↓reduceIte]
      refine setS_tail ?_ ho hex hd g1 nd1 m1 hb1 p2 p3 hled ?_
      · intro b s₁ Q' q; cases b <;> first | exact wpAny_pure q | exact wpAny_rule q
      · intro h' sb r; dsimp only; exact wpAny_pure (hQ _ h' sb r)
theorem setS_new {h : Heap} {a : Addr} (ho : h.get? a = some { cls := .type "set", dict := none, data := .set #[] 0 (.fresh 0 0 (!w.params.followText "set-order")) }) : SetS w h a [] :=
  ⟨_, #[], 0, _, ho, ⟨rfl, rfl, rfl⟩, rfl, (fun e he => by cases he), List.Pairwise.nil, (fun x => Iff.rfl), (by show 0 < scanBound; decide), rfl, List.Pairwise.nil, by
    cases e : w.params.followText "set-order"
    · exact .inr rfl
    · exact .inl rfl⟩
end
end OWK
end
section
namespace OWK
open PySem PySem.Spec PyProof.Rows L2
section
variable {P : Program} {w : World} {A : Around} {E : Value → Shared → Prop} {s : Shared}
theorem setS_loop {I : Addr} {fp wr : List Addr} {G : Array GenState → Array GenState → Prop} {n : Nat} {Pv : Nat → Value → Prop} {Stt : Nat → Shared → Prop} {R : Result → Shared → Prop}
    (W : WalksS P w A.in1 I fp wr G n Pv Stt) (a : Addr) (haf : a ∉ fp) (ks : List Str) (hn : n = ks.length) (hfew : ks.length + 1 < scanBound) (hval : ∀ i v, Pv i v → ∃ x t, ks[i]? = some x ∧ v = .str x t) :
    ∀ (k i : Nat) (s : Shared), n - i = k → i ≤ n → Stt i s → SetS w s.heap a (ks.take i) →
      (∀ s', Moved (a :: wr) G s s' → SetS w s'.heap a ks → R (.ok (.ret .none)) s') →
      codeAny (model P w) A (.builtin "set.update.loop" ⟨[.ref a, .ref I], []⟩) R s := by
  have haw : a ∉ wr := fun h => haf (W.sub _ h)
  have hsub : ∀ b ∈ wr, b ∈ a :: wr := fun b hb => List.mem_cons_of_mem _ hb
  intro k
  induction k with
  | zero =>
    intro i s hk hi hst hS hR
    have hin : i = n := by omega
    subst hin
    refine codeAny_builtin F.entry_set_update_loop ?_
    rw [Around.under_plainId F.plain_set_update_loop _]
    show wpAny _ A.in1 (pyNext (.ref I) >>= _) _ _ s
    refine wpAny_bind (W.done s _ _ hst fun s' hm => ?_)
    show wpAny _ A.in1 (ret Value.none) _ _ s'
    rw [hn, List.take_length] at hS
    exact wpAny_pure (hR s' (hm.mono hsub) (hS.keep fun o e => hm.heap a o haw e))
  | succ k ih =>
    intro i s hk hi hst hS hR
    have hlt : i < n := by omega
    refine codeAny_builtin F.entry_set_update_loop ?_
    rw [Around.under_plainId F.plain_set_update_loop _]
    show wpAny _ A.in1 (pyNext (.ref I) >>= _) _ _ s
    refine wpAny_bind (W.item i s _ _ hlt hst fun v s' hP hst' hm => ?_)
    obtain ⟨x, t, hx, rfl⟩ := hval i v hP
    have hS' : SetS w s'.heap a (ks.take i) := hS.keep fun o e => hm.heap a o haw e
    show wpAny _ A.in1 (holding [Value.str x t] (setAdd a (.str x t)) >>= _) _ _ s'
    refine wpAny_bind (wpAny_holding ?_)
    unfold setAdd
    refine wpAny_holding ?_
    refine wpAny_bind (wpAny_pyHash_str ?_)
    have hroom : (ks.take i).length + 1 < scanBound := by rw [List.length_take]; omega
    refine setS_add (s := { s' with toks := s'.toks + 1 }) hS' hroom fun b h' sb hS2 => ?_
    have e2 : ks.take i ++ [x] = ks.take (i + 1) := by rw [List.take_add_one, hx]; rfl
    rw [e2] at hS2
    refine wpAny_pure ⟨plainId_quiet F.plain_set_update_loop _, ih (i + 1) _ (by omega) hlt (W.frame _ s' _ _ hst' (Nat.le_succ _) fun c hc o e => ?_) hS2 fun s'' hm2 hS3 => ?_⟩
    · rw [sb.2 c (fun h : c = a => haf (by rw [← h]; exact hc))]; exact e
    · refine hR s'' (Moved.trans W.gtrans ((hm.mono hsub).then_heap (Nat.le_succ _) fun c o hc e => ?_) hm2) hS3
      rw [sb.2 c (fun h : c = a => hc (by rw [h]; exact List.mem_cons_self))]; exact e
abbrev freshSet (w : World) : Obj := { cls := .type "set", dict := none, data := .set #[] 0 (.fresh 0 0 (!w.params.followText "set-order")) }
set_option maxRecDepth 100000 in
set_option maxHeartbeats 3200000 in
theorem call_set_strs {l : Addr} {items : Array Value} (ks : List Str) {Q : Value → Shared → Prop} (hh : A.handled = none) (hl : s.heap.IsList l items) (hit : PySem.W.EachIs AnyS items.toList ks) (hfew : ks.length + 1 < scanBound)
    (h : ∀ (h' : Heap) (tk : Nat), SetS w h' s.heap.objs.size ks → (∀ b o, s.heap.get? b = some o → h'.get? b = some o) → Q (.ref s.heap.objs.size) { s with heap := h', toks := tk }) :
    wpAny (model P w) A (call (.type "set") [.ref l]) Q E s := by
  have hisz : items.size = ks.length := by rw [← Array.length_toList]; exact hit.length
  obtain ⟨c, tl, hmro⟩ := F.called_set.mro
  have hmade := F.called_set.made
  have hsub := F.called_set.sub
  refine wpAny_call (codeAny_of_tree ?_)
  show wpAny _ _ (callAny (.type "set") _) _ _ _
  refine wpAny_pure ⟨Code.quiet_builtin _ (by decide +kernel), codeAny_builtin F.entry_type_call ?_⟩
  rw [Around.under_plain (weight_type_call_type "set" [.ref l] []) rfl]
  have h1 := F.called_set.notType
  have h2 := F.called_set.canCreate
  have hct := F.typeCall_set_1 (.ref l)
  repeat (any_goals (first | assumption | wp_step))
  refine codeAny_mono (code_set_led1 (.ref l) (E := E) (Q₁ := fun obj s₁ => obj = .ref s.heap.objs.size ∧ s₁ = { s with heap := s.heap.push (freshSet w) }) ⟨rfl, rfl⟩) fun r s₁ hr => ?_
  cases r with
  | error e => exact hr
  | ok fl =>
    cases fl with
    | ret obj =>
      obtain ⟨rfl, rfl⟩ := hr
      have hS : (s.heap.push (freshSet w)).get? s.heap.objs.size = some (freshSet w) := Heap.get?_push_size _ rfl
      have hT : Shared.TypeIs { s with heap := s.heap.push (freshSet w) } (.ref s.heap.objs.size) "set" := ⟨_, hS, rfl⟩
      have hli := F.called_set.init.lookup
      have hbi := F.called_set.init.bind (.ref s.heap.objs.size)
      repeat (any_goals (first | assumption | wp_step))
      refine codeAny_mono (codeAny_call_builtin (R := wants (fun r s₂ => r = .none ∧ ∃ h' tk, s₂ = { s with heap := h', toks := tk } ∧ SetS w h' s.heap.objs.size ks ∧ (∀ b o, s.heap.get? b = some o → h'.get? b = some o)) E) F.called_set.init.plain F.entry_set_init (check_set_init_1 hT ?_)) fun r₂ s₂ hr₂ => ?_
      · obtain ⟨ol, hol, hcl, nl, hdl⟩ := hl
        obtain ⟨ocls, odict, odata, oslots⟩ := ol
        simp only at hcl hdl
        subst hcl; subst hdl
        have hol' : (s.heap.push (freshSet w)).get? l = some { cls := .type "list", dict := odict, data := .seq items nl, slots := oslots } := Heap.get?_push_of_some _ hol
        have hsls := F.sub_list_set
        have hslf := F.sub_list_frozenset
        have hne : (Value.type "list" == Value.type "dict") = false := by decide
        have hl1 : (s.heap.push (freshSet w)).IsList l items := ⟨_, hol', rfl, nl, rfl⟩
        unfold Builtin.«set.__init__» noKeywords Builtin.Frozenset.updateFrom
        generalize hPI : pyIter = PI
        wp_walk
        subst hPI
        refine wpAny_pyIter_list hl1 ?_
        refine wpAny_bind (wpAny_runValue ?_)
        have hlS : l < s.heap.objs.size := Heap.lt_size hol
        have hh3 : A.in1.in1.in1.handled = none := by simp [hh]
        have hneI : l ≠ (s.heap.push (freshSet w)).objs.size := by
          rw [Heap.size_push]; exact Nat.ne_of_lt (Nat.lt_succ_of_lt hlS)
        have hSf : s.heap.objs.size ∉ [(s.heap.push (freshSet w)).objs.size, l] := by
          rw [Heap.size_push]; simp only [List.mem_cons, List.mem_singleton, List.not_mem_nil, or_false, not_or]
          exact ⟨Nat.ne_of_lt (Nat.lt_succ_self _), Nat.ne_of_gt hlS⟩
        have hval : ∀ (i : Nat) (v : Value), items[i]? = some v → ∃ x t, ks[i]? = some x ∧ v = .str x t := fun i v hv => by
          have q : items.toList[i]? = some v := by rw [Array.getElem?_toList]; exact hv
          obtain ⟨u, e1, e2⟩ := (each_vals hit).get (i := i) (x := ((ks.map V.str)[i]?).getD V.non) (by
            have hi : i < (ks.map V.str).length := by
              rw [List.length_map, ← hit.length]
              exact (List.getElem?_eq_some_iff.mp q).1
            rw [List.getElem?_eq_getElem hi]; rfl)
          have hi : i < ks.length := by
            rw [← hit.length]
            exact (List.getElem?_eq_some_iff.mp q).1
          rw [List.getElem?_map, List.getElem?_eq_getElem hi] at e2
          have e3 : u = v := Option.some.inj (e1.symm.trans q)
          subst e3
          obtain ⟨t, e4⟩ := e2
          exact ⟨ks[i], t, List.getElem?_eq_getElem hi, e4⟩
        refine setS_loop ((Walks.list hh3 _ l hneI items).toS) s.heap.objs.size hSf ks hisz hfew hval (items.size - 0) 0 _ (by omega) (Nat.zero_le _)
          ⟨⟨_, Heap.get?_push_size _ rfl, rfl, rfl⟩, (hl1.push _)⟩ ?hS0 ?hR
        case hS0 => exact setS_new (Heap.get?_push_of_some _ hS)
        case hR =>
          intro s' hm hS'
          have hkp : ∀ b o, s.heap.get? b = some o → s'.heap.get? b = some o := fun b o e => hm.heap b o (fun hb => by
            have hlt := Heap.lt_size e
            rcases List.mem_cons.mp hb with z | z
            · exact absurd hlt (by rw [z]; exact Nat.lt_irrefl _)
            · rw [List.mem_singleton.mp z, Heap.size_push] at hlt
              exact absurd hlt (Nat.not_lt.mpr (Nat.le_succ _))) (Heap.get?_push_of_some _ (Heap.get?_push_of_some _ e))
          obtain ⟨h', g2, d', tk', os'⟩ := s'
          have eg : g2 = s.gens := hm.gens
          have ed : d' = s.drawn := hm.drawn
          have eo : os' = s.os := hm.os
          subst eg; subst ed; subst eo
          show wpAny _ _ _ _ _ _
          refine wpAny_pure ?_
          show wpAny _ _ (ret Value.none) _ _ _
          exact wpAny_pure ⟨rfl, h', tk', rfl, hS', hkp⟩
      · cases r₂ with
        | error e => exact hr₂
        | ok fl₂ =>
          cases fl₂ with
          | ret r =>
            obtain ⟨rfl, h', tk, rfl, hS', hk'⟩ := hr₂
            repeat (any_goals (first | assumption | wp_step))
            exact h _ _ hS' hk'
          | _ => exact hr₂.elim
    | _ => exact hr.elim
end
end OWK
end
section
namespace OWK
open PySem PySem.Spec PyProof.Rows L2
/-! ### the order of texts -/
theorem leS_trans (a b c : Str) (h : leS a b = true) (h2 : leS b c = true) : leS a c = true := by
  unfold leS at *
  rw [decide_eq_true_eq] at *
  exact List.le_trans h h2
theorem leS_total (a b : Str) : (leS a b || leS b a) = true := by
  unfold leS
  rw [Bool.or_eq_true, decide_eq_true_eq, decide_eq_true_eq]
  exact List.le_total _ _
theorem leS_anti {a b : Str} (h : leS a b = true) (h2 : leS b a = true) : a = b := by
  unfold leS at *
  rw [decide_eq_true_eq] at *
  exact PySem.W.str_of_cps (List.le_antisymm h h2)
theorem sortS_sorted (xs : List Str) : (sortS xs).Pairwise fun a b => leS a b = true := List.pairwise_mergeSort leS_trans leS_total _
theorem sortS_perm (xs : List Str) : (sortS xs).Perm xs := List.mergeSort_perm _ _
theorem sortS_one {xs ys : List Str} (p : ys.Perm xs) (h : ys.Pairwise fun a b => leS a b = true) : ys = sortS xs :=
  OW.sorted_one (le := fun a b => leS a b = true) (fun _ _ => leS_anti) (p.trans (sortS_perm xs).symm) h (sortS_sorted xs)
/-- the same members, none twice: the same row -/
theorem sortS_same {xs ys : List Str} (nx : xs.Nodup) (ny : ys.Nodup) (h : ∀ x, x ∈ xs ↔ x ∈ ys) : sortS xs = sortS ys :=
  (sortS_one ((sortS_perm xs).trans ((List.perm_ext_iff_of_nodup nx ny).mpr h)) (sortS_sorted xs))
/-! ### the layer's rules -/
def vTx (v : Value) : Str := match v with | .str x _ => x | _ => ⟨#[]⟩
theorem each_vtx : ∀ out : List Value, (∀ v ∈ out, ∃ x tk, v = .str x tk) → PySem.W.EachIs AnyS out (out.map vTx)
  | [], _ => .nil
  | v :: vs, h => by
    obtain ⟨x, tk, e⟩ := h v List.mem_cons_self
    exact .cons ⟨tk, by rw [e]; rfl⟩ (each_vtx vs fun u hu => h u (List.mem_cons_of_mem _ hu))
def SetSO (w : World) (a : Addr) (l : List Str) : HO := .ext fun h => SetS w h a l
section
variable {X : Cx}
def rSetS (K : PySem.W.Frag) (w : World) : List V → Hp → VK → Prop := fun xs H Q => ∃ (l : Addr) (ks : List Str), xs = [.ref l] ∧ SqL K H l (ks.map V.str) ∧ ks.length ≤ 1000 ∧ ∀ a, H a = none → Q (.ref a) (upd H a (SetSO w a ks))
theorem cr_setS (hc : X.calm = true) : CallR X (.type "set") (rSetS X.K X.w) := by
  intro pins s σ H xs us Q I r h
  obtain ⟨l, ks, ex, hl, hf, q⟩ := h
  subst ex
  obtain ⟨u, eu, rx⟩ := vals1 r
  subst eu
  cases rx
  obtain ⟨its, rv, p, hz⟩ := I.list hl
  refine call_set_strs (P := X.prog) ks (I.ok.hd hc) p.isList (vals_each rv) (by show ks.length + 1 < 4096; omega) fun h' tk hS k => ?_
  have hlt : s.heap.objs.size < h'.objs.size := by obtain ⟨o, _, _, _, e, _⟩ := hS; exact Heap.lt_size e
  refine ⟨.ref _, upd H s.heap.objs.size (SetSO X.w s.heap.objs.size ks), I.laid (t' := tk) k (Nat.le_refl _) ⟨hS, ?_, fun h1 h2 q1 q2 => SetS.keep q1 q2⟩, rfl, q _ (I.hok.fresh (Nat.le_refl _))⟩
  obtain ⟨o, _, _, _, e, _⟩ := hS
  exact ⟨o, e⟩
def rSortSet (w : World) : List V → Hp → VK → Prop := fun xs H Q => ∃ (a : Addr) (l : List Str), xs = [.ref a] ∧ H a = some (SetSO w a l) ∧ l.length ≤ 1000 ∧ ∀ (ks : List Str) p, ks.Nodup → (∀ x, x ∈ ks ↔ x ∈ l) → H p = none → Q (.ref p) (upd H p (.lst ((sortS ks).map V.str)))
theorem cr_sortSet (hc : X.calm = true) (hu : X.A.units + 3 < cLine) : CallR X (.builtin "sorted") (rSortSet X.w) := by
  intro pins s σ H xs us Q I r h
  obtain ⟨a, l, ex, ha, hlen, q⟩ := h
  subst ex
  obtain ⟨u, eu, rx⟩ := vals1 r
  subst eu
  cases rx
  have R : SetS X.w s.heap a l := (I.hok a _ ha).1
  obtain ⟨o, es, ep, t, ho, hex, hd, g, nd, hm, hb, hf, hr, hl⟩ := R
  refine sorted_gatherE (R := AnyS) hu (fun _ _ h => h) (C := fun out s' => (∀ b o, s.heap.get? b = some o → s'.heap.get? b = some o) ∧ s'.gens = s.gens ∧ s'.os = s.os ∧ out.Perm (es.toList.map (·.2)))
    (collect_set (A := X.A.in1) (I.ok.hd hc) ⟨o, ho, hex.1, hd⟩ hf hb hr hl fun s' out k _ g1 o1 pm => ⟨k, g1, o1, pm⟩) fun out s' ⟨k, g1, o1, pm⟩ => ?_
  have hv : ∀ v ∈ out, ∃ x tk, v = .str x tk := fun v hv => by
    obtain ⟨e, he, e2⟩ := List.mem_map.mp (pm.mem_iff.mp hv)
    obtain ⟨x, tk, q1, _⟩ := g e he
    exact ⟨x, tk, by rw [← e2, q1]⟩
  have pk : (out.map vTx).Perm (es.toList.map txOf) := by
    have := pm.map vTx
    rw [List.map_map] at this
    have e : (vTx ∘ fun e : Int × Value => e.2) = txOf := rfl
    rwa [e] at this
  have hk1 : (out.map vTx).Nodup := pk.nodup_iff.mpr nd
  have hk2 : ∀ x, x ∈ out.map vTx ↔ x ∈ l := fun x => pk.mem_iff.trans (hm x)
  have hsz : (out.map vTx).length ≤ sizeLine := by
    have h1 := OW.sub_len hk1 fun y hy => (hk2 y).mp hy
    rw [sizeLine_eq]
    omega
  refine ⟨out.map vTx, hsz, ?_, fun out2 ep2 h'' e2 he k2 => ?_⟩
  · exact each_vtx out hv
  · obtain ⟨hp, gs, dr, tk, os⟩ := s'
    dsimp only at k g1 o1 k2 he
    subst g1 o1
    have I1 := I.call' (s' := { heap := hp, gens := s.gens, drawn := dr, toks := tk, os := s.os }) (ch := []) rfl (Un.kept k) (I.hok.kept k) I.bare (fun _ z => nomatch z)
    exact ⟨.ref _, upd H hp.objs.size (.lst ((sortS (out.map vTx)).map V.str)), I1.laid (t' := tk) k2 (Nat.le_refl _) (out_ok e2 he (by rw [sortS_len]; exact hsz)), rfl, q _ _ hk1 hk2 (I1.hok.fresh (Nat.le_refl _))⟩
end
end OWK
end
section
/-! The text by places; words, companies, what a def keeps. -/
namespace OWP
open PySem PySem.Spec PyProof.Rows L2 OWK
def topS (i : Nat) : Stmt := PySem.Challenge.pw_oncewords_k48_whole_names.main.body.getD i (.Pass ⟨0, 0, 0, 0⟩)
abbrev sWhole : Stmt := topS 9
abbrev sWithin : Stmt := topS 10
abbrev sTupleOf : Stmt := topS 11
abbrev sNeedCompany : Stmt := topS 12
abbrev sIsSet : Stmt := topS 13
abbrev sFriends : Stmt := topS 14
abbrev sLeast : Stmt := topS 15
abbrev sFirst : Stmt := topS 16
abbrev sIsKind : Stmt := topS 17
abbrev sNeedKind : Stmt := topS 18
abbrev sImage : Stmt := topS 20
abbrev sNeedNames : Stmt := topS 21
abbrev sRenamedOf : Stmt := topS 22
abbrev sRenamed : Stmt := topS 23
abbrev sOwnOf : Stmt := topS 24
abbrev sFits : Stmt := topS 25
abbrev sOwn : Stmt := topS 26
abbrev sAlike : Stmt := topS 27
abbrev sLeastName : Stmt := topS 28
abbrev lTaken : Stmt := topS 30
abbrev lPairs : Stmt := topS 31
abbrev lCompany : Stmt := topS 32
abbrev lOrders : Stmt := topS 33
abbrev lFirsts : Stmt := topS 34
abbrev lFriend : Stmt := topS 35
abbrev lKind : Stmt := topS 36
abbrev lWord : Stmt := topS 37
abbrev lDrawn : Stmt := topS 38
abbrev lPick : Stmt := topS 39
abbrev lAlike : Stmt := topS 40
abbrev lRenamed : Stmt := topS 41
abbrev lMoved : Stmt := topS 42
abbrev lLaw : Stmt := topS 43
/-! ### what a def keeps -/
def DefAt (K : PySem.W.Frag) (mg : Str → Option Value) (x : Str) (st : Stmt) : Prop := ∃ f fd, mg x = some (.ref f) ∧ Fun K x x st f fd
def OkAt (P : Program) (w : World) (K : PySem.W.Frag) (mg : Str → Option Value) (base : Heap) (k : Nat) (x : Str) (ps : List Str) (sp : Sp) : Prop :=
  ∃ f fd, mg x = some (.ref f) ∧ PySem.W.keepIn K (.ref f) = true ∧ Binds K fd ps [] ∧ FnOk P w K mg base CX0 k f fd ps sp
/-- the built-ins' names are free in the module -/
structure Free (mg : Str → Option Value) : Prop where
  isinstance : mg "isinstance" = none
  int : mg "int" = none
  bool : mg "bool" = none
  str : mg "str" = none
  tuple : mg "tuple" = none
  list : mg "list" = none
  len : mg "len" = none
  enumerate : mg "enumerate" = none
  all : mg "all" = none
  range : mg "range" = none
  sorted : mg "sorted" = none
  min : mg "min" = none
  max : mg "max" = none
  set : mg "set" = none
  alpha : ∃ t, mg "ALPHABET" = some (.str "abcdefg" t)
  most : ∃ t, mg "MOST_LETTERS" = some (.int 7 t)
/-! ### words -/
def tx (w : OW.Wd) : Str := ⟨(w.map (· + 97)).toArray⟩
theorem tx_list (w : OW.Wd) : (tx w).cps.toList = w.map (· + 97) := rfl
theorem tx_len (w : OW.Wd) : (tx w).length = w.length := by
  show (tx w).cps.size = _
  rw [← Array.length_toList, tx_list, List.length_map]
theorem tx_size (w : OW.Wd) : (tx w).cps.size = w.length := tx_len w
theorem tx_inj {w v : OW.Wd} (h : tx w = tx v) : w = v := by
  have e : (tx w).cps.toList = (tx v).cps.toList := by rw [h]
  rw [tx_list, tx_list] at e
  exact List.map_inj_right (fun x y q => Nat.add_right_cancel q) |>.mp e
theorem tx_nil : tx [] = "" := rfl
theorem sg_tx (i : Nat) : sg (i + 97) = tx [i] := rfl
theorem signs_tx (w : OW.Wd) : OWK.signs (tx w) = w.map fun i => tx [i] := by
  unfold OWK.signs
  rw [tx_list, List.map_map]
  rfl
theorem str_ext {x y : Str} (h : x.cps.toList = y.cps.toList) : x = y := PySem.W.str_of_cps h
theorem alphabet_tx : ("abcdefg" : Str) = tx (List.range 7) := by decide +kernel
theorem letter_tx {i : Nat} (h : i < 7) : (tx (List.range 7)).cps[i]? = some (i + 97) := by
  rw [← Array.getElem?_toList, tx_list, List.getElem?_map, List.getElem?_range h]
  rfl
theorem tx_append (w v : OW.Wd) : tx w ++ tx v = tx (w ++ v) := by
  apply str_ext
  rw [tx_list, List.map_append]
  show ((tx w).cps ++ (tx v).cps).toList = _
  rw [Array.toList_append, tx_list, tx_list]
/-! ### heaps -/
theorem sameUp {H H' : Hp} {p : Addr} {o : HO} (s : Same H H') (h : H p = none) : Same H (upd H' p o) := fun b x e => by
  rw [upd_ne (ne_of_none e h)]
  exact s b x e
theorem sameNew {H : Hp} {p : Addr} {o : HO} (h : H p = none) : Same H (upd H p o) := sameUp (Same.refl H) h
/-- the pairs of friends, tuples at ps -/
def PairsAt (H : Hp) (ps : List Addr) (F : OW.Fs) : Prop := Paired (fun p (f : Nat × Nat) => H p = some (.tup [.int f.1, .int f.2])) ps F
def CoAt (H : Hp) (a : Addr) (n : Nat) (F : OW.Fs) : Prop := ∃ b ps, H a = some (.tup [.int n, .ref b]) ∧ H b = some (.tup (ps.map V.ref)) ∧ PairsAt H ps F
theorem PairsAt.keep {H H' : Hp} (s : Same H H') {ps : List Addr} {F : OW.Fs} (h : PairsAt H ps F) : PairsAt H' ps F := Paired.mapP h fun p f e => s _ _ e
theorem CoAt.keep {H H' : Hp} (s : Same H H') {a : Addr} {n : Nat} {F : OW.Fs} (h : CoAt H a n F) : CoAt H' a n F := by
  obtain ⟨b, ps, e1, e2, e3⟩ := h
  exact ⟨b, ps, s _ _ e1, s _ _ e2, e3.keep s⟩
theorem PairsAt.len {H : Hp} {ps : List Addr} {F : OW.Fs} (h : PairsAt H ps F) : ps.length = F.length := Paired.length h
theorem PairsAt.get {H : Hp} : ∀ {ps : List Addr} {F : OW.Fs}, PairsAt H ps F → ∀ (i : Nat) (f : Nat × Nat), F[i]? = some f → ∃ p, ps[i]? = some p ∧ H p = some (.tup [.int f.1, .int f.2])
  | _, _, .cons h t, 0, f, e => by
    have e' : _ = f := Option.some.inj e
    subst e'
    exact ⟨_, rfl, h⟩
  | _, _, .cons _ t, i + 1, f, e => by
    obtain ⟨p, e1, h1⟩ := PairsAt.get t i f (by simpa using e)
    exact ⟨p, by simpa using e1, h1⟩
/-! ### isinstance, shortly -/
theorem isiQ {K : PySem.W.Frag} {H : Hp} {x : V} {T t : String} {b : Bool} {Q : VK} (ty : TyX K H x (.type t)) (e : kitB t T = some b) (q : Q (.bl b) H) : rIsi K [x, .ty T] H Q :=
  ⟨x, .ty T, .type t, .type T, b, rfl, .ty T, ty, kit_ty e, q⟩
section
variable {P : Program} {w : World} {K : PySem.W.Frag} {mg : Str → Option Value} {base : Heap}
/-! ### whole, within, tuple_of -/
def spWhole : Sp := fun vs H Q _ => ∃ i : Int, vs = [.int i] ∧ Q (.bl true) H
theorem scWhole : FnScope ["value"] ["value"] (defScope sWhole) := ⟨rfl, rfl, rfl, by decide +kernel, rfl, by decide +kernel, by decide +kernel⟩
theorem ok_whole (D : DefAt K mg "whole" sWhole) (T : Free mg) : OkAt P w K mg base 1 "whole" ["value"] spWhole := by
  obtain ⟨f, fd, g, F⟩ := D
  refine ⟨f, fd, g, F.kp, F.binds (ps := ["value"]) (fun _ _ _ _ _ _ us hl => match us, hl with | [_], _ => rfl), ?_⟩
  refine F.ok scWhole (fun vs H Q E h => ?_) (fun cdv A outer s H vs Q E hr h => ?_)
  · obtain ⟨i, rfl, _⟩ := h
    rfl
  · obtain ⟨i, rfl, q⟩ := h
    refine ⟨_, pss_one (ps_ret (pe_and (pe_callB call_isi (by rfl) T.isinstance (by decide +kernel) (pa_cons (pv 0) (pa_cons (pe_bltn (v := .ty "int") (by rfl) T.int (by decide +kernel) rfl) pa_nil)))
      (pe_one (pe_not (pe_callB call_isi (by rfl) T.isinstance (by decide +kernel) (pa_cons (pv 0) (pa_cons (pe_bltn (v := .ty "bool") (by rfl) T.bool (by decide +kernel) rfl) pa_nil))))))), ?_⟩
    refine ⟨_, rfl, _, _, _, _, true, rfl, .ty _, .base (.int i), kit_ty (by decide +kernel), true, rfl, iteT ?_⟩
    exact ⟨_, rfl, _, _, _, _, false, rfl, .ty _, .base (.int i), kit_ty (by decide +kernel), false, rfl, q⟩
def spWithin : Sp := fun vs H Q _ => ∃ i lo hi : Int, vs = [.int i, .int lo, .int hi] ∧ lo ≤ i ∧ i ≤ hi ∧ Q (.bl true) H
theorem scWithin : FnScope ["value", "low", "high"] ["value", "low", "high"] (defScope sWithin) := ⟨rfl, rfl, rfl, by decide +kernel, rfl, by decide +kernel, by decide +kernel⟩
theorem ok_within (D : DefAt K mg "within" sWithin) (O : OkAt P w K mg base 1 "whole" ["value"] spWhole) : OkAt P w K mg base 2 "within" ["value", "low", "high"] spWithin := by
  obtain ⟨f, fd, g, F⟩ := D
  obtain ⟨f1, fd1, g1, k1, b1, G1⟩ := O
  refine ⟨f, fd, g, F.kp, F.binds (ps := ["value", "low", "high"]) (fun _ _ _ _ _ _ us hl => match us, hl with | [_, _, _], _ => rfl), ?_⟩
  refine F.ok scWithin (fun vs H Q E h => ?_) (fun cdv A outer s H vs Q E hr h => ?_)
  · obtain ⟨i, lo, hi, rfl, _⟩ := h
    rfl
  · obtain ⟨i, lo, hi, rfl, h1, h2, q⟩ := h
    refine ⟨_, pss_one (ps_ret (pe_and (pe_call G1 hr (by rfl) g1 k1 b1 .nil pass0 (pa_cons (pv 0) pa_nil)) (pe_one (pe_chain op_le op_le (pv 1) (pv 0) (pv 2))))), ?_⟩
    refine ⟨_, rfl, i, rfl, true, rfl, iteT ?_⟩
    refine ⟨_, rfl, _, rfl, _, _, rfl, rfl, true, ?_, iteT ⟨_, rfl, _, _, rfl, rfl, ?_⟩⟩
    · show V.bl (decide (lo ≤ i)) = V.bl true
      rw [decide_eq_true h1]
    · show Q (V.bl (decide (i ≤ hi))) H
      rw [decide_eq_true h2]; exact q
def spTupleOf : Sp := fun vs H Q _ => ∃ (a : Addr) (xs : List V) (lo hi : Int), vs = [.ref a, .int lo, .int hi] ∧ H a = some (.tup xs) ∧ lo ≤ xs.length ∧ (xs.length : Int) ≤ hi ∧ Q (.bl true) H
theorem scTupleOf : FnScope ["value", "low", "high"] ["value", "low", "high"] (defScope sTupleOf) := ⟨rfl, rfl, rfl, by decide +kernel, rfl, by decide +kernel, by decide +kernel⟩
theorem ok_tupleOf (D : DefAt K mg "tuple_of" sTupleOf) (T : Free mg) : OkAt P w K mg base 1 "tuple_of" ["value", "low", "high"] spTupleOf := by
  obtain ⟨f, fd, g, F⟩ := D
  refine ⟨f, fd, g, F.kp, F.binds (ps := ["value", "low", "high"]) (fun _ _ _ _ _ _ us hl => match us, hl with | [_, _, _], _ => rfl), ?_⟩
  refine F.ok scTupleOf (fun vs H Q E h => ?_) (fun cdv A outer s H vs Q E hr h => ?_)
  · obtain ⟨a, xs, lo, hi, rfl, _⟩ := h
    rfl
  · obtain ⟨a, xs, lo, hi, rfl, ha, h1, h2, q⟩ := h
    refine ⟨_, pss_one (ps_ret (pe_and (pe_callB call_isi (by rfl) T.isinstance (by decide +kernel) (pa_cons (pv 0) (pa_cons (pe_bltn (v := .ty "tuple") (by rfl) T.tuple (by decide +kernel) rfl) pa_nil)))
      (pe_one (pe_chain op_le op_le (pv 1) (pe_callB call_len_seq (by rfl) T.len PySem.boot_len (pa_cons (pv 0) pa_nil)) (pv 2))))), ?_⟩
    refine ⟨_, rfl, _, _, _, _, true, rfl, .ty _, .base (.tup ha), kit_ty (by decide +kernel), true, rfl, iteT ?_⟩
    refine ⟨_, rfl, _, rfl, a, xs, rfl, .inr (SqT.of ha), _, _, rfl, rfl, true, ?_, iteT ⟨_, rfl, _, _, rfl, rfl, ?_⟩⟩
    · show V.bl (decide (lo ≤ (xs.length : Int))) = V.bl true
      rw [decide_eq_true h1]
    · show Q (V.bl (decide ((xs.length : Int) ≤ hi))) H
      rw [decide_eq_true h2]; exact q
end
end OWP
end
section
/-! Loops over anything: the turns counted. -/
namespace OWP
open PySem PySem.Spec PyProof.Rows L2 OWK
theorem for_gen {J : It} {n : Nat} {g : TG} {tb : TS} {D : Ends} {σ : L2.St} {H : Hp} (Pv : Nat → L2.St → Hp → Prop) (h0 : Pv 0 σ H) (hgo : ∀ i σ H, i < n → Pv i σ H → J.go i H) (hst : ∀ σ H, Pv n σ H → J.stop n H)
    (hs : ∀ i x σ H H', i < n → Pv i σ H → J.yld i H x H' → g x σ H' fun σ2 H2 => tb { D with nx := Pv (i + 1), ct := Pv (i + 1), bk := D.nx } σ2 H2) (hd : ∀ σ H, Pv n σ H → D.nx σ H) :
    ∃ W : Nat → Nat → L2.St → Hp → Prop, (∃ m, W 0 m σ H) ∧ ∀ i m σ H, W i m σ H →
      (J.stop i H ∧ D.nx σ H) ∨ (J.go i H ∧ ∃ N : L2.St → Hp → Prop, (∀ σ' H', N σ' H' → ∃ m', m' < m ∧ W (i + 1) m' σ' H') ∧ ∀ x H', J.yld i H x H' → g x σ H' fun σ2 H2 => tb { D with nx := N, ct := N, bk := D.nx } σ2 H2) := by
  refine ⟨fun i m σ H => m + i = n ∧ Pv i σ H, ⟨n, rfl, h0⟩, ?_⟩
  rintro i m σ H ⟨e, p⟩
  by_cases hlt : i < n
  · exact .inr ⟨hgo i σ H hlt p, Pv (i + 1), fun σ' H' p' => ⟨m - 1, by omega, by omega, p'⟩, fun x H' y => hs i x σ H H' hlt p y⟩
  · have e' : i = n := by omega
    subst e'
    exact .inl ⟨hst σ H p, hd σ H p⟩
theorem lc_gen {J : It} {n : Nat} {g : TG} {tt : TT} {te : TE} {vs : List Nat} {σ : L2.St} {H1 : Hp} {D : Addr} {Qd : Hp → Prop} (Pv : Nat → Hp → Prop) (h0 : Pv 0 (upd H1 D (.lst []))) (hgo : ∀ i H, i < n → Pv i H → J.go i H) (hst : ∀ H, Pv n H → J.stop n H)
    (hs : ∀ i x H H', i < n → Pv i H → J.yld i H x H' → g x (wipe σ vs) H' fun σ2 H2 => wipe σ2 vs = wipe σ vs ∧ tt σ2 H2 fun b H3 =>
      if b = true then te σ2 H3 fun y H4 => ∃ acc, H4 D = some (.lst acc) ∧ acc.length < sizeLine ∧ Pv (i + 1) (upd H4 D (.lst (acc ++ [y]))) else Pv (i + 1) H3) (hd : ∀ H, Pv n H → Qd H) :
    ∃ W : Nat → Nat → Hp → Prop, (∃ m, W 0 m (upd H1 D (.lst []))) ∧ ∀ i m H, W i m H →
      (J.stop i H ∧ Qd H) ∨ (J.go i H ∧ ∃ Nx : Hp → Prop, (∀ H', Nx H' → ∃ m', m' < m ∧ W (i + 1) m' H') ∧ ∀ x H', J.yld i H x H' → g x (wipe σ vs) H' fun σ2 H2 => wipe σ2 vs = wipe σ vs ∧ tt σ2 H2 fun b H3 =>
        if b = true then te σ2 H3 fun y H4 => ∃ acc, H4 D = some (.lst acc) ∧ acc.length < sizeLine ∧ Nx (upd H4 D (.lst (acc ++ [y]))) else Nx H3) := by
  refine ⟨fun i m H => m + i = n ∧ Pv i H, ⟨n, rfl, h0⟩, ?_⟩
  rintro i m H ⟨e, p⟩
  by_cases hlt : i < n
  · exact .inr ⟨hgo i H hlt p, Pv (i + 1), fun H' p' => ⟨m - 1, by omega, by omega, p'⟩, fun x H' y => hs i x H H' hlt p y⟩
  · have e' : i = n := by omega
    subst e'
    exact .inl ⟨hst H p, hd H p⟩
theorem lcin_gen {J : It} {n : Nat} {g : TG} {tt : TT} {te : TE} {vs1 : List Nat} {σ2 : L2.St} {H1 : Hp} {D : Addr} {Qd : Hp → Prop} (Pv : Nat → Hp → Prop) (h0 : Pv 0 H1) (hgo : ∀ i H, i < n → Pv i H → J.go i H) (hst : ∀ H, Pv n H → J.stop n H)
    (hs : ∀ i x H H', i < n → Pv i H → J.yld i H x H' → g x (wipe σ2 vs1) H' fun σ3 H5 => wipe σ3 vs1 = wipe σ2 vs1 ∧ tt σ3 H5 fun b H6 =>
        if b = true then te σ3 H6 fun y H7 => ∃ acc, H7 D = some (.lst acc) ∧ acc.length < sizeLine ∧ Pv (i + 1) (upd H7 D (.lst (acc ++ [y]))) else Pv (i + 1) H6) (hd : ∀ H, Pv n H → Qd H) :
    ∃ W1 : Nat → Nat → Hp → Prop, (∃ m, W1 0 m H1) ∧ ∀ j k H, W1 j k H →
      (J.stop j H ∧ Qd H) ∨ (J.go j H ∧ ∃ Nx1 : Hp → Prop, (∀ H', Nx1 H' → ∃ k', k' < k ∧ W1 (j + 1) k' H') ∧ ∀ x H', J.yld j H x H' → g x (wipe σ2 vs1) H' fun σ3 H5 => wipe σ3 vs1 = wipe σ2 vs1 ∧ tt σ3 H5 fun b H6 =>
        if b = true then te σ3 H6 fun y H7 => ∃ acc, H7 D = some (.lst acc) ∧ acc.length < sizeLine ∧ Nx1 (upd H7 D (.lst (acc ++ [y]))) else Nx1 H6) := by
  refine ⟨fun i m H => m + i = n ∧ Pv i H, ⟨n, rfl, h0⟩, ?_⟩
  rintro i m H ⟨e, p⟩
  by_cases hlt : i < n
  · exact .inr ⟨hgo i H hlt p, Pv (i + 1), fun H' p' => ⟨m - 1, by omega, by omega, p'⟩, fun x H' y => hs i x H H' hlt p y⟩
  · have e' : i = n := by omega
    subst e'
    exact .inl ⟨hst H p, hd H p⟩
theorem dc_gen {J : It} {n : Nat} {g : TG} {tt : TT} {tk tv : TE} {vs : List Nat} {σ : L2.St} {H1 : Hp} {D : Addr} {Qd : Hp → Prop} (Pv : Nat → Hp → Prop) (h0 : Pv 0 (upd H1 D (.dK []))) (hgo : ∀ i H, i < n → Pv i H → J.go i H) (hst : ∀ H, Pv n H → J.stop n H)
    (hs : ∀ i x H H', i < n → Pv i H → J.yld i H x H' → g x (wipe σ vs) H' fun σ2 H2 => wipe σ2 vs = wipe σ vs ∧ tt σ2 H2 fun b H3 =>
      if b = true then tk σ2 H3 fun y H4 => tv σ2 H4 fun z H5 => ∃ kvs k, y = kV k ∧ H5 D = some (.dK kvs) ∧ kvs.length < sizeLine ∧ Pv (i + 1) (upd H5 D (.dK (putK kvs k z))) else Pv (i + 1) H3) (hd : ∀ H, Pv n H → Qd H) :
    ∃ W : Nat → Nat → Hp → Prop, (∃ m, W 0 m (upd H1 D (.dK []))) ∧ ∀ i m H, W i m H →
      (J.stop i H ∧ Qd H) ∨ (J.go i H ∧ ∃ Nx : Hp → Prop, (∀ H', Nx H' → ∃ m', m' < m ∧ W (i + 1) m' H') ∧ ∀ x H', J.yld i H x H' → g x (wipe σ vs) H' fun σ2 H2 => wipe σ2 vs = wipe σ vs ∧ tt σ2 H2 fun b H3 =>
        if b = true then tk σ2 H3 fun y H4 => tv σ2 H4 fun z H5 => ∃ kvs k, y = kV k ∧ H5 D = some (.dK kvs) ∧ kvs.length < sizeLine ∧ Nx (upd H5 D (.dK (putK kvs k z))) else Nx H3) := by
  refine ⟨fun i m H => m + i = n ∧ Pv i H, ⟨n, rfl, h0⟩, ?_⟩
  rintro i m H ⟨e, p⟩
  by_cases hlt : i < n
  · exact .inr ⟨hgo i H hlt p, Pv (i + 1), fun H' p' => ⟨m - 1, by omega, by omega, p'⟩, fun x H' y => hs i x H H' hlt p y⟩
  · have e' : i = n := by omega
    subst e'
    exact .inl ⟨hst H p, hd H p⟩
theorem lt_line {n : Nat} (h : n ≤ 100000) : n < sizeLine := by rw [sizeLine_eq]; omega
theorem le_line {n : Nat} (h : n ≤ 100000) : n ≤ sizeLine := by rw [sizeLine_eq]; omega
section
variable {P : Program} {w : World} {K : PySem.W.Frag} {mg : Str → Option Value} {base : Heap}
theorem leT_pairs {p q : Nat × Nat} (h : OW.pLt q p) : Ob.lexAt (fun j => decide (([(p.1 : Int), p.2] : List Int).getD j 0 = ([(q.1 : Int), q.2] : List Int).getD j 0)) (fun j => decide (([(p.1 : Int), p.2] : List Int).getD j 0 ≤ ([(q.1 : Int), q.2] : List Int).getD j 0))
    (decide (([(p.1 : Int), p.2] : List Int).length ≤ ([(q.1 : Int), q.2] : List Int).length)) 0 (min ([(p.1 : Int), p.2] : List Int).length ([(q.1 : Int), q.2] : List Int).length) = false := by
  unfold OW.pLt at h
  show (if decide ((p.1 : Int) = q.1) = true then (if decide ((p.2 : Int) = q.2) = true then _ else decide ((p.2 : Int) ≤ q.2)) else decide ((p.1 : Int) ≤ q.1)) = false
  by_cases e : p.1 = q.1
  · rw [if_pos (decide_eq_true (by omega)), if_neg (by rw [decide_eq_true_eq]; omega)]
    exact decide_eq_false (by omega)
  · rw [if_neg (by rw [decide_eq_true_eq]; omega)]
    exact decide_eq_false (by omega)
end
end OWP
end
section
/-! What each def promises. -/
namespace OWP
open PySem PySem.Spec PyProof.Rows L2 OWK
/-- the friends' dict -/
def nearK (n : Nat) (F : OW.Fs) : List (Key × V) := (List.range n).map fun i => (Sum.inr (tx [i]), V.str (tx (OW.fr F i)))
def NearAt (H : Hp) (d : Addr) (n : Nat) (F : OW.Fs) : Prop := H d = some (.dK (nearK n F))
def wv (r : OW.Wd) : V := V.str (tx r)
/-- data of a company -/
def pD (p : Nat × Nat) : PyData := .tuple [.int p.1, .int p.2]
def coD (n : Nat) (F : OW.Fs) : PyData := .tuple [.int n, .tuple (F.map pD)]
def minOf : List PyData → PyData
  | [] => .none
  | d :: ds => PySem.W.minD d ds
def minCo (n : Nat) (F : OW.Fs) : PyData := minOf ((OW.ord n n).map fun r => coD n (OW.rn F r))
/-- the draws' row -/
def RowAt (H : Hp) (r sc : Addr) : Prop := ∃ i j k : Int, 0 ≤ i ∧ H r = some (.lst [.ref sc, .int i, .int j, .int k])
def ScrAt (K : PySem.W.Frag) (H : Hp) (r sc : Addr) : Prop := ∃ ns : List Int, ns.length ≤ 63 ∧ SqL K H sc (ns.map V.int) ∧ (r ≠ sc ∨ ∀ H', SqL K H' sc (ns.map V.int))
def SameB (r : Addr) (H H' : Hp) : Prop := ∀ b o, b ≠ r → H b = some o → H' b = some o
def allPairs (n : Nat) : OW.Fs := (List.range n).flatMap fun i => (List.range (n - (i + 1))).map fun j => (i, i + 1 + j)
structure CoOk (H : Hp) (a : Addr) (n : Nat) (F : OW.Fs) : Prop where
  at_ : CoAt H a n F
  co : OW.Co n F
  one : 1 ≤ n
  most : n ≤ 5
  few : F.length ≤ 10
def sp_need_company : Sp := fun vs H Q _ => ∃ (a : Addr) (n : Nat) (F : OW.Fs), vs = [.ref a] ∧ CoOk H a n F ∧ ∀ H', Same H H' → Q .non H'
def sp_is_set : Sp := fun vs H Q _ => ∃ (a : Addr) (n : Nat) (F : OW.Fs) (v : OW.Wd), vs = [.ref a, .str (tx v)] ∧ CoOk H a n F ∧ v.Pairwise (· < ·) ∧ (∀ x ∈ v, x < n) ∧ v.length ≤ n ∧ ∀ H', Same H H' → Q (.bl true) H'
def sp_friends_of_all : Sp := fun vs H Q _ => ∃ (a : Addr) (n : Nat) (F : OW.Fs), vs = [.ref a] ∧ CoOk H a n F ∧ ∀ H' d, Same H H' → H d = none → NearAt H' d n F → Q (.ref d) H'
def sp_least_order : Sp := fun vs H Q _ => ∃ (d : Addr) (n : Nat) (F : OW.Fs) (r : OW.Wd), vs = [.ref d, .str (tx r)] ∧ NearAt H d n F ∧ n ≤ 7 ∧ r.Nodup ∧ (∀ x ∈ r, x < n) ∧ ∀ H', Same H H' → Q (.str (tx (OW.kd F r))) H'
def sp_first_stands : Sp := fun vs H Q _ => ∃ v : OW.Wd, vs = [.str (tx v)] ∧ v.length ≤ 1000 ∧ Q (.str (tx (OW.firsts v))) H
def KindOk (n : Nat) (F : OW.Fs) (k : OW.Wd) : Prop := k.Nodup ∧ (∀ x ∈ k, x < n) ∧ OW.kd F k = k
def sp_is_kind : Sp := fun vs H Q _ => ∃ (a : Addr) (n : Nat) (F : OW.Fs) (k : OW.Wd), vs = [.ref a, .str (tx k)] ∧ CoOk H a n F ∧ KindOk n F k ∧ ∀ H', Same H H' → Q (.bl true) H'
def sp_need_kind : Sp := fun vs H Q _ => ∃ (a : Addr) (n : Nat) (F : OW.Fs) (k : OW.Wd), vs = [.ref a, .str (tx k)] ∧ CoOk H a n F ∧ KindOk n F k ∧ ∀ H', Same H H' → Q .non H'
def NamesOk (n : Nat) (t : OW.Wd) : Prop := t.length = n ∧ t.Nodup ∧ ∀ x ∈ t, x < n
def sp_image_of : Sp := fun vs H Q _ => ∃ (d : Addr) (n : Nat) (F : OW.Fs) (t k : OW.Wd), vs = [.ref d, .str (tx t), .str (tx k)] ∧ NearAt H d n F ∧ n ≤ 7 ∧ NamesOk n t ∧ (∀ x ∈ k, x < n) ∧ k.length ≤ 1000 ∧
  ∀ H', Same H H' → Q (.str (tx (OW.kindOf F (OW.move t k)))) H'
def sp_need_names : Sp := fun vs H Q _ => ∃ (a : Addr) (n : Nat) (F : OW.Fs) (t : OW.Wd), vs = [.ref a, .str (tx t)] ∧ CoOk H a n F ∧ NamesOk n t ∧ ∀ H', Same H H' → Q .non H'
def sp_renamed_of : Sp := fun vs H Q _ => ∃ (a : Addr) (n : Nat) (F : OW.Fs) (t : OW.Wd), vs = [.ref a, .str (tx t)] ∧ CoOk H a n F ∧ NamesOk n t ∧ ∀ H' c, Same H H' → CoAt H' c n (OW.rn F t) → Q (.ref c) H'
def sp_own_names_of : Sp := fun vs H Q _ => ∃ (a : Addr) (n : Nat) (F : OW.Fs), vs = [.ref a] ∧ CoOk H a n F ∧ ∀ H' p, Same H H' → H p = none → H' p = some (.lst ((OW.own n F n).map wv)) → Q (.ref p) H'
def sp_fits : Sp := fun vs H Q _ => ∃ (d : Addr) (n : Nat) (F : OW.Fs) (row : OW.Wd) (l s : Nat), vs = [.ref d, .str (tx row), .str (tx [l]), .str (tx [s])] ∧ NearAt H d n F ∧ n ≤ 7 ∧ l < n ∧ s < n ∧ row.length ≤ n ∧
  ∀ H', Same H H' → Q (.bl (OW.fits F row l s)) H'
def sp_alike : Sp := fun vs H Q _ => ∃ (a : Addr) (n : Nat) (F : OW.Fs) (k : OW.Wd), vs = [.ref a, .str (tx k)] ∧ CoOk H a n F ∧ KindOk n F k ∧
  ∀ H' p (ks : List Str), Same H H' → ks.Nodup → (∀ x, x ∈ ks ↔ x ∈ (OW.own n F n).map fun t => tx (OW.kindOf F (OW.move t k))) → H' p = some (.lst ((sortS ks).map V.str)) → Q (.ref p) H'
def sp_least_name : Sp := fun vs H Q _ => ∃ (a : Addr) (n : Nat) (F : OW.Fs), vs = [.ref a] ∧ CoOk H a n F ∧ ∀ H' c G, Same H H' → CoAt H' c n G → coD n G = minCo n F → Q (.ref c) H'
def sp_taken (K : PySem.W.Frag) : Sp := fun vs H Q _ => ∃ (r sc : Addr) (m : Nat), vs = [.ref r, .int m] ∧ RowAt H r sc ∧ ScrAt K H r sc ∧ 1 ≤ m ∧ m ≤ 100000 ∧
  ∀ H' (x : Nat), SameB r H H' → RowAt H' r sc → x < m → Q (.int x) H'
def sp_pairs : Sp := fun vs H Q _ => ∃ n : Nat, vs = [.int n] ∧ n ≤ 7 ∧ ∀ H' p ps, Same H H' → H p = none → H' p = some (.lst (ps.map V.ref)) → PairsAt H' ps (allPairs n) → Q (.ref p) H'
def sp_company (K : PySem.W.Frag) : Sp := fun vs H Q _ => ∃ (r sc : Addr), vs = [.ref r, .int 5] ∧ RowAt H r sc ∧ ScrAt K H r sc ∧ ∀ H' c n F, SameB r H H' → RowAt H' r sc → CoOk H' c n F → Q (.ref c) H'
def sp_orders : Sp := fun vs H Q _ => ∃ n : Nat, vs = [.str (tx (List.range n))] ∧ n ≤ 5 ∧ ∀ H' p, Same H H' → H p = none → H' p = some (.lst ((OW.ord n n).map wv)) → Q (.ref p) H'
def sp_firsts : Sp := fun vs H Q _ => ∃ v : OW.Wd, vs = [.str (tx v)] ∧ v.length ≤ 1000 ∧ ∀ H', Same H H' → Q (.str (tx (OW.firsts v))) H'
def sp_friend : Sp := fun vs H Q _ => ∃ (a : Addr) (n : Nat) (F : OW.Fs) (i j : Nat), vs = [.ref a, .str (tx [i]), .str (tx [j])] ∧ CoOk H a n F ∧ i < 7 ∧ j < 7 ∧ i ≠ j ∧ ∀ H', Same H H' → Q (.bl (decide (i ∈ OW.fr F j))) H'
def sp_kind : Sp := fun vs H Q _ => ∃ (a : Addr) (n : Nat) (F : OW.Fs) (v : OW.Wd), vs = [.ref a, .str (tx v)] ∧ CoOk H a n F ∧ (∀ x ∈ v, x < n) ∧ v.length ≤ 1000 ∧ ∀ H', Same H H' → Q (.str (tx (OW.kindOf F v))) H'
def sp_word (K : PySem.W.Frag) : Sp := fun vs H Q _ => ∃ (r sc a : Addr) (n m : Nat) (F : OW.Fs), vs = [.ref r, .ref a, .int m] ∧ RowAt H r sc ∧ ScrAt K H r sc ∧ CoOk H a n F ∧ 1 ≤ m ∧ m ≤ 100 ∧
  ∀ H' (v : OW.Wd), SameB r H H' → RowAt H' r sc → (∀ x ∈ v, x < n) → v.length ≤ 1000 → Q (.str (tx v)) H'
def sp_drawn (K : PySem.W.Frag) : Sp := fun vs H Q _ => ∃ (r sc a : Addr) (n : Nat) (F : OW.Fs), vs = [.ref r, .ref a] ∧ RowAt H r sc ∧ ScrAt K H r sc ∧ CoOk H a n F ∧
  ∀ H' (k : OW.Wd), SameB r H H' → RowAt H' r sc → KindOk n F k → Q (.str (tx k)) H'
def sp_pick (K : PySem.W.Frag) : Sp := fun vs H Q _ => ∃ (r sc p : Addr) (xs : List V), vs = [.ref r, .ref p] ∧ RowAt H r sc ∧ ScrAt K H r sc ∧ H p = some (.lst xs) ∧ p ≠ r ∧ 1 ≤ xs.length ∧ xs.length ≤ 100000 ∧
  ∀ H' x, SameB r H H' → RowAt H' r sc → x ∈ xs → Q x H'
/-- data that the law's comparison goes through: texts, whole numbers, tuples and lists of these, not deeper than k -/
inductive Thru (K : PySem.W.Frag) (H : Hp) : Nat → V → V → Prop
  | int (k : Nat) (i : Int) : Thru K H k (.int i) (.int i)
  | str (k : Nat) (x : Str) : Thru K H k (.str x) (.str x)
  | tup (k : Nat) {a b : Addr} {xs ys : List V} : H a = some (.tup xs) → H b = some (.tup ys) → xs.length = ys.length → xs.length ≤ 10000 → (∀ (i : Nat) x y, xs[i]? = some x → ys[i]? = some y → Thru K H k x y) → Thru K H (k + 1) (.ref a) (.ref b)
  | lst (k : Nat) {a b : Addr} {xs ys : List V} : H a = some (.lst xs) → H b = some (.lst ys) → xs.length = ys.length → xs.length ≤ 10000 → (∀ (i : Nat) x y, xs[i]? = some x → ys[i]? = some y → Thru K H k x y) → Thru K H (k + 1) (.ref a) (.ref b)
def sp_lalike (K : PySem.W.Frag) (k : Nat) : Sp := fun vs H Q _ => ∃ x y : V, vs = [x, y] ∧ Thru K H k x y ∧ ∀ H', Same H H' → Q (.bl true) H'
def sp_lrenamed : Sp := sp_renamed_of
def sp_moved : Sp := fun vs H Q _ => ∃ (a : Addr) (n : Nat) (F : OW.Fs) (t k : OW.Wd), vs = [.ref a, .str (tx t), .str (tx k)] ∧ CoOk H a n F ∧ NamesOk n t ∧ (∀ x ∈ k, x < n) ∧ k.length ≤ 1000 ∧
  ∀ H', Same H H' → Q (.str (tx (OW.kindOf F (OW.move t k)))) H'
def sp_law (K : PySem.W.Frag) : Sp := fun vs H Q _ => ∃ (a : Addr) (ns : List Int), vs = [.ref a] ∧ SqL K H a (ns.map V.int) ∧ ns.length ≤ 63 ∧ ∀ H', Q (.bl true) H'
theorem CoOk.keep {H H' : Hp} (s : Same H H') {a : Addr} {n : Nat} {F : OW.Fs} (h : CoOk H a n F) : CoOk H' a n F := ⟨h.at_.keep s, h.co, h.one, h.most, h.few⟩
theorem NearAt.keep {H H' : Hp} (s : Same H H') {d : Addr} {n : Nat} {F : OW.Fs} (h : NearAt H d n F) : NearAt H' d n F := s _ _ h
end OWP
namespace OWP
open PySem PySem.Spec PyProof.Rows L2 OWK
theorem ru {k : Nat} {A : Around} (hr : Room k A) (j : Nat) (h : j ≤ 200) : A.units + j < cLine := by
  have := hr.un
  omega
end OWP
end
section
/-! The rules with the written part named; a dict comprehension stored to a local. -/
namespace OWP
open PySem PySem.Spec PyProof.Rows L2 OWK
def sp_renamed : Sp := sp_renamed_of
def sp_own_names : Sp := sp_own_names_of
section
variable {X : Cx} {K : PySem.W.Frag}
theorem ix_tupK (h : X.K = K) : IxR X (rIxT K) := h ▸ ix_tup
theorem ix_listK (h : X.K = K) : IxR X (rIxL K) := h ▸ ix_list
theorem op_eqDK (h : X.K = K) (hu : X.A.units + 64 < cLine) : OpR X (compareOp .Eq) (rEqD K) := h ▸ op_eqD hu
theorem cr_sortedK (h : X.K = K) : CallR X (.builtin "sorted") (rSorted K) := h ▸ cr_sorted
def rTupOf (K : PySem.W.Frag) : List V → Hp → VK → Prop := fun xs H Q => ∃ p ys, xs = [.ref p] ∧ ((SqL K H p ys ∧ ∀ l, H l = none → Q (.ref l) (upd H l (.tup ys))) ∨ (SqT K H p ys ∧ Q (.ref p) H))
theorem call_tuple_ofK (h : X.K = K) : CallR X (.type "tuple") (rTupOf K) := by
  subst h
  exact call_tuple_of
def rAllK := rAll
theorem ps_setDc {i : Nat} {y : Str} {py : Pos} {kx vx tg iter : Expr} {ifs : List Expr} {scope : Scope} {own : List (Str × Nat)} {pos spos : Pos} {wi : TI} {g : TG} {tt : TT} {tk tv : TE} (hc : X.calm = true) (hN : X.N.Nodup) (hy : X.N[i]? = some y) (hyl : X.env.scope.names.lookup y = some .local)
    (hsw : swapsWith (.DictComp kx vx [⟨tg, iter, ifs, 0⟩] scope pos) (some (.Name y py)) spos.line X.env = pure true) (hi : PI X tg iter wi) (ok : BlkOk X.N X.env.scope scope own)
    (hg : ∀ (s : Shared) (H : Hp) (C : Addr) (cl : List (Str × Addr)) (fp : List Addr), PG (X.blk s H scope (compEnvC scope cl C X.env) fp) tg g) (ht : ∀ (s : Shared) (H : Hp) (C : Addr) (cl : List (Str × Addr)) (fp : List Addr), PTs (X.blk s H scope (compEnvC scope cl C X.env) fp) ifs tt)
    (hk : ∀ (s : Shared) (H : Hp) (C : Addr) (cl : List (Str × Addr)) (fp : List Addr), PE (X.blk s H scope (compEnvC scope cl C X.env) fp) kx tk)
    (he : ∀ (s : Shared) (H : Hp) (C : Addr) (cl : List (Str × Addr)) (fp : List Addr), PE (X.blk s H scope (compEnvC scope cl C X.env) fp) vx tv) (hs : ∀ x, foldedSetIterable iter X.env x = pure x := by intro _; rfl) :
    PS X (.Assign [.Name y py] (.DictComp kx vx [⟨tg, iter, ifs, 0⟩] scope pos) spos) (tAsg (tDc wi g tt tk tv (own.map (·.2))) (gName i)) := by
  refine ⟨fun pins s σ H D I h => ?_⟩
  rw [exec_Assign_Name_used _ _ _ _ hsw]
  refine wpAny_bind (wpAny_standAt (wpAny_bind ?_))
  show wpAny _ X.A (do let _ ← comprehension (.DictComp kx vx [⟨tg, iter, ifs, 0⟩] scope pos) scope X.env (firstIterPos [⟨tg, iter, ifs, 0⟩] pos) newDict false (eval iter X.env) (some (assign (.Name y py) X.env))) _ _ s
  have hq : tDc wi g tt tk tv (own.map (·.2)) σ H (fun x H1 => gName i x σ H1 D.nx) := h
  refine wpAny_bind (thn (dc_core (Qf := fun _ s' => SP X pins D .next s') hc hN I hi ok hg ht hk he hs hq fun L C s' m H' I' q hn f => ?_) fun _ s' z => wpAny_pure (wpAny_pure z))
  show wpAny _ _ (assign (.Name y py) X.env (.ref L)) _ _ _
  refine wpAny_assign_Name (store_ok2 (v := V.ref L) I' hN hy (.inl hyl) rfl (fun s2 I2 ⟨a, sb, ha⟩ => ?_) (.inr hyl))
  obtain ⟨f0, f1, f2, f3, f4, f5⟩ := f
  have haC : C ≠ a := by
    rcases ha with z | z
    · rw [z]; exact f1
    · exact fun e => f4 y a z e.symm
  refine ⟨m, hn.sameBut sb haC, fun h3 sb3 => ?_⟩
  exact ⟨_, H', I2.turned (t' := s2.toks) (fun b o hb e => (sb3.2 b hb).trans e) f0 f1 f3 f4 f5, q⟩
theorem sw_dict {kx vx : Expr} {gs : List Comprehension} {scope : Scope} {pos py : Pos} {y : Str} {l : Nat} {env : Env} (hk : env.scope.kind = .function) (hy : env.scope.names.lookup y = some .local) (hl : (py.line == pos.line) = true)
    (ha : (scope.names.any fun (n, k) => n == y && (k == .local || k == .cell)) = false) : swapsWith (.DictComp kx vx gs scope pos) (some (.Name y py)) l env = pure true := by
  have ky : env.kindOf y = some .local := hy
  have hb : env.blockKind = .function := by unfold Env.blockKind; rw [hk]; rfl
  unfold swapsWith
  simp only [hb, ky, ha, Expr.pos, hl]
  rfl
end
end OWP
end
section
/-! Small facts about texts and lists that the readings ask. -/
namespace OWP
open PySem PySem.Spec PyProof.Rows L2 OWK
theorem cut_pre (v : OW.Wd) (k : Nat) : cutS (tx v) none (some (k : Int)) = tx (v.take k) := by
  unfold cutS
  rw [HT.sIx_none, HT.sIx_nat, tx_len]
  apply str_ext
  rw [tx_list, tx_list, List.drop_zero, Nat.sub_zero, List.map_take]
  by_cases h : k ≤ v.length
  · rw [Nat.min_eq_left h]
  · rw [Nat.min_eq_right (by omega), List.take_of_length_le (by rw [List.length_map]; exact Nat.le_refl _), List.take_of_length_le (by rw [List.length_map]; omega)]
theorem alpha_cut {n : Nat} (h : n ≤ 7) : cutS "abcdefg" none (some (n : Int)) = tx (List.range n) := by
  rw [alphabet_tx, cut_pre, List.take_range, Nat.min_eq_left h]
theorem alpha_len : (("abcdefg" : Str)).length ≤ sizeLine := by
  rw [alphabet_tx, tx_len]; exact le_line (by decide)
theorem tx_line {v : OW.Wd} (h : v.length ≤ 100000) : (tx v).length ≤ sizeLine := by rw [tx_len]; exact le_line h
theorem tx_at {v : OW.Wd} {i : Nat} (h : i < v.length) : atI (tx v).cps.toList (i : Int) = some (v[i] + 97) := by
  refine atI_nat ?_
  rw [tx_list, List.getElem?_map, List.getElem?_eq_getElem h]
  rfl
theorem alpha_at {i : Nat} (h : i < 7) : atI (("abcdefg" : Str)).cps.toList (i : Int) = some (i + 97) := by
  rw [alphabet_tx, tx_at (by rw [List.length_range]; exact h)]
  rw [List.getElem_range]
theorem lt_sign (a b : Nat) : ((tx [a]).cps.toList < (tx [b]).cps.toList) ↔ a < b := by
  rw [tx_list, tx_list]
  show ([a + 97] : List Nat) < [b + 97] ↔ _
  rw [List.cons_lt_cons_iff]
  simp
theorem all_rep (n : Nat) : (List.replicate n true).all id = true := by
  rw [List.all_eq_true]
  intro x hx
  rw [List.eq_of_mem_replicate hx]; rfl
theorem map_rep (n : Nat) : (List.replicate n true).map V.bl = List.replicate n (V.bl true) := by rw [List.map_replicate]
theorem mem_alpha {c n : Nat} (h : c < n) : c + 97 ∈ (tx (List.range n)).cps.toList := by
  rw [tx_list]
  exact List.mem_map.mpr ⟨c, List.mem_range.mpr h, rfl⟩
theorem mem_tx {c : Nat} {v : OW.Wd} : c + 97 ∈ (tx v).cps.toList ↔ c ∈ v := by
  rw [tx_list]
  simp
theorem dec_mem {c : Nat} {v : OW.Wd} : decide (c + 97 ∈ (tx v).cps.toList) = decide (c ∈ v) := by
  by_cases h : c ∈ v
  · rw [decide_eq_true h, decide_eq_true (mem_tx.mpr h)]
  · rw [decide_eq_false h, decide_eq_false (fun z => h (mem_tx.mp z))]
/-- the place of a letter in a text -/
theorem index_tx {v : OW.Wd} {c i : Nat} (hi : v[i]? = some c) (hf : ∀ k, k < i → v[k]? ≠ some c) : ∃ r, Builtin.Str.occurrences (tx v) (tx [c]) 0 (tx v).length 1 = i :: r := by
  have hat : ∀ k, PySem.StrLaws.At (tx v) (tx [c]) (tx v).length k ↔ v[k]? = some c := fun k => by
    rw [TL.at_iff (by intro q; cases q)]
    show TL.pre [c + 97] ((v.map (· + 97)).drop k) = true ↔ _
    unfold TL.pre
    rw [beq_iff_eq, ← List.map_drop]
    constructor
    · intro h
      cases hd : v.drop k with
      | nil => rw [hd] at h; cases h
      | cons y ys =>
        rw [hd] at h
        have h2 : [y + 97] = [c + 97] := h
        have h3 : y = c := by simpa using h2
        have h4 : (v.drop k)[0]? = some y := by rw [hd]; rfl
        rw [List.getElem?_drop] at h4
        simpa [h3] using h4
    · intro h
      have hk : k < v.length := (List.getElem?_eq_some_iff.mp h).1
      have hv : v[k] = c := (List.getElem?_eq_some_iff.mp h).2
      rw [List.drop_eq_getElem_cons hk, hv]
      rfl
  rcases StrLaws.occ_head (tx v) (tx [c]) 1 (Nat.le_refl _) with ⟨_, h⟩ | ⟨j, r, e, h1, h2⟩
  · exact absurd ((hat i).mpr hi) (h i)
  · have hj : j = i := by
      rcases Nat.lt_trichotomy j i with q | q | q
      · exact absurd ((hat j).mp h1) (hf j q)
      · exact q
      · exact absurd ((hat i).mpr hi) (h2 i q)
    subst hj
    exact ⟨r, e⟩
theorem index_alpha {i : Nat} (h : i < 7) : ∃ r, Builtin.Str.occurrences "abcdefg" (tx [i]) 0 (("abcdefg" : Str)).length 1 = i :: r := by
  rw [alphabet_tx]
  refine index_tx (List.getElem?_range h) fun k hk => ?_
  rw [List.getElem?_range (by omega)]
  intro q
  have := Option.some.inj q
  omega
theorem glue_empty : ∀ (ps : List OW.Wd) (acc : Array Nat), (((ps.map tx).foldl (fun a p => a ++ ("" : Str).cps ++ p.cps) acc)).toList = acc.toList ++ (ps.flatten).map (· + 97)
  | [], acc => by simp
  | p :: ps, acc => by
    rw [List.map_cons, List.foldl_cons, glue_empty ps, List.flatten_cons, List.map_append, ← List.append_assoc]
    congr 1
    rw [Array.toList_append, Array.toList_append, tx_list]
    show acc.toList ++ [] ++ _ = _
    rw [List.append_nil]
theorem join_tx (ps : List OW.Wd) : Txt.join "" (ps.map tx) = tx ps.flatten := by
  apply str_ext
  cases ps with
  | nil => rfl
  | cons p ps =>
    show ((((p :: ps).map tx).drop 1).foldl (fun a q => a ++ ("" : Str).cps ++ q.cps) ((((p :: ps).map tx).headD Str.empty)).cps).toList = _
    rw [List.map_cons, List.drop_one, List.tail_cons, glue_empty, tx_list, List.flatten_cons, List.map_append]
    rfl
theorem join_letters (v : OW.Wd) : Txt.join "" (v.map fun i => tx [i]) = tx v := by
  have h := join_tx (v.map fun i => [i])
  rw [List.map_map] at h
  have e : (v.map fun i => [i]).flatten = v := by
    induction v with
    | nil => rfl
    | cons x xs ih => rw [List.map_cons, List.flatten_cons, ih (by simpa using join_tx (xs.map fun i => [i]))]; rfl
  rw [e] at h
  exact h
theorem sum_ones (v : OW.Wd) : ((v.map fun i => tx [i]).map (·.length)).sum + (v.map fun i => tx [i]).length * (("" : Str)).length = v.length := by
  rw [List.map_map]
  have e : ((fun x : Str => x.length) ∘ fun i => tx [i]) = fun _ => 1 := by
    funext i; exact tx_len [i]
  rw [e]
  show ((v.map fun _ => 1).sum) + _ * 0 = _
  rw [Nat.mul_zero, Nat.add_zero]
  induction v with
  | nil => rfl
  | cons x xs ih => rw [List.map_cons, List.sum_cons, ih, List.length_cons]; omega
/-! ### dicts from letters to words -/
def wd (n : Nat) (g : Nat → OW.Wd) : List (Key × V) := (List.range n).map fun j => (Sum.inr (tx [j]), V.str (tx (g j)))
theorem wd_len (n : Nat) (g : Nat → OW.Wd) : (wd n g).length = n := by unfold wd; rw [List.length_map, List.length_range]
theorem nearK_wd (n : Nat) (F : OW.Fs) : nearK n F = wd n (OW.fr F) := rfl
theorem key_ne {i j : Nat} (h : i ≠ j) : ¬ ((Sum.inr (tx [i]) : Key) = Sum.inr (tx [j])) := fun q => h (by
  have q1 : tx [i] = tx [j] := Sum.inr.inj q
  have q2 := tx_inj q1
  simpa using q2)
theorem valV_wd {n i : Nat} {g : Nat → OW.Wd} (h : i < n) : valV (wd n g) (Sum.inr (tx [i])) = some (.str (tx (g i))) := by
  induction n with
  | zero => omega
  | succ n ih =>
    have e : wd (n + 1) g = wd n g ++ [(Sum.inr (tx [n]), V.str (tx (g n)))] := by unfold wd; rw [List.range_succ, List.map_append]; rfl
    by_cases hi : i < n
    · have h1 := ih hi
      unfold valV at h1 ⊢
      rw [e, List.find?_append]
      cases hf : (wd n g).find? (fun kv => decide (kv.1 = Sum.inr (tx [i]))) with
      | none => rw [hf] at h1; cases h1
      | some kv => rw [hf] at h1; exact h1
    · have hi2 : i = n := by omega
      subst hi2
      unfold valV
      rw [e, List.find?_append]
      have hn : (wd i g).find? (fun kv => decide (kv.1 = Sum.inr (tx [i]))) = none := by
        rw [List.find?_eq_none]
        intro kv hkv
        obtain ⟨j, hj, rfl⟩ := List.mem_map.mp hkv
        rw [decide_eq_true_eq]
        exact key_ne (by have := List.mem_range.mp hj; omega)
      rw [hn]
      rw [Option.none_or]
      simp
theorem putK_wd {n i : Nat} {g : Nat → OW.Wd} {v : OW.Wd} (h : i < n) : putK (wd n g) (Sum.inr (tx [i])) (V.str (tx v)) = wd n fun j => if j = i then v else g j := by
  unfold putK
  have hany : ((wd n g).any fun kv => decide (kv.1 = Sum.inr (tx [i]))) = true := by
    rw [List.any_eq_true]
    exact ⟨(Sum.inr (tx [i]), V.str (tx (g i))), List.mem_map.mpr ⟨i, List.mem_range.mpr h, rfl⟩, decide_eq_true rfl⟩
  rw [if_pos hany]
  unfold wd
  rw [List.map_map]
  refine List.map_congr_left fun j _ => ?_
  show (if (Sum.inr (tx [j]) : Key) = Sum.inr (tx [i]) then _ else _) = _
  by_cases e : j = i
  · subst e
    rw [if_pos rfl]
    show (Sum.inr (tx [j]), V.str (tx v)) = ((Sum.inr (tx [j]) : Key), V.str (tx (if j = j then v else g j)))
    rw [if_pos rfl]
  · rw [if_neg (key_ne e)]
    show (Sum.inr (tx [j]), V.str (tx (g j))) = ((Sum.inr (tx [j]) : Key), V.str (tx (if j = i then v else g j)))
    rw [if_neg e]
theorem putK_new {n : Nat} {g : Nat → OW.Wd} : putK (wd n g) (Sum.inr (tx [n])) (V.str (tx (g n))) = wd (n + 1) g := by
  unfold putK
  have hany : ¬ ((wd n g).any fun kv => decide (kv.1 = Sum.inr (tx [n]))) = true := by
    rw [List.any_eq_true]
    rintro ⟨kv, hkv, q⟩
    obtain ⟨j, hj, rfl⟩ := List.mem_map.mp hkv
    exact key_ne (by have := List.mem_range.mp hj; omega) (of_decide_eq_true q)
  rw [if_neg hany]
  unfold wd
  rw [List.range_succ, List.map_append]
  rfl
theorem fr_snoc (F : OW.Fs) (a b i : Nat) : OW.fr (F ++ [(a, b)]) i = OW.fr F i ++ ((if a = i then [b] else []) ++ (if b = i then [a] else [])) := by
  unfold OW.fr
  rw [List.flatMap_append]
  simp
theorem str_eq {x y : Str} (h : x = y) : V.str x = V.str y := by rw [h]
end OWP
end
section
/-! Data: texts, companies; sorted words. -/
namespace OWP
open PySem PySem.Spec PyProof.Rows L2 OWK
/-! ### the letters of a word, sorted -/
def sw (k : OW.Wd) : OW.Wd := k.mergeSort fun a b => decide (a ≤ b)
theorem sw_perm (k : OW.Wd) : (sw k).Perm k := List.mergeSort_perm _ _
theorem sw_sorted (k : OW.Wd) : (sw k).Pairwise (· ≤ ·) := by
  have h := List.pairwise_mergeSort (le := fun a b : Nat => decide (a ≤ b)) (fun a b c h1 h2 => decide_eq_true (Nat.le_trans (of_decide_eq_true h1) (of_decide_eq_true h2))) (fun a b => by
    rw [Bool.or_eq_true, decide_eq_true_eq, decide_eq_true_eq]; exact Nat.le_total a b) k
  exact h.imp fun h => of_decide_eq_true h
theorem sw_len (k : OW.Wd) : (sw k).length = k.length := (sw_perm k).length_eq
theorem sw_lt {k : OW.Wd} (nd : k.Nodup) : (sw k).Pairwise (· < ·) := by
  have h1 := sw_sorted k
  have h2 : (sw k).Nodup := (sw_perm k).nodup_iff.mpr nd
  exact List.Pairwise.imp₂ (fun a b h3 h4 => Nat.lt_of_le_of_ne h3 h4) h1 h2
theorem leS_sign {i j : Nat} (h : i ≤ j) : leS (tx [i]) (tx [j]) = true := by
  unfold leS
  rw [decide_eq_true_eq, tx_list, tx_list]
  show ([i + 97] : List Nat) ≤ [j + 97]
  rw [List.cons_le_cons_iff]
  by_cases e : i = j
  · exact .inr ⟨by omega, List.le_refl _⟩
  · exact .inl (by omega)
theorem sorted_signs (k : OW.Wd) : sortS (OWK.signs (tx k)) = (sw k).map fun i => tx [i] := by
  refine (sortS_one ?_ ?_).symm
  · rw [signs_tx]
    exact (sw_perm k).map _
  · rw [List.pairwise_map]
    exact (sw_sorted k).imp fun h => leS_sign h
theorem sw_range {n : Nat} {t : OW.Wd} (h : NamesOk n t) : sw t = List.range n := by
  obtain ⟨h1, h2, h3⟩ := h
  have p : t.Perm (List.range n) := OW.sub_eq h2 (fun x hx => List.mem_range.mpr (h3 x hx)) (by rw [List.length_range, h1]; exact Nat.le_refl _)
  have hr : (List.range n).Pairwise (· ≤ ·) := List.pairwise_le_range
  exact OW.sorted_one (le := (· ≤ ·)) (fun _ _ => Nat.le_antisymm) ((sw_perm t).trans p) (sw_sorted t) hr
theorem nodup_len {n : Nat} {k : OW.Wd} (nd : k.Nodup) (h : ∀ x ∈ k, x < n) : k.length ≤ n := by
  have h1 := OW.sub_len (l := k) (m := List.range n) nd fun x hx => List.mem_range.mpr (h x hx)
  rwa [List.length_range] at h1
/-! ### data -/
theorem strOk_tx {r : OW.Wd} (h : ∀ c ∈ r, c < 1000) : PyData.strOk (tx r) = true := by
  unfold PyData.strOk
  rw [← Array.all_toList, tx_list, List.all_eq_true]
  intro x hx
  obtain ⟨c, hc, rfl⟩ := List.mem_map.mp hx
  have := h c hc
  exact decide_eq_true (by omega)
def sD (r : OW.Wd) : PyData := .str (tx r)
theorem lay_strs : ∀ xs : List OW.Wd, (∀ r ∈ xs, ∀ c ∈ r, c < 1000) → PyData.canLayAll0 (xs.map sD) = true
  | [], _ => by rw [List.map_nil]; unfold PyData.canLayAll0; rfl
  | x :: xs, h => by
    rw [List.map_cons]
    unfold PyData.canLayAll0
    rw [lay_strs xs fun r hr => h r (List.mem_cons_of_mem _ hr), Bool.and_true]
    unfold sD PyData.canLay0
    exact strOk_tx (h x List.mem_cons_self)
theorem depth_strs : ∀ xs : List OW.Wd, PyData.depthAll (xs.map sD) = 0
  | [] => by rw [List.map_nil]; unfold PyData.depthAll; rfl
  | x :: xs => by
    rw [List.map_cons]
    unfold PyData.depthAll
    rw [depth_strs xs]
    unfold sD PyData.depth
    rfl
theorem shaped_strs {xs : List OW.Wd} (h : ∀ r ∈ xs, ∀ c ∈ r, c < 1000) : SeqAt.shaped (.list (xs.map sD)) = true := by
  unfold SeqAt.shaped PyData.canLay0 PyData.depth
  rw [lay_strs xs h, depth_strs xs]
  rfl
theorem eqv_self {d : PyData} (h : SeqAt.shaped d = true) : PyData.eqv d d = true := SeqAt.eqv_refl d (SeqAt.canLay_of_shaped h)
theorem dp_strs {K : PySem.W.Frag} {H : Hp} : ∀ xs : List OW.Wd, DpAll K H (xs.map wv) (xs.map sD)
  | [] => .nil
  | x :: xs => .cons (.str (tx x)) (dp_strs xs)
theorem lay_pair (p : Nat × Nat) : PyData.canLay0 (pD p) = true := by
  unfold pD PyData.canLay0 PyData.canLayAll0 PyData.canLayAll0 PyData.canLayAll0 PyData.canLay0
  rfl
theorem depth_pair (p : Nat × Nat) : PyData.depth (pD p) = 1 := by
  unfold pD PyData.depth PyData.depthAll PyData.depthAll PyData.depthAll PyData.depth
  rfl
theorem lay_pairs : ∀ F : OW.Fs, PyData.canLayAll0 (F.map pD) = true
  | [] => by rw [List.map_nil]; unfold PyData.canLayAll0; rfl
  | x :: xs => by rw [List.map_cons]; unfold PyData.canLayAll0; rw [lay_pairs xs, lay_pair, Bool.and_true]
theorem depth_pairs : ∀ F : OW.Fs, PyData.depthAll (F.map pD) ≤ 1
  | [] => by rw [List.map_nil]; unfold PyData.depthAll; omega
  | x :: xs => by
    rw [List.map_cons]
    unfold PyData.depthAll
    have := depth_pairs xs
    rw [depth_pair]
    omega
theorem shaped_pair (p : Nat × Nat) : SeqAt.shaped (pD p) = true := by
  unfold SeqAt.shaped
  rw [lay_pair, depth_pair]
  rfl
theorem shaped_pairs (F : OW.Fs) : SeqAt.shaped (.tuple (F.map pD)) = true := by
  unfold SeqAt.shaped PyData.canLay0 PyData.depth
  rw [lay_pairs, Bool.true_and, decide_eq_true_eq]
  have := depth_pairs F
  omega
theorem co_lay (n : Nat) (F : OW.Fs) : PyData.canLay0 (coD n F) = true := by
  unfold coD PyData.canLay0 PyData.canLayAll0 PyData.canLayAll0 PyData.canLayAll0 PyData.canLay0
  rw [lay_pairs]
  rfl
theorem co_depth (n : Nat) (F : OW.Fs) : PyData.depth (coD n F) ≤ 3 := by
  unfold coD PyData.depth PyData.depthAll PyData.depthAll PyData.depthAll PyData.depth
  have := depth_pairs F
  show max _ (max (PyData.depthAll (F.map pD) + 1) _) + 1 ≤ 3
  omega
theorem shaped_co (n : Nat) (F : OW.Fs) : SeqAt.shaped (coD n F) = true := by
  unfold SeqAt.shaped
  rw [co_lay, Bool.true_and, decide_eq_true_eq]
  have := co_depth n F
  omega
theorem eqv_pair (p q : Nat × Nat) : PyData.eqv (pD p) (pD q) = decide (p = q) := by
  unfold pD PyData.eqv PyData.eqvAll PyData.eqvAll PyData.eqvAll PyData.eqv
  obtain ⟨a, b⟩ := p
  obtain ⟨c, d⟩ := q
  show ((((a : Nat) : Int) == ((c : Nat) : Int)) && ((((b : Nat) : Int) == ((d : Nat) : Int)) && true)) = _
  rw [Bool.eq_iff_iff]
  simp only [Bool.and_true, Bool.and_eq_true, beq_iff_eq, decide_eq_true_eq, Prod.mk.injEq]
  omega
theorem eqv_pairs : ∀ F G : OW.Fs, PyData.eqvAll (F.map pD) (G.map pD) = decide (F = G)
  | [], [] => by rw [List.map_nil]; unfold PyData.eqvAll; rfl
  | [], _ :: _ => by rw [List.map_nil, List.map_cons]; unfold PyData.eqvAll; rfl
  | _ :: _, [] => by rw [List.map_nil, List.map_cons]; unfold PyData.eqvAll; rfl
  | x :: xs, y :: ys => by
    rw [List.map_cons, List.map_cons]
    unfold PyData.eqvAll
    rw [eqv_pair, eqv_pairs xs ys, Bool.eq_iff_iff, Bool.and_eq_true, decide_eq_true_eq, decide_eq_true_eq, decide_eq_true_eq, List.cons.injEq]
theorem eqv_co (n : Nat) (F G : OW.Fs) : PyData.eqv (coD n F) (coD n G) = decide (F = G) := by
  unfold coD PyData.eqv PyData.eqvAll PyData.eqvAll PyData.eqvAll PyData.eqv
  show ((((n : Nat) : Int) == ((n : Nat) : Int)) && (PyData.eqvAll (F.map pD) (G.map pD) && true)) = _
  rw [eqv_pairs, Bool.and_true, beq_self_eq_true, Bool.true_and]
theorem any_pairs (F : OW.Fs) (p : Nat × Nat) : (F.map pD).any (fun z => PyData.eqv z (pD p)) = decide (p ∈ F) := by
  rw [List.any_map, Bool.eq_iff_iff, List.any_eq_true, decide_eq_true_eq]
  constructor
  · rintro ⟨x, hx, e⟩
    have e2 : PyData.eqv (pD x) (pD p) = true := e
    rw [eqv_pair, decide_eq_true_eq] at e2
    rw [← e2]; exact hx
  · intro h
    exact ⟨p, h, by show PyData.eqv (pD p) (pD p) = true; rw [eqv_pair]; exact decide_eq_true rfl⟩
theorem dp_pairs {K : PySem.W.Frag} {H : Hp} : ∀ {ps : List Addr} {F : OW.Fs}, PairsAt H ps F → DpAll K H (ps.map V.ref) (F.map pD)
  | _, _, .nil => .nil
  | _, _, .cons h t => .cons (.tup (SqT.of h) (.cons (.int _) (.cons (.int _) .nil))) (dp_pairs t)
theorem dp_co {K : PySem.W.Frag} {H : Hp} {a : Addr} {n : Nat} {F : OW.Fs} (h : CoAt H a n F) : Dp K H (.ref a) (coD n F) := by
  obtain ⟨b, ps, h1, h2, h3⟩ := h
  exact .tup (SqT.of h1) (.cons (.int _) (.cons (.tup (SqT.of h2) (dp_pairs h3)) .nil))
end OWP
end
section
/-! Sorting of pairs; places. -/
namespace OWP
open PySem PySem.Spec PyProof.Rows L2 OWK
/-- the ints of a pair -/
def kH (H : Hp) : V → Int × Int
  | .ref t => match H t with
    | some (.tup [.int a, .int b]) => (a, b)
    | _ => (0, 0)
  | _ => (0, 0)
theorem kH_at {H : Hp} {t : Addr} {a b : Int} (h : H t = some (.tup [.int a, .int b])) : kH H (.ref t) = (a, b) := by
  show (match H t with
    | some (.tup [.int a, .int b]) => (a, b)
    | _ => (0, 0)) = _
  rw [h]
theorem PairsAt.mem {H : Hp} : ∀ {ps : List Addr} {F : OW.Fs}, PairsAt H ps F → ∀ p ∈ ps, ∃ f ∈ F, H p = some (.tup [.int f.1, .int f.2])
  | _, _, .cons h t, p, m => by
    rcases List.mem_cons.mp m with rfl | m
    · exact ⟨_, List.mem_cons_self, h⟩
    · obtain ⟨f, mf, e⟩ := PairsAt.mem t p m
      exact ⟨f, List.mem_cons_of_mem _ mf, e⟩
theorem PairsAt.ks {H : Hp} {ps : List Addr} {F : OW.Fs} (h : PairsAt H ps F) : ∀ x ∈ ps.map V.ref, ∃ t, x = V.ref t ∧ H t = some (.tup [.int (kH H x).1, .int (kH H x).2]) := fun x m => by
  obtain ⟨p, mp, rfl⟩ := List.mem_map.mp m
  obtain ⟨f, _, e⟩ := PairsAt.mem h p mp
  exact ⟨p, rfl, by rw [kH_at e]; exact e⟩
def nk (H : Hp) (x : V) : Nat × Nat := ((kH H x).1.toNat, (kH H x).2.toNat)
theorem PairsAt.back {H : Hp} : ∀ {ps : List Addr} {F : OW.Fs}, PairsAt H ps F → (ps.map V.ref).map (nk H) = F
  | _, _, .nil => rfl
  | _, _, .cons (a := p) (b := f) h t => by
    rw [List.map_cons, List.map_cons, PairsAt.back t]
    unfold nk
    rw [kH_at h]
    rfl
theorem pairs_of {H : Hp} : ∀ {ps : List Addr}, (∀ p ∈ ps, ∃ a b : Nat, H p = some (.tup [.int a, .int b])) → PairsAt H ps ((ps.map V.ref).map (nk H))
  | [], _ => .nil
  | p :: ps, h => by
    obtain ⟨a, b, e⟩ := h p List.mem_cons_self
    refine .cons ?_ (pairs_of fun q m => h q (List.mem_cons_of_mem _ m))
    unfold nk
    rw [kH_at e]
    exact e
def refOf : V → Addr
  | .ref t => t
  | _ => default
theorem sorted_pairs {H : Hp} {qs : List Addr} {G : OW.Fs} {ys : List V} (h : PairsAt H qs G) (srt : SrtO.Srtd (ltP (kH H)) ys) (pm : ys.Perm (qs.map V.ref)) : ∃ qs' G', ys = qs'.map V.ref ∧ PairsAt H qs' G' ∧ G'.Perm G ∧ G'.Pairwise fun a b => OW.leP a b = true := by
  have e1 : ys = (ys.map refOf).map V.ref := by
    rw [List.map_map]
    refine (List.map_id _).symm.trans (List.map_congr_left fun x m => ?_)
    obtain ⟨p, _, rfl⟩ := List.mem_map.mp (pm.mem_iff.mp m)
    rfl
  have e2 : ∀ p ∈ ys.map refOf, ∃ a b : Nat, H p = some (.tup [.int a, .int b]) := fun p m => by
    obtain ⟨x, mx, rfl⟩ := List.mem_map.mp m
    obtain ⟨q, mq, rfl⟩ := List.mem_map.mp (pm.mem_iff.mp mx)
    obtain ⟨f, _, e⟩ := PairsAt.mem h q mq
    exact ⟨f.1, f.2, e⟩
  refine ⟨ys.map refOf, ys.map (nk H), e1, ?_, ?_, ?_⟩
  · have := pairs_of e2
    rwa [← e1] at this
  · have := pm.map (nk H)
    rwa [PairsAt.back h] at this
  · rw [List.pairwise_map]
    refine srt.imp_of_mem fun {x y} mx my hxy => ?_
    obtain ⟨p, mp, rfl⟩ := List.mem_map.mp (pm.mem_iff.mp mx)
    obtain ⟨q, mq, rfl⟩ := List.mem_map.mp (pm.mem_iff.mp my)
    obtain ⟨f, _, e⟩ := PairsAt.mem h p mp
    obtain ⟨g, _, e'⟩ := PairsAt.mem h q mq
    have h1 := SrtO.lexB_no.mp hxy
    rw [kH_at e, kH_at e'] at h1
    rw [OW.leP_iff]
    unfold nk
    rw [kH_at e, kH_at e']
    simp only [Int.toNat_natCast]
    simp only [] at h1
    omega
theorem sort_two {a b : Nat} {ns : List Int} (p : ns.Perm [(a : Int), b]) (s : ns.Pairwise (· ≤ ·)) : ns = [((min a b : Nat) : Int), ((max a b : Nat) : Int)] := by
  refine OW.sorted_one (le := fun x y : Int => x ≤ y) (fun _ _ h1 h2 => Int.le_antisymm h1 h2) (p.trans ?_) s ?_
  · by_cases h : a ≤ b
    · rw [Nat.min_eq_left h, Nat.max_eq_right h]
    · have h' : b ≤ a := by omega
      rw [Nat.min_eq_right h', Nat.max_eq_left h']
      exact List.Perm.swap _ _ _
  · refine List.pairwise_cons.mpr ⟨fun x m => ?_, List.pairwise_singleton _ _⟩
    have : x = _ := List.mem_singleton.mp m
    subst this
    omega
/-- the places of the signs of a text -/
def placeV (t : OW.Wd) : List V := t.map fun (i : Nat) => V.int i
theorem place_at {t : OW.Wd} {i : Nat} (h : i < t.length) : (placeV t)[i]? = some (V.int (t.getD i 0 : Nat)) := by
  unfold placeV
  rw [List.getElem?_map, List.getElem?_eq_getElem h, OW.getD_at h]
  rfl
theorem take_map_succ {α β : Type} {l : List α} {g : α → β} {j : Nat} (h : j < l.length) : (l.take (j + 1)).map g = (l.take j).map g ++ [g l[j]] := by
  rw [List.take_add_one, List.getElem?_eq_getElem h, List.map_append]
  rfl
theorem up_none {H : Hp} {a b : Addr} {o : HO} (e : upd H a o b = Option.none) : H b = Option.none := by
  by_cases h : b = a
  · subst h; rw [upd_same] at e; cases e
  · rwa [upd_ne h] at e
theorem two_line {α : Type} {x y : α} : [x, y].length ≤ sizeLine := le_line (show 2 ≤ 100000 by decide)
theorem two_64 {α : Type} {x y : α} : [x, y].length < 64 := show 2 < 64 by decide
theorem PairsAt.snoc {H : Hp} {ps : List Addr} {F : OW.Fs} {p : Addr} {f : Nat × Nat} (h : PairsAt H ps F) (e : H p = some (.tup [.int f.1, .int f.2])) : PairsAt H (ps ++ [p]) (F ++ [f]) := Paired.snoc h e
theorem PairsAt.up {H : Hp} {E : Addr} {o : HO} {xs : List V} (hE : H E = some (.lst xs)) : ∀ {ps : List Addr} {F : OW.Fs}, PairsAt H ps F → PairsAt (upd H E o) ps F
  | _, _, .nil => .nil
  | _, _, .cons h t => .cons (by
      rw [upd_ne (fun e => by subst e; rw [hE] at h; cases h)]
      exact h) (PairsAt.up hE t)
theorem pair_step {H1 H3 H4 : Hp} {E c : Addr} {qs : List Addr} {F : OW.Fs} {f : Nat × Nat} (sm : Same H1 H3) (sm4 : Same H3 H4) (hE0 : H1 E = none) (hE2 : H3 E = some (.lst (qs.map V.ref))) (hqs : PairsAt H3 qs F) (hc : H4 c = some (.tup [.int f.1, .int f.2])) (hl : F.length ≤ 1000) :
    ∃ acc, H4 E = some (.lst acc) ∧ acc.length < sizeLine ∧ Same H1 (upd H4 E (.lst (acc ++ [.ref c]))) ∧ ∃ qs', (upd H4 E (.lst (acc ++ [.ref c]))) E = some (.lst (qs'.map V.ref)) ∧ PairsAt (upd H4 E (.lst (acc ++ [.ref c]))) qs' (F ++ [f]) ∧ H1 E = none := by
  have hE4 := sm4 _ _ hE2
  refine ⟨_, hE4, by rw [List.length_map, hqs.len]; exact lt_line (by omega), sameUp (sm.trans sm4) hE0, qs ++ [c], ?_, ?_, hE0⟩
  · rw [upd_same, List.map_append]; rfl
  · exact ((hqs.keep sm4).snoc hc).up hE4
theorem co_made {H H2 : Hp} {ps : List Addr} {F : OW.Fs} {c r : Addr} {n : Nat} (h : PairsAt H ps F) (s : Same H H2) (hcn : H2 c = none) (hr : upd H2 c (.tup (ps.map V.ref)) r = none) :
    CoAt (upd (upd H2 c (.tup (ps.map V.ref))) r (.tup [.int n, .ref c])) r n F := by
  have nrc : c ≠ r := fun e => by subst e; rw [upd_same] at hr; cases hr
  refine ⟨c, ps, upd_same, by rw [upd_ne nrc]; exact upd_same, ?_⟩
  exact h.keep (sameUp (sameUp s (Same.free s hcn)) (Same.free s (up_none hr)))
theorem PairsAt.append {H : Hp} : ∀ {ps : List Addr} {F : OW.Fs} {qs : List Addr} {G : OW.Fs}, PairsAt H ps F → PairsAt H qs G → PairsAt H (ps ++ qs) (F ++ G)
  | _, _, _, _, .nil, g => g
  | _, _, _, _, .cons h t, g => .cons h (PairsAt.append t g)
theorem min_sign (i j : Nat) : (if (tx [j]).cps.toList < (tx [i]).cps.toList then tx [j] else tx [i]) = tx [min i j] := by
  by_cases h : j < i
  · rw [if_pos ((lt_sign j i).mpr h), Nat.min_eq_right (by omega)]
  · rw [if_neg (fun q => h ((lt_sign j i).mp q)), Nat.min_eq_left (by omega)]
theorem max_sign (i j : Nat) : (if (tx [i]).cps.toList < (tx [j]).cps.toList then tx [j] else tx [i]) = tx [max i j] := by
  by_cases h : i < j
  · rw [if_pos ((lt_sign i j).mpr h), Nat.max_eq_right (by omega)]
  · rw [if_neg (fun q => h ((lt_sign i j).mp q)), Nat.max_eq_left (by omega)]
theorem min_int (a b : Nat) : (if (b : Int) < a then (b : Int) else a) = ((min a b : Nat) : Int) := by
  by_cases h : b < a
  · rw [if_pos (by omega), Nat.min_eq_right (by omega)]
  · rw [if_neg (by omega), Nat.min_eq_left (by omega)]
theorem max_int (a b : Nat) : (if (b : Int) > a then (b : Int) else a) = ((max a b : Nat) : Int) := by
  by_cases h : b > a
  · rw [if_pos (by omega), Nat.max_eq_right (by omega)]
  · rw [if_neg (by omega), Nat.max_eq_left (by omega)]
theorem pairs_succ (n k : Nat) : (List.range (k + 1)).flatMap (fun i => (List.range (n - (i + 1))).map fun j => (i, i + 1 + j)) = (List.range k).flatMap (fun i => (List.range (n - (i + 1))).map fun j => (i, i + 1 + j)) ++ (List.range (n - (k + 1))).map fun j => (k, k + 1 + j) := by
  rw [List.range_succ, List.flatMap_append, List.flatMap_cons, List.flatMap_nil, List.append_nil]
theorem pairs_few (n : Nat) : ∀ k : Nat, ((List.range k).flatMap (fun i => (List.range (n - (i + 1))).map fun j => (i, i + 1 + j))).length ≤ k * n
  | 0 => by rw [List.range_zero, List.flatMap_nil]; exact Nat.zero_le _
  | k + 1 => by
    rw [pairs_succ, List.length_append, List.length_map, List.length_range, Nat.succ_mul]
    have := pairs_few n k
    omega
end OWP
end
section
/-! The draws' row: what stays. -/
namespace OWP
open PySem PySem.Spec PyProof.Rows L2 OWK
theorem SameB.refl (r : Addr) (H : Hp) : SameB r H H := fun _ _ _ e => e
theorem SameB.trans {r : Addr} {H H' H'' : Hp} (a : SameB r H H') (b : SameB r H' H'') : SameB r H H'' := fun x o n e => b x o n (a x o n e)
theorem sameB_of {r : Addr} {H H' : Hp} (s : Same H H') : SameB r H H' := fun x o _ e => s x o e
theorem SameB.up {r D : Addr} {H H' : Hp} {o : HO} (s : SameB r H H') (h : H D = none) : SameB r H (upd H' D o) := fun b x n e => by
  rw [upd_ne (ne_of_none e h)]
  exact s b x n e
theorem SameB.at {r : Addr} {H H' : Hp} {o : HO} (s : SameB r H H') : SameB r H (upd H' r o) := fun b x n e => by
  rw [upd_ne n]
  exact s b x n e
theorem RowAt.some {H : Hp} {r sc : Addr} (h : RowAt H r sc) : ∃ o, H r = some o := by
  obtain ⟨i, j, k, _, e⟩ := h
  exact ⟨_, e⟩
theorem RowAt.keep {H H' : Hp} {r sc : Addr} (s : Same H H') (h : RowAt H r sc) : RowAt H' r sc := by
  obtain ⟨i, j, k, hi, e⟩ := h
  exact ⟨i, j, k, hi, s _ _ e⟩
theorem RowAt.ne {H : Hp} {r sc D : Addr} (h : RowAt H r sc) (hD : H D = none) : r ≠ D := by
  obtain ⟨o, e⟩ := h.some
  exact ne_of_none e hD
theorem RowAt.up {H : Hp} {r sc D : Addr} {o : HO} (h : RowAt H r sc) (n : r ≠ D) : RowAt (upd H D o) r sc := by
  obtain ⟨i, j, k, hi, e⟩ := h
  exact ⟨i, j, k, hi, by rw [upd_ne n]; exact e⟩
theorem sqlB {K : PySem.W.Frag} {H H' : Hp} {r a : Addr} {xs : List V} (s : SameB r H H') (n : a ≠ r) (h : SqL K H a xs) : SqL K H' a xs := by
  rcases h with h | h
  · rcases h with h | ⟨o, h⟩
    · exact .inl (.inl (s _ _ n h))
    · exact .inl (.inr ⟨o, s _ _ n h⟩)
  · exact .inr h
theorem CoAt.keepB {H H' : Hp} {r sc a : Addr} {n : Nat} {F : OW.Fs} (s : SameB r H H') (hr : RowAt H r sc) (h : CoAt H a n F) : CoAt H' a n F := by
  obtain ⟨i, j, k, hi, e⟩ := hr
  obtain ⟨b, ps, e1, e2, e3⟩ := h
  have ne : ∀ {x : Addr} {ys : List V}, H x = Option.some (.tup ys) → x ≠ r := fun hx q => by subst q; rw [e] at hx; cases hx
  exact ⟨b, ps, s _ _ (ne e1) e1, s _ _ (ne e2) e2, Paired.mapP e3 fun p f hp => s _ _ (ne hp) hp⟩
theorem CoOk.keepB {H H' : Hp} {r sc a : Addr} {n : Nat} {F : OW.Fs} (s : SameB r H H') (hr : RowAt H r sc) (h : CoOk H a n F) : CoOk H' a n F := ⟨h.at_.keepB s hr, h.co, h.one, h.most, h.few⟩
theorem PairsAt.keepB {H H' : Hp} {r sc : Addr} {ps : List Addr} {F : OW.Fs} (s : SameB r H H') (hr : RowAt H r sc) (h : PairsAt H ps F) : PairsAt H' ps F := by
  obtain ⟨i, j, k, hi, e⟩ := hr
  exact Paired.mapP h fun p f hp => s _ _ (fun q => by subst q; rw [e] at hp; cases hp) hp
theorem fmod_nat (k : Int) {m : Nat} (h : 1 ≤ m) : ∃ x : Nat, k.fmod m = x ∧ x < m := by
  have h1 := Int.fmod_nonneg_of_pos k (show (0 : Int) < m by omega)
  have h2 := Int.fmod_lt_of_pos k (show (0 : Int) < m by omega)
  exact ⟨(k.fmod m).toNat, by omega, by omega⟩
theorem pairs_all {n : Nat} (h : n ≤ 5) : (∀ p ∈ allPairs n, p.1 < p.2 ∧ p.2 < n) ∧ (allPairs n).Pairwise OW.pLt ∧ (allPairs n).length ≤ 10 := by
  have hh : n = 0 ∨ n = 1 ∨ n = 2 ∨ n = 3 ∨ n = 4 ∨ n = 5 := by omega
  unfold OW.pLt
  rcases hh with rfl | rfl | rfl | rfl | rfl | rfl <;> decide
theorem pairs_co {n : Nat} {G : OW.Fs} (h : n ≤ 5) (s : G.Sublist (allPairs n)) : OW.Co n G ∧ G.length ≤ 10 := by
  obtain ⟨h1, h2, h3⟩ := pairs_all h
  exact ⟨⟨fun p m => h1 p (s.subset m), h2.sublist s⟩, Nat.le_trans s.length_le h3⟩
theorem ScrAt.keepB {K : PySem.W.Frag} {H H' : Hp} {r sc : Addr} (s : SameB r H H') (hr : RowAt H r sc) (h : ScrAt K H r sc) : ScrAt K H' r sc := by
  obtain ⟨ns, hl, hs, ho⟩ := h
  rcases ho with ho | ho
  · exact ⟨ns, hl, sqlB s (fun e => ho e.symm) hs, .inl ho⟩
  · exact ⟨ns, hl, ho H', .inr ho⟩
theorem ScrAt.keep {K : PySem.W.Frag} {H H' : Hp} {r sc : Addr} (s : Same H H') (h : ScrAt K H r sc) : ScrAt K H' r sc := by
  obtain ⟨ns, hl, hs, ho⟩ := h
  refine ⟨ns, hl, ?_, ho⟩
  rcases hs with (h | ⟨o, h⟩) | h
  · exact .inl (.inl (s _ _ h))
  · exact .inl (.inr ⟨o, s _ _ h⟩)
  · exact .inr h
theorem iteC {p : Prop} [Decidable p] {A B : Prop} (h1 : p → A) (h2 : ¬ p → B) : if decide p = true then A else B := by
  by_cases h : p
  · rw [if_pos (decide_eq_true h)]; exact h1 h
  · rw [if_neg (by rw [decide_eq_true_eq]; exact h)]; exact h2 h
section
variable {X : Cx}
/-- "".join(a text) -/
theorem mt_joinT (hc : X.calm = true) : MtR X "str.join" (fun x xs H Q => ∃ v : OW.Wd, x = .str "" ∧ xs = [.str (tx v)] ∧ v.length ≤ 1000000 ∧ Q (.str (tx v)) H) := by
  intro pins s σ H x xs v us Q I rx rs h
  obtain ⟨v, rfl, rfl, hz, h⟩ := h
  obtain ⟨t, rfl⟩ := rx
  obtain ⟨u, rfl, ru⟩ := vals1 rs
  obtain ⟨t2, rfl⟩ := ru
  refine PySem.SC.joinStr (I.ok.hd hc) (PyProof.Rows.joinOk_signsN (N := 1000000) (S := 0) (by rw [tx_len]; exact hz) (Nat.le_refl _) (by decide)) fun h' k t' hk => ⟨.str (tx v), H, I.kept hk, ⟨t', ?_⟩, h⟩
  have e : Txt.join "" (PyProof.Rows.signs (tx v)) = tx v := by
    have e1 : PyProof.Rows.signs (tx v) = v.map fun i => tx [i] := signs_tx v
    rw [e1]
    exact join_letters v
  exact congrArg (fun y => Value.str y t') e
end
/-! ### orders, step by step -/
def ordPart (r : OW.Wd) (i : Nat) : List OW.Wd := ((List.range i).filter fun s => decide (s ∉ r)).map fun s => r ++ [s]
theorem ordPart_succ {r : OW.Wd} {i : Nat} : ordPart r (i + 1) = ordPart r i ++ (if decide (i ∉ r) = true then [r ++ [i]] else []) := by
  unfold ordPart
  rw [List.range_succ, List.filter_append, List.map_append]
  congr 1
  rw [List.filter_cons]
  split <;> rfl
theorem ordStep_take {n j : Nat} {rows : List OW.Wd} (h : j < rows.length) : OW.ordStep n (rows.take (j + 1)) = OW.ordStep n (rows.take j) ++ ordPart rows[j] n := by
  rw [List.take_add_one, List.getElem?_eq_getElem h]
  unfold OW.ordStep
  rw [List.flatMap_append]
  show _ ++ List.flatMap _ [rows[j]] = _
  rw [List.flatMap_cons, List.flatMap_nil, List.append_nil]
  rfl
theorem ordPart_len {r : OW.Wd} {i : Nat} : (ordPart r i).length ≤ i := by
  unfold ordPart
  rw [List.length_map]
  have := List.length_filter_le (fun s => decide (s ∉ r)) (List.range i)
  rwa [List.length_range] at this
theorem ord_small {n : Nat} (k : Nat) (h : n ≤ 5) (hk : k ≤ n) : (OW.ord n k).length ≤ 3125 := by
  have h2 := OW.ord_len n k
  have h3 : n ^ k ≤ 5 ^ 5 := Nat.le_trans (Nat.pow_le_pow_left h k) (Nat.pow_le_pow_right (by omega) (by omega))
  have h4 : (5 : Nat) ^ 5 = 3125 := by decide
  omega
theorem ordStep_small {n : Nat} {rows : List OW.Wd} (h : n ≤ 5) (hr : rows.length ≤ 3125) : (OW.ordStep n rows).length ≤ 20000 := by
  have h1 : (OW.ordStep n rows).length ≤ rows.length * n := by
    unfold OW.ordStep
    clear hr
    induction rows with
    | nil => simp
    | cons r rs ih =>
      rw [List.flatMap_cons, List.length_append, List.length_cons, Nat.succ_mul, List.length_map]
      have := List.length_filter_le (fun s => decide (s ∉ r)) (List.range n)
      rw [List.length_range] at this
      omega
  have h2 : rows.length * n ≤ 3125 * 5 := Nat.mul_le_mul hr h
  omega
/-! ### a dict of texts, all True -/
def tD (ks : List Str) : List (Key × V) := ks.map fun k => (Sum.inr k, V.bl true)
theorem putK_tD {ks : List Str} {y : Str} : putK (tD ks) (Sum.inr y) (V.bl true) = tD (if y ∈ ks then ks else ks ++ [y]) := by
  unfold putK
  by_cases h : y ∈ ks
  · have hany : ((tD ks).any fun kv => decide (kv.1 = Sum.inr y)) = true := by
      rw [List.any_eq_true]
      exact ⟨(Sum.inr y, V.bl true), List.mem_map.mpr ⟨y, h, rfl⟩, decide_eq_true rfl⟩
    rw [if_pos hany, if_pos h]
    unfold tD
    rw [List.map_map]
    refine List.map_congr_left fun k _ => ?_
    by_cases e : k = y
    · subst e
      show (if (Sum.inr k : Key) = Sum.inr k then _ else _) = _
      rw [if_pos rfl]
    · show (if (Sum.inr k : Key) = Sum.inr y then _ else _) = _
      rw [if_neg (fun q => e (Sum.inr.inj q))]
  · have hany : ¬ ((tD ks).any fun kv => decide (kv.1 = Sum.inr y)) = true := by
      rw [List.any_eq_true]
      rintro ⟨kv, hkv, q⟩
      obtain ⟨j, hj, rfl⟩ := List.mem_map.mp hkv
      have e := Sum.inr.inj (of_decide_eq_true q)
      exact h (e ▸ hj)
    rw [if_neg hany, if_neg h]
    unfold tD
    rw [List.map_append]
    rfl
theorem tD_keys (ks : List Str) : (tD ks).map (·.1) = ks.map Sum.inr := by
  unfold tD
  rw [List.map_map]
  rfl
theorem tD_len (ks : List Str) : (tD ks).length = ks.length := by unfold tD; rw [List.length_map]
/-- the texts gathered of a list, each once -/
def once (l : List Str) : List Str := l.foldl (fun ks y => if y ∈ ks then ks else ks ++ [y]) []
theorem once_snoc (l : List Str) (y : Str) : once (l ++ [y]) = if y ∈ once l then once l else once l ++ [y] := by
  unfold once
  rw [List.foldl_append]
  rfl
theorem snocI {α : Type} {P : List α → Prop} (nil : P []) (snoc : ∀ l a, P l → P (l ++ [a])) (l : List α) : P l := by
  have h : ∀ n, P (l.take n) := fun n => by
    induction n with
    | zero => rw [List.take_zero]; exact nil
    | succ n ih =>
      rw [List.take_add_one]
      cases l[n]? with
      | none => rw [Option.toList_none, List.append_nil]; exact ih
      | some a => exact snoc _ _ ih
  have := h l.length
  rwa [List.take_length] at this
theorem once_ok (l : List Str) : (once l).Nodup ∧ (∀ x, x ∈ once l ↔ x ∈ l) ∧ (once l).length ≤ l.length := by
  induction l using snocI with
  | nil => exact ⟨.nil, fun x => Iff.rfl, Nat.le_refl _⟩
  | snoc l y ih =>
    obtain ⟨h1, h2, h3⟩ := ih
    rw [once_snoc]
    by_cases h : y ∈ once l
    · rw [if_pos h]
      refine ⟨h1, fun x => ?_, by rw [List.length_append]; omega⟩
      rw [h2, List.mem_append, List.mem_singleton]
      constructor
      · exact Or.inl
      · rintro (q | rfl)
        · exact q
        · exact (h2 _).mp h
    · rw [if_neg h]
      refine ⟨?_, fun x => ?_, by rw [List.length_append, List.length_append]; exact Nat.add_le_add_right h3 _⟩
      · rw [List.nodup_append]
        refine ⟨h1, List.pairwise_singleton _ _, fun a ha b hb => ?_⟩
        rw [List.mem_singleton.mp hb]
        exact fun e => h (e ▸ ha)
      · rw [List.mem_append, List.mem_append, h2]
theorem own_in {n : Nat} {F : OW.Fs} {k : Nat} {r : OW.Wd} (h : r ∈ OW.own n F k) : r ∈ OW.ord n k := by
  rw [OW.own_filter] at h
  exact (List.mem_filter.mp h).1
theorem own_small {n : Nat} {F : OW.Fs} (k : Nat) (h : n ≤ 5) (hk : k ≤ n) : (OW.own n F k).length ≤ 3125 := by
  rw [OW.own_filter]
  have h1 := List.length_filter_le (OW.good F) (OW.ord n k)
  have h2 := ord_small k h hk
  omega
end OWP
end
section
/-! Lists of companies; the least of them. -/
namespace OWP
open PySem PySem.Spec PyProof.Rows L2 OWK
def CosAt (H : Hp) (n : Nat) (F : OW.Fs) (cs : List Addr) (rows : List OW.Wd) : Prop := Paired (fun c r => CoAt H c n (OW.rn F r)) cs rows
theorem CosAt.keep {H H' : Hp} {n : Nat} {F : OW.Fs} {cs : List Addr} {rows : List OW.Wd} (s : Same H H') (h : CosAt H n F cs rows) : CosAt H' n F cs rows := Paired.mapP h fun c r e => e.keep s
theorem CosAt.len {H : Hp} {n : Nat} {F : OW.Fs} {cs : List Addr} {rows : List OW.Wd} (h : CosAt H n F cs rows) : cs.length = rows.length := Paired.length h
theorem CoAt.up {H : Hp} {E c : Addr} {o : HO} {xs : List V} {n : Nat} {F : OW.Fs} (hE : H E = some (.lst xs)) (h : CoAt H c n F) : CoAt (upd H E o) c n F := by
  obtain ⟨b, ps, e1, e2, e3⟩ := h
  have ne : ∀ {x : Addr} {ys : List V}, H x = Option.some (.tup ys) → x ≠ E := fun hx q => by subst q; rw [hE] at hx; cases hx
  exact ⟨b, ps, by rw [upd_ne (ne e1)]; exact e1, by rw [upd_ne (ne e2)]; exact e2, e3.up hE⟩
theorem CosAt.up {H : Hp} {E : Addr} {o : HO} {xs : List V} {n : Nat} {F : OW.Fs} {cs : List Addr} {rows : List OW.Wd} (hE : H E = some (.lst xs)) (h : CosAt H n F cs rows) : CosAt (upd H E o) n F cs rows := Paired.mapP h fun c r e => e.up hE
theorem CosAt.snoc {H : Hp} {n : Nat} {F : OW.Fs} {cs : List Addr} {rows : List OW.Wd} {c : Addr} {r : OW.Wd} (h : CosAt H n F cs rows) (e : CoAt H c n (OW.rn F r)) : CosAt H n F (cs ++ [c]) (rows ++ [r]) := Paired.snoc h e
theorem dp_cos {K : PySem.W.Frag} {H : Hp} {n : Nat} {F : OW.Fs} : ∀ {cs : List Addr} {rows : List OW.Wd}, CosAt H n F cs rows → DpAll K H (cs.map V.ref) (rows.map fun r => coD n (OW.rn F r))
  | _, _, .nil => .nil
  | _, _, .cons h t => .cons (dp_co h) (dp_cos t)
theorem alike_pairs : ∀ F G : OW.Fs, PySem.W.alikeAll (F.map pD) (G.map pD) = true
  | [], _ => by rw [List.map_nil, PySem.W.alikeAll]
  | _ :: _, [] => by rw [List.map_nil, List.map_cons, PySem.W.alikeAll]
  | x :: xs, y :: ys => by
    rw [List.map_cons, List.map_cons, PySem.W.alikeAll, alike_pairs xs ys]
    unfold pD
    simp only [PySem.W.alike, PySem.W.alikeAll, Bool.and_self]
theorem alike_co (n m : Nat) (F G : OW.Fs) : PySem.W.alike (coD n F) (coD m G) = true := by
  unfold coD
  simp only [PySem.W.alike, PySem.W.alikeAll, alike_pairs, Bool.and_self]
theorem alike_cos (n : Nat) (F : OW.Fs) (rows : List OW.Wd) : PySem.W.AlikeAll (rows.map fun r => coD n (OW.rn F r)) := by
  constructor
  · intro x hx y hy
    obtain ⟨a, _, rfl⟩ := List.mem_map.mp hx
    obtain ⟨b, _, rfl⟩ := List.mem_map.mp hy
    exact alike_co _ _ _ _
  · intro x hx e
    obtain ⟨a, _, rfl⟩ := List.mem_map.mp hx
    cases e
theorem depth_cos (n : Nat) (F : OW.Fs) : ∀ rows : List OW.Wd, PyData.depthAll (rows.map fun r => coD n (OW.rn F r)) ≤ 3
  | [] => by rw [List.map_nil]; unfold PyData.depthAll; omega
  | x :: xs => by
    rw [List.map_cons]
    unfold PyData.depthAll
    have h1 := depth_cos n F xs
    have h2 := co_depth n (OW.rn F x)
    omega
theorem CosAt.get {H : Hp} {n : Nat} {F : OW.Fs} : ∀ {cs : List Addr} {rows : List OW.Wd}, CosAt H n F cs rows → ∀ (i : Nat) (v : V), (cs.map V.ref)[i]? = some v → ∃ c r, v = .ref c ∧ rows[i]? = some r ∧ CoAt H c n (OW.rn F r)
  | _, _, .nil, i, v, e => by simp at e
  | _, _, .cons h t, 0, v, e => by
    have e' := Option.some.inj (show some _ = some v from e)
    exact ⟨_, _, e'.symm, rfl, h⟩
  | _, _, .cons h t, i + 1, v, e => by
    obtain ⟨c, r, h1, h2, h3⟩ := CosAt.get t i v (by simpa using e)
    exact ⟨c, r, h1, by simpa using h2, h3⟩
theorem min_read {K : PySem.W.Frag} {H : Hp} {n : Nat} {F : OW.Fs} {cs : List Addr} (h : CosAt H n F cs (OW.ord n n)) :
    ∃ d ds, DpAll K H (cs.map V.ref) (d :: ds) ∧ PySem.W.AlikeAll (d :: ds) ∧ PyData.depthAll (d :: ds) ≤ 40 ∧ ∀ (i : Nat) v, (cs.map V.ref)[i]? = some v → (d :: ds)[i]? = some (PySem.W.minD d ds) →
      ∃ c G, v = .ref c ∧ CoAt H c n G ∧ coD n G = minCo n F ∧ G.length = F.length := by
  have e : ∃ d ds, ((OW.ord n n).map fun r => coD n (OW.rn F r)) = d :: ds := by
    cases h0 : (OW.ord n n).map fun r => coD n (OW.rn F r) with
    | nil => exact absurd (List.map_eq_nil_iff.mp h0) (OW.ord_ne n n (Nat.le_refl _))
    | cons d ds => exact ⟨d, ds, rfl⟩
  obtain ⟨d, ds, e⟩ := e
  have em : minCo n F = PySem.W.minD d ds := by unfold minCo; rw [e]; rfl
  refine ⟨d, ds, e ▸ dp_cos h, e ▸ alike_cos n F _, e ▸ Nat.le_trans (depth_cos n F _) (by decide), fun i v h1 h2 => ?_⟩
  obtain ⟨c, r, hv, hr, hc⟩ := h.get i v h1
  refine ⟨c, OW.rn F r, hv, hc, ?_, by rw [(OW.rn_perm F r).length_eq, List.length_map]⟩
  rw [← e, List.getElem?_map, hr] at h2
  rw [em]
  exact Option.some.inj h2
theorem cos_step {H1 H3 H4 : Hp} {E c : Addr} {cs : List Addr} {n : Nat} {F : OW.Fs} {rows : List OW.Wd} {r : OW.Wd} (sm : Same H1 H3) (sm4 : Same H3 H4) (hE0 : H1 E = none) (hE2 : H3 E = some (.lst (cs.map V.ref))) (hqs : CosAt H3 n F cs rows)
    (hc : CoAt H4 c n (OW.rn F r)) (hl : rows.length ≤ 10000) :
    ∃ acc, H4 E = some (.lst acc) ∧ acc.length < sizeLine ∧ Same H1 (upd H4 E (.lst (acc ++ [.ref c]))) ∧ ∃ cs', (upd H4 E (.lst (acc ++ [.ref c]))) E = some (.lst (cs'.map V.ref)) ∧ CosAt (upd H4 E (.lst (acc ++ [.ref c]))) n F cs' (rows ++ [r]) := by
  have hE4 := sm4 _ _ hE2
  refine ⟨_, hE4, by rw [List.length_map, hqs.len]; exact lt_line (by omega), sameUp (sm.trans sm4) hE0, cs ++ [c], ?_, ?_⟩
  · rw [upd_same, List.map_append]; rfl
  · exact ((hqs.keep sm4).snoc hc).up hE4
theorem any_gen {J : It} {n : Nat} {B : (Hp → Prop) → V → Hp → Prop} {H1 : Hp} {Qd : Hp → Prop} (Pv : Nat → Hp → Prop) (h0 : Pv 0 H1) (hgo : ∀ i H, i < n → Pv i H → J.go i H) (hst : ∀ H, Pv n H → J.stop n H)
    (hs : ∀ i x H H', i < n → Pv i H → J.yld i H x H' → B (Pv (i + 1)) x H') (hd : ∀ H, Pv n H → Qd H) :
    ∃ W : Nat → Nat → Hp → Prop, (∃ m, W 0 m H1) ∧ ∀ i m H, W i m H →
      (J.stop i H ∧ Qd H) ∨ (J.go i H ∧ ∃ Nx : Hp → Prop, (∀ H', Nx H' → ∃ m', m' < m ∧ W (i + 1) m' H') ∧ ∀ x H', J.yld i H x H' → B Nx x H') := by
  refine ⟨fun i m H => m + i = n ∧ Pv i H, ⟨n, rfl, h0⟩, ?_⟩
  rintro i m H ⟨e, p⟩
  by_cases hlt : i < n
  · exact .inr ⟨hgo i H hlt p, Pv (i + 1), fun H' p' => ⟨m - 1, by omega, by omega, p'⟩, fun x H' y => hs i x H H' hlt p y⟩
  · have e' : i = n := by omega
    subst e'
    exact .inl ⟨hst H p, hd H p⟩
/-! ### the same data, twice -/
theorem coD_inj {n : Nat} {F G : OW.Fs} (h : coD n F = coD n G) : F = G := by
  have e := eqv_co n F G
  rw [h, eqv_self (shaped_co n G)] at e
  exact of_decide_eq_true e.symm
theorem thru_strs {K : PySem.W.Frag} {H : Hp} {a b : Addr} {xs : List Str} (ha : H a = some (.lst (xs.map V.str))) (hb : H b = some (.lst (xs.map V.str))) (hl : xs.length ≤ 10000) : Thru K H 3 (.ref a) (.ref b) := by
  refine .lst 2 ha hb rfl (by rw [List.length_map]; exact hl) fun i x y hx hy => ?_
  rw [hx] at hy
  have e := Option.some.inj hy
  subst e
  rw [List.getElem?_map] at hx
  cases h : xs[i]? with
  | none => rw [h] at hx; cases hx
  | some z =>
    rw [h] at hx
    have e := Option.some.inj hx
    subst e
    exact .str 2 z
theorem thru_co {K : PySem.W.Frag} {H : Hp} {a b : Addr} {n : Nat} {F : OW.Fs} (ha : CoAt H a n F) (hb : CoAt H b n F) (hl : F.length ≤ 10000) : Thru K H 3 (.ref a) (.ref b) := by
  obtain ⟨a2, ps, ha1, ha2, hps⟩ := ha
  obtain ⟨b2, qs, hb1, hb2, hqs⟩ := hb
  have lp := hps.len
  have lq := hqs.len
  have inner : Thru K H 2 (.ref a2) (.ref b2) := by
    refine .tup 1 ha2 hb2 (by rw [List.length_map, List.length_map]; omega) (by rw [List.length_map]; omega) fun i x y hx hy => ?_
    have hi : i < F.length := by
      have := (List.getElem?_eq_some_iff.mp hx).1
      rw [List.length_map] at this
      omega
    obtain ⟨p, p1, p2⟩ := hps.get i F[i] (List.getElem?_eq_getElem hi)
    obtain ⟨r, r1, r2⟩ := hqs.get i F[i] (List.getElem?_eq_getElem hi)
    rw [List.getElem?_map, p1] at hx
    rw [List.getElem?_map, r1] at hy
    have ex := Option.some.inj hx
    have ey := Option.some.inj hy
    subst ex
    subst ey
    refine .tup 0 p2 r2 rfl (by show 2 ≤ 10000; decide) fun j x y hx hy => ?_
    rw [hx] at hy
    have e := Option.some.inj hy
    subst e
    match j, hx with
    | 0, hx => cases hx; exact .int 0 _
    | 1, hx => cases hx; exact .int 0 _
    | j + 2, hx => cases hx
  refine .tup 2 ha1 hb1 rfl (by show 2 ≤ 10000; decide) fun j x y hx hy => ?_
  match j, hx, hy with
  | 0, hx, hy => cases hx; cases hy; exact .int 2 _
  | 1, hx, hy => cases hx; cases hy; exact inner
  | j + 2, hx, hy => cases hx
theorem ord_120 {n : Nat} (h : n ≤ 5) : (OW.ord n n).length ≤ 120 := by
  have hh : n = 0 ∨ n = 1 ∨ n = 2 ∨ n = 3 ∨ n = 4 ∨ n = 5 := by omega
  rcases hh with rfl | rfl | rfl | rfl | rfl | rfl <;> decide +kernel
end OWP
end
section
/-! Loops with a floor under the tokens. -/
namespace OWP
open PySem PySem.Spec PyProof.Rows L2 OWK
section
variable {X : Cx}
/-- for, walked at the states: N is a floor under the tokens that were given out -/
theorem for_floor {tg iter : Expr} {body : List Stmt} {wi : TI} {g : TG} {pos : Pos} (hp : PassesOwn (model X.prog X.w) X.A X.env X.xe) (hc : X.calm = true) (hi : PI X tg iter wi) (hg : PG X tg g)
    (hs : ∀ x, foldedSetIterable iter X.env x = pure x) {pins : List (Addr × Obj)} {s : Shared} {σ : L2.St} {H : Hp} {N0 : Nat} {Dn : Nat → L2.St → Hp → Prop} (hN : N0 ≤ s.toks) (I : Inv X pins σ H s)
    (h : wi σ H fun J H2 => ∃ W : Nat → Nat → Nat → L2.St → Hp → Prop, (∃ m, W 0 m N0 σ H2) ∧ ∀ i m N σ H, W i m N σ H → (J.stop i H ∧ Dn N σ H) ∨ (J.go i H ∧ ∀ x H', J.yld i H x H' → g x σ H' fun σ2 H3 =>
      ∀ (pins2 : List (Addr × Obj)) (s3 : Shared), N ≤ s3.toks → Inv X pins2 σ2 H3 s3 → wpAny (model X.prog X.w) X.A (execs body X.env) (fun f s4 => (f = .next ∨ f = .cont) ∧ ∃ m' N' σ' H', m' < m ∧ N' ≤ s4.toks ∧ Inv X pins2 σ' H' s4 ∧ W (i + 1) m' N' σ' H') X.xe s3)) :
    wpAny (model X.prog X.w) X.A (exec (.For tg iter body [] pos) X.env) (fun f s' => f = .next ∧ ∃ N σ' H', N ≤ s'.toks ∧ Inv X pins σ' H' s' ∧ Dn N σ' H') X.xe s := by
  refine wpAny_For (wpAny_mono (PySem.wpAny_toks (hi.run pins s σ H _ I h)) (fun v s1 h1 => ?_) fun _ _ z => z.2) hs
  obtain ⟨k1, h1⟩ := h1
  refine wpAny_mono (PySem.wpAny_toks h1) (fun itv s2 h2 => ?_) fun _ _ z => z.2
  obtain ⟨k2, it, fp, tn, J, H2, e, I2, T, st2, f2, W, ⟨m0, w0⟩, turn⟩ := h2
  subst e
  have stat : ∀ {H' : Hp}, (∀ b ∈ fp, H' b = none) → ∀ b ∈ fp, FpOk X pins H' b := fun hn b hb => ⟨hn b hb, (f2 b hb).2⟩
  refine codeAny_forLoop_any (fun n s' => ∃ i N σ' H', N ≤ s'.toks ∧ Inv X pins σ' H' s' ∧ tn i s'.heap ∧ (∀ b ∈ fp, H' b = none) ∧ W i n N σ' H') ?_ m0 ⟨0, N0, σ, H2, Nat.le_trans hN (Nat.le_trans k1 k2), I2, st2, fun b hb => (f2 b hb).1, w0⟩
  rintro n s3 ⟨i, N, σ3, H3, hN3, I3, st3, fr3, w3⟩
  rcases turn i n N σ3 H3 w3 with ⟨stop, qn⟩ | ⟨go, step⟩
  · refine wpAny_passesOwn hp (wpAny_mono (PySem.wpAny_toks (T.done X rfl rfl rfl hc i pins s3 σ3 H3 X.xe I3 (stat fr3) st3 stop)) (fun r s4 q => ?_) fun _ _ z => z.2)
    obtain ⟨k4, hr, I4⟩ := q
    subst hr
    exact wpAny_execs_nil ⟨rfl, N, σ3, H3, Nat.le_trans hN3 k4, I4, qn⟩
  · refine wpAny_passesOwn hp (wpAny_mono (PySem.wpAny_toks (T.item X rfl rfl rfl hc i pins s3 σ3 H3 X.xe I3 (stat fr3) st3 go)) (fun r s4 q => ?_) fun _ _ z => z.2)
    obtain ⟨k4, u, hr, h4⟩ := q
    subst hr
    refine wpAny_passesOwn hp (wpAny_mono (PySem.wpAny_toks h4) (fun _ s5 q => ?_) fun _ _ z => z.2)
    obtain ⟨k5, x, H5, I5, r5, y5, st5, fr5⟩ := q
    have I5' := I5.pinned (stat fr5) (T.obj _ _ st5)
    refine wpAny_passesOwn hp (wpAny_mono (PySem.wpAny_toks (hg.run _ s5 σ3 H5 x u _ I5' r5 (step x H5 y5))) (fun _ s6 q => ?_) fun _ _ z => z.2)
    obtain ⟨k6, σ6, H6, I6, q6⟩ := q
    refine wpAny_passesOwn hp (thn (q6 _ s6 (Nat.le_trans hN3 (Nat.le_trans k4 (Nat.le_trans k5 k6))) I6) fun f s7 q7 => ?_)
    obtain ⟨hf, m', N', σ7, H7, hm, hN7, I7, w7⟩ := q7
    have again : ∃ m, m < n ∧ ∃ i N σ' H', N ≤ s7.toks ∧ Inv X pins σ' H' s7 ∧ tn i s7.heap ∧ (∀ b ∈ fp, H' b = none) ∧ W i m N σ' H' := by
      refine ⟨m', hm, i + 1, N', σ7, H7, hN7, I7.unpinned, T.keep _ _ _ st5 fun b hb o e => (I7.pin (b, o) (List.mem_append_right _ (List.mem_append_right _ (mem_pinsAt hb e)))).1, fun b hb => ?_, w7⟩
      obtain ⟨o, e, d⟩ := T.obj _ _ st5 b hb
      exact (I7.pin (b, o) (List.mem_append_right _ (List.mem_append_right _ (mem_pinsAt hb e)))).2.1
    rcases hf with rfl | rfl
    · exact again
    · exact again
end
end OWP
end
section
/-! Texts whose tokens are known to be out: a locked list of them, min of it, replace. -/
namespace OWP
open PySem PySem.Spec PyProof.Rows L2 OWK
theorem upd_twice {H : Hp} {a : Addr} {o o' : HO} : upd (upd H a o) a o' = upd H a o' := by
  funext b
  by_cases h : b = a
  · subst h; rw [upd_same, upd_same]
  · rw [upd_ne h, upd_ne h, upd_ne h]
/-- a list's object, all its items texts with tokens under N -/
def TokO (N : Nat) (o : Obj) (its : List Value) : Prop := ∃ n : Nat, o = { cls := .type "list", data := .seq its.toArray n } ∧ ∀ v ∈ its, ∃ x t, v = Value.str x t ∧ 0 < t ∧ t < N
theorem TokO.mono {N M : Nat} {o : Obj} {its : List Value} (h : TokO N o its) (l : N ≤ M) : TokO M o its := by
  obtain ⟨n, e, ha⟩ := h
  exact ⟨n, e, fun v m => by obtain ⟨x, t, e, h1, h2⟩ := ha v m; exact ⟨x, t, e, h1, Nat.lt_of_lt_of_le h2 l⟩⟩
section
variable {X : Cx} {pins : List (Addr × Obj)} {σ : L2.St} {H : Hp} {s : Shared}
theorem lock_raw {p : Addr} {xs : List V} {its : List Value} {n : Nat} (I : Inv X pins σ H s) (hp : H p = some (.lst xs)) (e : s.heap.get? p = some { cls := .type "list", data := .seq its.toArray n }) :
    Inv X pins σ (upd H p (.frz { cls := .type "list", data := .seq its.toArray n } (.lst xs))) s := by
  obtain ⟨od, I2⟩ := I.lock hp trivial
  have h2 := (I2.hok p _ upd_same).1
  have e2 : od = { cls := .type "list", data := .seq its.toArray n } := Option.some.inj (h2.symm.trans e)
  rw [e2] at I2
  exact I2
theorem frz_get {p : Addr} {o : Obj} {u : HO} (I : Inv X pins σ H s) (hp : H p = some (.frz o u)) : s.heap.get? p = some o := (I.hok p _ hp).1
/-- min(f), f a locked list of texts: an item of it, its token under N -/
theorem min_raw_tok {i : Nat} {y : Str} {p : Addr} {xs : List V} {o : Obj} {its : List Value} {N : Nat} {d : PyData} {ds : List PyData} {pf pa pos : Pos} {Q : Value → Shared → Prop} (hc : X.calm = true) (hu : X.A.units + 42 < cLine)
    (hN : X.N[i]? = some y) (hv : Vis X.env.scope y) (hd : (y == ("__debug__" : Str)) = false) (hcd : (y == ("__classdict__" : Str)) = false)
    (hg : Gl X "min") (hm : X.mg "min" = none) (I : Inv X pins σ H s) (hσ : σ[i]? = some (some (.ref p))) (hp : H p = some (.frz o (.lst xs))) (ht : TokO N o its)
    (hdp : DpAll X.K H xs (d :: ds)) (hal : PySem.W.AlikeAll (d :: ds)) (hdep : PyData.depthAll (d :: ds) ≤ 40)
    (fin : ∀ (k : Nat) v x t s2, xs[k]? = some v → (d :: ds)[k]? = some (PySem.W.minD d ds) → RelV v (Value.str x t) → 0 < t → t < N → Inv X pins σ H s2 → Q (Value.str x t) s2)
    (he : starEach [.Name y pa] X.env = [(false, eval (.Name y pa) X.env)] := by rfl) :
    wpAny (model X.prog X.w) X.A (eval (.Call (.Name "min" pf) [.Name y pa] [] pos) X.env) Q X.xe s := by
  refine wpAny_Call_Name_kw (ld_blt (u := .builtin "min") I hg hm (by decide +kernel) ?_)
  refine PyProof.Rows.callWith_builtin1 ?_ he rfl
  rw [he]
  refine Calls.spliced_cons (raw_name hN hv I hσ (fun u r => ?_) hd hcd)
  have eu : u = Value.ref p := r
  subst eu
  refine Calls.spliced_nil ?_
  have hget := frz_get I hp
  obtain ⟨n, eo, hits⟩ := ht
  subst eo
  obtain ⟨its', rv, pl, hz⟩ := I.list (xs := xs) (.inl (.inr ⟨_, hp⟩))
  have ei : its' = its := by
    obtain ⟨o2, h1, h2, n2, h3⟩ := pl.isList
    rw [hget] at h1
    cases h1
    have := (Data.seq.inj h3).1
    exact (congrArg Array.toList this).symm
  subst ei
  obtain ⟨as, hr⟩ := Dp.readsAll I _ _ its' hdp rv
  refine PySem.W.min_list_data (I.ok.hd hc) pl.isList (by simpa using hr) hal (by omega) fun k v h' tk bs e1 e2 kk => ?_
  have e1' : its'[k]? = some v := by simpa using e1
  have hi : k < its'.length := (List.getElem?_eq_some_iff.mp e1').1
  have hiv : k < xs.length := by rw [rv.length]; exact hi
  obtain ⟨u', hu', ru⟩ := rv.get (List.getElem?_eq_getElem hiv)
  have euv : u' = v := Option.some.inj (hu'.symm.trans e1')
  subst euv
  obtain ⟨d', e3, hd'⟩ := dpAll_get hdp k xs[k] (List.getElem?_eq_getElem hiv)
  obtain ⟨bs', r'⟩ := Dp.reads I d' _ _ hd' ru
  have e4 := (PySem.Reads.unique (PySem.W.reads_keeps kk r') _ _ e2).1
  obtain ⟨x, t, ex, t1, t2⟩ := hits u' (List.mem_of_getElem? e1')
  subst ex
  exact fin k xs[k] x t _ (List.getElem?_eq_getElem hiv) (by rw [e3, e4]) ru t1 t2 (I.kept (t' := tk) kk)
/-- text.replace(old, ""), old evaluated to a text whose token is under a floor -/
theorem repl_raw {ik : Nat} {kx : Str} {z : Str} {e : Expr} {N j : Nat} {p1 cc apos pos : Pos} {Q : Value → Shared → Prop} {Z : Str → Shared → Prop}
    (hNk : X.N[ik]? = some kx) (hvk : Vis X.env.scope kx) (hdk : (kx == ("__debug__" : Str)) = false) (hck : (kx == ("__classdict__" : Str)) = false)
    (I : Inv X pins σ H s) (hσ : σ[ik]? = some (some (.str z))) (hN : N ≤ s.toks)
    (he : wpAny (model X.prog X.w) X.A (eval e X.env) (fun v s2 => ∃ x t, v = Value.str x t ∧ 0 < t ∧ t < N ∧ Z x s2) X.xe s)
    (fin : ∀ x s2 t' k, Z x s2 → Q (Value.str (Txt.replace z x "") t') { s2 with toks := k })
    (hz : z.length ≤ 1000) (hx : ∀ x s2, Z x s2 → (x == ("" : Str)) = false)
    (hst : starEach [e, .Constant (.str "") j cc] X.env = [(false, eval e X.env), (false, eval (.Constant (.str "") j cc) X.env)])
    (hbase : attributeBase (.Name kx p1) "replace" X.env (eval (.Name kx p1) X.env) = eval (.Name kx p1) X.env) (hline : (apos.endLine == pos.line) = true) :
    wpAny (model X.prog X.w) X.A (eval (.Call (.Attribute (.Name kx p1) "replace" apos) [e, .Constant (.str "") j cc] [] pos) X.env) Q X.xe s := by
  refine PySem.Call_method2 hbase hst hline (raw_name hNk hvk I hσ (fun v r => ?_) hdk hck)
  obtain ⟨tx0, e0⟩ := r
  subst e0
  refine ⟨"str", _, F.plainAttrs_str, F.slot_str_replace, F.type_str_replace, typeIs_str _ _ _, (fun _ e => nomatch e), Calls.callWith_builtin rfl (Calls.evalArgs_plain (Calls.spliced_cons ?_))⟩
  refine wpAny_mono (PySem.wpAny_toks he) (fun u s2 q => ?_) fun _ _ z => z.2
  obtain ⟨hk, x, t, eu, h1, h2, hZ⟩ := q
  subst eu
  refine Calls.spliced_cons (Calls.Constant_str (Calls.spliced_nil ?_))
  have t1 : t ≠ 0 := Nat.ne_of_gt h1
  have t2 : s2.toks ≠ 0 := Nat.ne_of_gt (Nat.lt_of_lt_of_le (Nat.lt_trans h1 h2) (Nat.le_trans hN hk))
  have t3 : t ≠ s2.toks := Nat.ne_of_lt (Nat.lt_of_lt_of_le h2 (Nat.le_trans hN hk))
  exact PySem.SC.replace t1 t2 t3 (hx x s2 hZ) (by show z.length + (z.length + 1) * 0 ≤ _; omega) fun t' k => fin x s2 t' k hZ
/-- a, b = e1, e2, the second evaluated at the state -/
theorem asg_two {tg e1 e2 : Expr} {te1 : TE} {g : TG} {k2 M : Nat} {pt2 pos : Pos} {Dn : L2.St → Hp → Prop} (h1 : PE X e1 te1) (hg : PG X tg g)
    (h2 : te1 σ H fun v1 H1 => ∀ s1, s.toks ≤ s1.toks → Inv X pins σ H1 s1 → wpAny (model X.prog X.w) X.A (eval e2 X.env) (fun u2 s2 => M ≤ s2.toks ∧ ∃ v2 H2, Inv X pins σ H2 s2 ∧ RelV v2 u2 ∧ ∀ a, H2 a = none → g (.ref a) σ (upd H2 a (.tup [v1, v2])) Dn) X.xe s1)
    (I : Inv X pins σ H s)
    (hst : starEach [e1, e2] X.env = [(false, eval e1 X.env), (false, eval e2 X.env)])
    (hs : swapsWithSole [tg] (.Tuple [e1, e2] k2 pt2) pos.line X.env = pure false) (hw : swappedStores [tg] (.Tuple [e1, e2] k2 pt2) X.env = pure none)
    (ha : (assignEach [tg] X.env).map (·.2) = [assign tg X.env]) :
    wpAny (model X.prog X.w) X.A (exec (.Assign [tg] (.Tuple [e1, e2] k2 pt2) pos) X.env) (fun f s' => f = .next ∧ M ≤ s'.toks ∧ ∃ σ' H', Inv X pins σ' H' s' ∧ Dn σ' H') X.xe s := by
  refine wpAny_Assign_stores (Q := fun f s' => f = .next ∧ M ≤ s'.toks ∧ ∃ σ' H', Inv X pins σ' H' s' ∧ Dn σ' H') (wpAny_Tuple_spliced ?_) hs hw
  rw [hst]
  refine Calls.spliced_cons (wpAny_mono (PySem.wpAny_toks (h1.run pins s σ H _ I h2)) (fun u1 s1 q => ?_) fun _ _ z => z.2)
  obtain ⟨hk, v1, H1, I1, r1, q1⟩ := q
  refine Calls.spliced_cons (thn (q1 s1 hk I1) fun u2 s2 q2 => Calls.spliced_nil ?_)
  obtain ⟨hM, v2, H2, I2, r2, q2⟩ := q2
  have hz : (2 : Nat) ≤ sizeLine := by decide
  refine ⟨hz, ?_⟩
  have hf : H2 s2.heap.objs.size = none := I2.hok.fresh (Nat.le_refl _)
  have I3 := I2.laid (a := s2.heap.objs.size) (o := .tup [v1, v2]) (h' := s2.heap.push { cls := .type "tuple", data := .seq [u1, u2].toArray }) (t' := s2.toks) (fun b u e => Heap.get?_push_of_some _ e) (Nat.le_refl _)
    ⟨hz, [u1, u2], .cons r1 (.cons r2 .nil), ⟨_, Heap.get?_push_size _ rfl, rfl, _, rfl⟩⟩
  rw [ha]
  refine wpAny_mono (PySem.wpAny_toks (hg.run pins _ σ _ (.ref s2.heap.objs.size) _ _ I3 rfl (q2 _ hf))) (fun _ s3 q => ?_) fun _ _ z => z.2
  obtain ⟨hk3, σ3, H3, I4, q4⟩ := q
  exact ⟨rfl, Nat.le_trans hM hk3, σ3, H3, I4, q4⟩
/-- a statement of the layer: where it goes on -/
theorem run_next {st : Stmt} {t : TS} (h : PS X st t) {nx : L2.St → Hp → Prop} (I : Inv X pins σ H s) (q : t ⟨nx, fun _ _ => False, fun _ _ => False, fun _ _ => False⟩ σ H) :
    wpAny (model X.prog X.w) X.A (exec st X.env) (fun f s' => f = .next ∧ s.toks ≤ s'.toks ∧ ∃ σ' H', Inv X pins σ' H' s' ∧ nx σ' H') X.xe s := by
  refine wpAny_mono (PySem.wpAny_toks (h.run pins s σ H _ I q)) (fun f s' q => ?_) fun _ _ z => z.2
  obtain ⟨hk, q⟩ := q
  cases f with
  | next => obtain ⟨σ', H', I', q⟩ := q; exact ⟨rfl, hk, σ', H', I', q⟩
  | brk => obtain ⟨_, _, _, q⟩ := q; exact False.elim q
  | cont => obtain ⟨_, _, _, q⟩ := q; exact False.elim q
  | ret v => obtain ⟨_, _, _, _, _, q⟩ := q; exact False.elim q
theorem then_next {st : Stmt} {rest : List Stmt} {env : Env} {M : Model} {A : Around} {Q : Flow → Shared → Prop} {E : Value → Shared → Prop} {s : Shared} {Z : Shared → Prop} (h : wpAny M A (exec st env) (fun f s1 => f = .next ∧ Z s1) E s) (k : ∀ s1, Z s1 → wpAny M A (execs rest env) Q E s1) :
    wpAny M A (execs (st :: rest) env) Q E s := by
  refine wpAny_execs_cons (wpAny_mono h (fun f s1 q => ?_) fun _ _ z => z)
  obtain ⟨rfl, q⟩ := q
  exact k s1 q
/-- text[at], the sign a new text -/
theorem sign_raw {ir ia : Nat} {rx ax : Str} {z : Str} {k : Int} {c : Nat} {p2 p3 p4 : Pos} {Q : Value → Shared → Prop} (hNr : X.N[ir]? = some rx) (hvr : Vis X.env.scope rx) (hdr : (rx == ("__debug__" : Str)) = false) (hcr : (rx == ("__classdict__" : Str)) = false)
    (hNa : X.N[ia]? = some ax) (hva : Vis X.env.scope ax) (hda : (ax == ("__debug__" : Str)) = false) (hca : (ax == ("__classdict__" : Str)) = false)
    (I : Inv X pins σ H s) (h1 : σ[ir]? = some (some (.str z))) (h2 : σ[ia]? = some (some (.int k))) (hz : z.length ≤ sizeLine) (he : atI z.cps.toList k = some c) (fin : Q (.str ⟨#[c]⟩ s.toks) { s with toks := s.toks + 1 }) :
    wpAny (model X.prog X.w) X.A (eval (.Subscript (.Name rx p2) (.Name ax p3) p4) X.env) Q X.xe s := by
  refine Subscript_ (raw_name hNr hvr I h1 (fun u r => raw_name hNa hva I h2 (fun u2 r2 => ?_) hda hca) hdr hcr)
  obtain ⟨t, rfl⟩ := r
  obtain ⟨t', rfl⟩ := r2
  obtain ⟨j, h1, h2, h3, h4, h5⟩ := atI_get he
  have hl : z.cps.toList.length = z.length := by simp [Str.length]
  rw [hl] at h1 h4 h5
  have hn := line63
  exact tail_any (typeIs_str s z t) slot_str_getitem.lookup (getItem_str (c := c) (by
    have e1 : decide (k < -(2 ^ 63 : Int)) = false := decide_eq_false (by omega)
    have e2 : decide (k ≥ 2 ^ 63) = false := decide_eq_false (by omega)
    rw [e1, e2, Bool.or_false]) (by rw [h1]; simpa using h2) fin) rfl
/-- free.append(text[at]), free locked: behind it free is locked with the new sign at its end -/
theorem app_raw {ip ir ia : Nat} {fx rx ax : Str} {p : Addr} {z : Str} {k : Int} {c N : Nat} {xs : List V} {o : Obj} {its : List Value} {p1 p2 p3 p4 apos cpos pos : Pos} (hNf : X.N[ip]? = some fx) (hvf : Vis X.env.scope fx) (hdf : (fx == ("__debug__" : Str)) = false) (hcf : (fx == ("__classdict__" : Str)) = false)
    (hNr : X.N[ir]? = some rx) (hvr : Vis X.env.scope rx) (hdr : (rx == ("__debug__" : Str)) = false) (hcr : (rx == ("__classdict__" : Str)) = false)
    (hNa : X.N[ia]? = some ax) (hva : Vis X.env.scope ax) (hda : (ax == ("__debug__" : Str)) = false) (hca : (ax == ("__classdict__" : Str)) = false)
    (I : Inv X pins σ H s) (h0 : σ[ip]? = some (some (.ref p))) (h1 : σ[ir]? = some (some (.str z))) (h2 : σ[ia]? = some (some (.int k))) (hz : z.length ≤ sizeLine) (he : atI z.cps.toList k = some c)
    (hp : H p = some (.frz o (.lst xs))) (ht : TokO N o its) (hN : N ≤ s.toks) (hN1 : 1 ≤ N) (hl : xs.length < sizeLine) (hfz : ∀ o' u', X.H_0 p ≠ some (.frz o' u'))
    (hs : swapsWith (.Call (.Attribute (.Name fx p1) "append" apos) [.Subscript (.Name rx p2) (.Name ax p3) p4] [] cpos) none pos.line X.env = pure false)
    (hbase : attributeBase (.Name fx p1) "append" X.env (eval (.Name fx p1) X.env) = eval (.Name fx p1) X.env)
    (hfew : ((backTo cpos (starEach [.Subscript (.Name rx p2) (.Name ax p3) p4] X.env)).all (fun x => !x.1) && (backToKw cpos (keywordEach [] X.env)).all (fun x => x.1.isSome)
      && decide (([.Subscript (.Name rx p2) (.Name ax p3) p4] : List Expr).length + ([] : List Keyword).length + (if ([] : List Keyword).isEmpty then 0 else 1) < 30)) = true)
    (hline : (apos.endLine == cpos.line) = true) (hst : starEach [.Subscript (.Name rx p2) (.Name ax p3) p4] X.env = [(false, eval (.Subscript (.Name rx p2) (.Name ax p3) p4) X.env)]) :
    wpAny (model X.prog X.w) X.A (exec (.Expr (.Call (.Attribute (.Name fx p1) "append" apos) [.Subscript (.Name rx p2) (.Name ax p3) p4] [] cpos) pos) X.env)
      (fun f s' => f = .next ∧ ∃ N' o' its', N' ≤ s'.toks ∧ 1 ≤ N' ∧ TokO N' o' its' ∧ Inv X pins σ (upd H p (.frz o' (.lst (xs ++ [.str ⟨#[c]⟩])))) s') X.xe s := by
  have hget := frz_get I hp
  obtain ⟨n, eo, hits⟩ := ht
  subst eo
  have Iu : Inv X pins σ (upd H p (.lst xs)) s := I.unlock hp hfz
  have rv : Vals xs its := by
    obtain ⟨z0, its0, n0, r0, e0⟩ := Iu.hok p _ upd_same
    rw [hget] at e0
    have e1 := (Obj.mk.inj (Option.some.inj e0)).2.2.1
    have e2 := (Data.seq.inj e1).1
    have e3 : its = its0 := by simpa using congrArg Array.toList e2
    rw [e3]; exact r0
  refine wpAny_Expr_any (wpAny_Call_method_late hbase hfew hline rfl (raw_name hNf hvf I h0 (fun v r => ?_) hdf hcf)) I.quiet hs
  have ev : v = Value.ref p := r
  subst ev
  refine ⟨"list", _, F.plainAttrs_list, F.slot_list_append, F.type_list_append, ⟨_, hget, rfl⟩, fun a e => by cases e; exact ⟨_, hget, rfl⟩, ?_⟩
  rw [hst]
  refine Calls.callWith_builtin rfl (Calls.evalArgs_plain (Calls.spliced_cons (sign_raw hNr hvr hdr hcr hNa hva hda hca I h1 h2 hz he (Calls.spliced_nil ?_))))
  refine call_meets F.slot_list_append ⟨_, hget, rfl⟩ F.entry_list_append (F.args_list_append_2 _ _) (PySem.list_append p its.toArray n (.str ⟨#[c]⟩ s.toks) (by rw [List.size_toArray, ← rv.length]; omega)) ⟨hget, ?_⟩
  have Iu2 : Inv X pins σ (upd H p (.lst xs)) { s with toks := s.toks + 1 } := Iu.tok _
  have I3 := Iu2.lset (its' := its ++ [.str ⟨#[c]⟩ s.toks]) (n := n) (f := fun a => a.push (.str ⟨#[c]⟩ s.toks)) (ys := xs ++ [.str ⟨#[c]⟩]) (t' := s.toks + 1) upd_same hget (by simp) (rv.append (.cons (show L2.RelV (V.str ⟨#[c]⟩) (Value.str ⟨#[c]⟩ s.toks) from ⟨_, rfl⟩) .nil)) (by rw [List.length_append, List.length_singleton]; omega)
  rw [upd_twice] at I3
  have hget2 := PySem.IsL.update (h := s.heap) hget (fun a => a.push (.str ⟨#[c]⟩ s.toks))
  have I4 := lock_raw I3 upd_same (its := its ++ [.str ⟨#[c]⟩ s.toks]) (by
    have e : (its ++ [Value.str ⟨#[c]⟩ s.toks]).toArray = its.toArray.push (.str ⟨#[c]⟩ s.toks) := by simp
    rw [e]
    exact hget2)
  rw [upd_twice] at I4
  refine ⟨rfl, s.toks + 1, _, its ++ [.str ⟨#[c]⟩ s.toks], Nat.le_refl _, Nat.succ_le_succ (Nat.zero_le _), ⟨_, rfl, fun v hv => ?_⟩, I4⟩
  rcases List.mem_append.mp hv with hv | hv
  · obtain ⟨x, t, e, t1, t2⟩ := hits v hv
    exact ⟨x, t, e, t1, Nat.lt_of_lt_of_le t2 (Nat.le_trans hN (Nat.le_succ _))⟩
  · rw [List.mem_singleton.mp hv]
    exact ⟨_, _, rfl, Nat.le_trans hN1 hN, Nat.lt_succ_self _⟩
end
end OWP
end
section
/-! Plain facts for the kinds. -/
namespace OWP
open PySem PySem.Spec PyProof.Rows L2 OWK
def s1D (i : Nat) : PyData := .str (tx [i])
theorem eqv_empty (xs : List OW.Wd) : PyData.eqv (.list (xs.map sD)) (.list []) = decide (xs = []) := by
  cases xs with
  | nil => decide +kernel
  | cons x xs =>
    rw [List.map_cons]
    unfold PyData.eqv PyData.eqvAll
    rfl
theorem min_strs (xs : List Nat) : ∀ x : Nat, PySem.W.minD (s1D x) (xs.map s1D) = s1D (xs.foldl min x) := by
  induction xs with
  | nil => intro x; rfl
  | cons y ys ih =>
    intro x
    unfold PySem.W.minD at ih ⊢
    rw [List.map_cons, List.foldl_cons, List.foldl_cons]
    have e : (if PySem.W.dataLt (s1D y) (s1D x) = true then s1D y else s1D x) = s1D (min x y) := by
      unfold s1D
      rw [PySem.W.dataLt_str]
      by_cases h : y < x
      · rw [if_pos (decide_eq_true ((lt_sign y x).mpr h)), Nat.min_eq_right (by omega)]
      · rw [if_neg (by rw [decide_eq_true_eq]; exact fun q => h ((lt_sign y x).mp q)), Nat.min_eq_left (by omega)]
    rw [e]
    exact ih _
theorem alike_strs (xs : List Nat) : PySem.W.AlikeAll (xs.map s1D) := by
  constructor
  · intro x hx y hy
    obtain ⟨a, _, rfl⟩ := List.mem_map.mp hx
    obtain ⟨b, _, rfl⟩ := List.mem_map.mp hy
    unfold s1D
    simp only [PySem.W.alike]
  · intro x hx e
    obtain ⟨a, _, rfl⟩ := List.mem_map.mp hx
    cases e
theorem depth_strs1 : ∀ xs : List Nat, PyData.depthAll (xs.map s1D) = 0
  | [] => by rw [List.map_nil]; unfold PyData.depthAll; rfl
  | x :: xs => by
    rw [List.map_cons]
    unfold PyData.depthAll
    rw [depth_strs1 xs]
    unfold s1D PyData.depth
    rfl
def sgV (i : Nat) : V := V.str (tx [i])
theorem dp_strs1 {K : PySem.W.Frag} {H : Hp} : ∀ xs : List Nat, DpAll K H (xs.map sgV) (xs.map s1D)
  | [] => .nil
  | x :: xs => .cons (.str (tx [x])) (dp_strs1 xs)
theorem out_tx (r : OW.Wd) (c : Nat) : Txt.replace (tx r) (tx [c]) "" = tx (OW.out r c) := by
  apply str_ext
  have h := PyProof.Rows.replace_strikes (tx r) (c + 97)
  have e1 : Txt.replace (tx r) (tx [c]) "" = Txt.replace (tx r) ⟨#[c + 97]⟩ ⟨#[]⟩ := rfl
  rw [e1, h, tx_list, tx_list]
  unfold OW.out
  rw [List.filter_map]
  congr 1
  refine List.filter_congr fun x _ => ?_
  show (x + 97 != c + 97) = decide (x ≠ c)
  by_cases q : x = c
  · subst q; simp
  · rw [decide_eq_true q, bne_iff_ne]; omega
theorem ahead_take : ∀ {r : OW.Wd} {j : Nat} (h : j < r.length), r.Nodup → OW.ahead r r[j] = r.take j
  | x :: xs, 0, _, _ => OW.ahead_head x xs
  | x :: xs, j + 1, h, nd => by
    obtain ⟨nx, ndx⟩ := List.nodup_cons.mp nd
    have hj : j < xs.length := by simpa using h
    show (x :: xs).takeWhile (fun o => decide (o ≠ xs[j])) = x :: xs.take j
    have hne : x ≠ xs[j] := fun e => nx (by rw [e]; exact List.getElem_mem hj)
    rw [List.takeWhile_cons, if_pos (decide_eq_true hne)]
    exact congrArg _ (ahead_take hj ndx)
theorem pick_take {F : OW.Fs} {r : OW.Wd} {j : Nat} (h : j < r.length) (nd : r.Nodup) : decide (((r.take j).filter fun x => decide (x ∈ OW.fr F r[j])).map (fun i => ([i] : OW.Wd)) = []) = OW.pick F r r[j] := by
  unfold OW.pick
  rw [ahead_take h nd, Bool.eq_iff_iff, decide_eq_true_eq, List.map_eq_nil_iff, List.filter_eq_nil_iff, List.all_eq_true]
  constructor
  · intro q x hx
    have := q x hx
    rw [decide_eq_true_eq] at this
    exact decide_eq_true this
  · intro q x hx
    have := q x hx
    rw [decide_eq_true_eq] at this
    rw [decide_eq_true_eq]
    exact this
theorem free_take {F : OW.Fs} {r : OW.Wd} {j : Nat} (h : j < r.length) : (r.take (j + 1)).filter (OW.pick F r) = (r.take j).filter (OW.pick F r) ++ (if OW.pick F r r[j] = true then [r[j]] else []) := by
  rw [List.take_add_one, List.getElem?_eq_getElem h, List.filter_append]
  congr 1
  show List.filter _ [r[j]] = _
  rw [List.filter_cons]
  split <;> rfl
/-- the data of the free letters -/
theorem free_min {F : OW.Fs} {r : OW.Wd} (h : r ≠ []) : ∃ d ds, (OW.free F r).map s1D = d :: ds ∧ PySem.W.minD d ds = s1D (OW.nextL F r) := by
  cases hf : OW.free F r with
  | nil => exact absurd hf (OW.free_ne h)
  | cons x xs =>
    refine ⟨s1D x, xs.map s1D, rfl, ?_⟩
    rw [min_strs]
    unfold OW.nextL
    rw [hf]
    rfl
theorem s1D_inj {i j : Nat} (h : s1D i = s1D j) : i = j := by
  have e := tx_inj (PyData.str.inj h)
  exact List.cons.inj e |>.1
theorem pick_item {F : OW.Fs} {r : OW.Wd} {d : PyData} {ds : List PyData} (h : (OW.free F r).map s1D = d :: ds) (hm : PySem.W.minD d ds = s1D (OW.nextL F r)) {k : Nat} {v : V} (e1 : ((OW.free F r).map sgV)[k]? = some v) (e2 : (d :: ds)[k]? = some (PySem.W.minD d ds)) : v = sgV (OW.nextL F r) := by
  rw [← h, hm, List.getElem?_map] at e2
  rw [List.getElem?_map] at e1
  cases hf : (OW.free F r)[k]? with
  | none => rw [hf] at e1; cases e1
  | some i =>
    rw [hf] at e1 e2
    have q1 := Option.some.inj e1
    have q2 := s1D_inj (Option.some.inj e2)
    rw [← q1, q2]
theorem flt_yes {α : Type} {P : α → Bool} {a : α} (h : P a = true) : [a].filter P = [a] := by rw [List.filter_cons_of_pos h]; rfl
theorem flt_no {α : Type} {P : α → Bool} {a : α} (h : P a = false) : [a].filter P = [] := by rw [List.filter_cons_of_neg (by rw [h]; decide)]; rfl
section
variable {prog : Program} {w : World} {A : Around} {E : Value → Shared → Prop} {s : Shared}
theorem if_next {c : Expr} {a : List Stmt} {env : Env} {pos : Pos} {Z : Shared → Prop} (h : wpAny (model prog w) A (isTrue c env (eval c env)) (fun b s1 => if b = true then wpAny (model prog w) A (execs a env) (fun f s2 => f = .next ∧ Z s2) E s1 else Z s1) E s) :
    wpAny (model prog w) A (execs [.If c a [] pos] env) (fun f s2 => f = .next ∧ Z s2) E s := by
  refine wpAny_execs_cons (wpAny_If (wpAny_mono h (fun b s1 q => ?_) fun _ _ z => z))
  cases b with
  | true =>
    refine wpAny_mono (show wpAny _ _ _ _ _ _ from q) (fun f s2 q2 => ?_) fun _ _ z => z
    obtain ⟨rfl, q2⟩ := q2
    exact wpAny_execs_nil ⟨rfl, q2⟩
  | false => exact wpAny_execs_nil (wpAny_execs_nil ⟨rfl, q⟩)
end
end OWP
end
section
/-! [element for x in a text]: what it gathers, and that a cell of the def stands as it stood. -/
namespace OWP
open PySem PySem.Spec PyProof.Rows L2 OWK
section
variable {X : Cx} {pins : List (Addr × Obj)} {σ : L2.St} {H : Hp} {s : Shared}
/-- a cell of the def is no frame of the outside -/
theorem cell_fs {yc : Str} {cc : Addr} (I : Inv X pins σ H s) (hcc : X.env.cells.lookup yc = some cc) (hcab : X.s_0.heap.objs.size ≤ cc) : cc ∉ X.env.locals :: X.fs := fun hb => by
  rcases List.mem_cons.mp hb with e | e
  · exact I.cne _ _ hcc e
  · obtain ⟨_, o, ho, _⟩ := I.ok.funs.mem e
    exact absurd (Nat.lt_of_lt_of_le (Heap.lt_size ho) hcab) (Nat.lt_irrefl _)
theorem comp_keep {elt : Expr} {tg : Expr} {scope : Scope} {own : List (Str × Nat)} {pos ap : Pos} {g : TG} {te : TE} {yc ax : Str} {cc : Addr} {oc : Obj} {ia : Nat} {z : Str} {Q : Value → Shared → Prop} (Pv : Addr → Nat → Hp → Prop)
    (hc : X.calm = true) (hN : X.N.Nodup) (I : Inv X pins σ H s) (ok : BlkOk X.N X.env.scope scope own) (hcc : X.env.cells.lookup yc = some cc) (hcab : X.s_0.heap.objs.size ≤ cc) (hoc : s.heap.get? cc = some oc)
    (hNa : X.N[ia]? = some ax) (hva : Vis X.env.scope ax) (hda : (ax == ("__debug__" : Str)) = false) (hca : (ax == ("__classdict__" : Str)) = false) (hσ : σ[ia]? = some (some (.str z))) (hz : z.cps.all (· < 128) = true)
    (hg : ∀ (s : Shared) (H : Hp) (C : Addr) (cl : List (Str × Addr)) (fp : List Addr), PG (X.blk s H scope (compEnvC scope cl C X.env) fp) tg g)
    (he : ∀ (s : Shared) (H : Hp) (C : Addr) (cl : List (Str × Addr)) (fp : List Addr), PE (X.blk s H scope (compEnvC scope cl C X.env) fp) elt te) (hs : ∀ x, foldedSetIterable (.Name ax ap) X.env x = pure x)
    (h0 : ∀ D, H D = none → Pv D 0 (upd H D (.lst [])))
    (hstep : ∀ D i c H1, z.cps[i]? = some c → Pv D i H1 → g (.str ⟨#[c]⟩) (wipe σ (own.map (·.2))) H1 fun σ2 H2 => wipe σ2 (own.map (·.2)) = wipe σ (own.map (·.2)) ∧ te σ2 H2 fun y H4 => ∃ acc, H4 D = some (.lst acc) ∧ acc.length < sizeLine ∧ Pv D (i + 1) (upd H4 D (.lst (acc ++ [y]))))
    (fin : ∀ D s' H', Inv X pins σ H' s' → Pv D z.cps.size H' → s'.heap.get? cc = some oc → Q (.ref D) s') :
    wpAny (model X.prog X.w) X.A (eval (.ListComp elt [⟨tg, .Name ax ap, [], 0⟩] scope pos) X.env) Q X.xe s := by
  rw [eval_ListComp]
  have clo : ∀ y ∈ scope.names, y.2 = .free → ∃ c, X.env.cells.lookup y.1 = some c := fun y hy e => I.ok.has _ ((ok.free y hy e).imp id id)
  refine wpAny_comprehension_free (use := none) rfl hs (closure_ok clo) ok.kind (fun y hy e => by rw [ok.uniq y hy, e]) (raw_name hNa hva I hσ (fun u r => ?_) hda hca)
  obtain ⟨t, rfl⟩ := r
  refine wpAny_pyIter_ascii hz ?_
  have T := turn_str (P := X.prog) (w := X.w) (K := X.K) (tg := tg) s.heap.objs.size z t "str_ascii_iterator" (.inl rfl)
  -- the iterator, the new list, the block's own frame
  have I2 := I.kept (h' := s.heap.push { cls := .type "str_ascii_iterator", data := .fields #[.str z t, .int 0 0] }) (t' := s.toks) fun b o e => Heap.get?_push_of_some _ e
  have i2 : (s.heap.push { cls := .type "str_ascii_iterator", data := .fields #[.str z t, .int 0 0] }).get? s.heap.objs.size = some { cls := .type "str_ascii_iterator", data := .fields #[.str z t, .int 0 0] } := Heap.get?_push_size _ rfl
  have c2 : (s.heap.push { cls := .type "str_ascii_iterator", data := .fields #[.str z t, .int 0 0] }).get? cc = some oc := Heap.get?_push_of_some _ hoc
  have z2 : (s.heap.push { cls := .type "str_ascii_iterator", data := .fields #[.str z t, .int 0 0] }).objs.size = s.heap.objs.size + 1 := Heap.size_push ..
  generalize s.heap.push { cls := .type "str_ascii_iterator", data := .fields #[.str z t, .int 0 0] } = h2 at I2 i2 c2 z2 ⊢
  refine wpAny_newObj_type (newEnv_comp ?_) (by show 0 ≤ sizeLine; decide)
  have I3 := I2.lnew (its := []) (ys := []) (t' := s.toks) .nil (Nat.zero_le _)
  have i3 := Heap.get?_push_of_some { cls := .type "list", data := .seq ([] : List Value).toArray } i2
  have c3 := Heap.get?_push_of_some { cls := .type "list", data := .seq ([] : List Value).toArray } c2
  have z3 : (h2.push { cls := .type "list", data := .seq ([] : List Value).toArray }).objs.size = h2.objs.size + 1 := Heap.size_push ..
  have hD : H h2.objs.size = none := I2.hok.fresh (Nat.le_refl _)
  have p3 := h0 _ hD
  have cD : cc ≠ h2.objs.size := Nat.ne_of_lt (Heap.lt_size c2)
  have iD : s.heap.objs.size ≠ h2.objs.size := Nat.ne_of_lt (Heap.lt_size i2)
  have hH3c : (upd H h2.objs.size (.lst [])) cc = none := by rw [upd_ne cD]; exact I.freeC _ _ hcc
  have hH3i : (upd H h2.objs.size (.lst [])) s.heap.objs.size = none := by rw [upd_ne iD]; exact I.hok.fresh (Nat.le_refl _)
  have f3 : ∀ b ∈ [s.heap.objs.size], FpOk X pins (upd H h2.objs.size (.lst [])) b ∧ b < (h2.push { cls := .type "list", data := .seq ([] : List Value).toArray }).objs.size := fun b hb => by
    rw [List.mem_singleton.mp hb]
    exact ⟨I.fpOk (Nat.le_refl _) hH3i, Heap.lt_size i3⟩
  have ci : cc ≠ s.heap.objs.size := Nat.ne_of_lt (Heap.lt_size hoc)
  have hcfs : cc ∉ X.env.locals :: X.fs := cell_fs I hcc hcab
  have I4 := block_start I3 ok hN f3
  generalize hhs : h2.push { cls := .type "list", data := .seq ([] : List Value).toArray } = h3 at I3 i3 c3 z3 f3 I4 ⊢
  have pg := hg { s with heap := h3 } (upd H h2.objs.size (.lst [])) h3.objs.size (cellsFrom (h3.objs.size + 1) scope.names (cloFrom X.env.cells scope.names [])) [s.heap.objs.size]
  have pe := he { s with heap := h3 } (upd H h2.objs.size (.lst [])) h3.objs.size (cellsFrom (h3.objs.size + 1) scope.names (cloFrom X.env.cells scope.names [])) [s.heap.objs.size]
  show codeAny _ _ (.compStart (.ListComp elt [⟨tg, .Name ax ap, [], 0⟩] scope pos) 0 (.ref s.heap.objs.size) (.ref h2.objs.size) (compEnvC scope (cellsFrom (h3.objs.size + 1) scope.names (cloFrom X.env.cells scope.names [])) h3.objs.size X.env)) (compPost (model X.prog X.w) X.A X.xe none Q (.ref h2.objs.size) h3.objs.size) { s with heap := pushCells (h3.push { cls := .type "dict", data := .dict #[] }) scope.names }
  have i4 : (pushCells (h3.push { cls := .type "dict", data := .dict #[] }) scope.names).get? s.heap.objs.size = some { cls := .type "str_ascii_iterator", data := .fields #[.str z t, .int 0 0] } := pushCells_keeps _ _ _ _ (Heap.get?_push_of_some _ i3)
  have cL : (compEnvC scope (cellsFrom (h3.objs.size + 1) scope.names (cloFrom X.env.cells scope.names [])) h3.objs.size X.env).locals = h3.objs.size := rfl
  generalize compEnvC scope (cellsFrom (h3.objs.size + 1) scope.names (cloFrom X.env.cells scope.names [])) h3.objs.size X.env = ce at I4 pg pe cL ⊢
  generalize hs4 : ({ s with heap := pushCells (h3.push { cls := .type "dict", data := .dict #[] }) scope.names } : Shared) = s4 at I4 ⊢
  have st4 : s4.heap.IsStrIter s.heap.objs.size "str_ascii_iterator" z t 0 := by rw [← hs4]; exact ⟨_, i4, rfl, rfl⟩
  have walk : codeAny (model X.prog X.w) X.A (.compLoop (.ListComp elt [⟨tg, .Name ax ap, [], 0⟩] scope pos) 0 (.ref s.heap.objs.size) (.ref h2.objs.size) ce) (compPost (model X.prog X.w) X.A X.xe none Q (.ref h2.objs.size) h3.objs.size) s4 := by
    refine compLoop_any (fun m s' => ∃ i H', m + i = z.cps.size ∧ Inv (X.blk { s with heap := h3 } (upd H h2.objs.size (.lst [])) scope ce [s.heap.objs.size]) [] (wipe σ (own.map (·.2))) H' s' ∧ s'.heap.IsStrIter s.heap.objs.size "str_ascii_iterator" z t i ∧ H' s.heap.objs.size = none ∧ Pv h2.objs.size i H') ?_ z.cps.size
      ⟨0, _, by omega, I4, st4, hH3i, p3⟩
    rintro m s5 ⟨i, H5, hm, I5, st5, n5, p5⟩
    have fp5 : ∀ b ∈ [s.heap.objs.size], FpOk (X.blk { s with heap := h3 } (upd H h2.objs.size (.lst [])) scope ce [s.heap.objs.size]) [] H5 b := fun b hb => by
      have e := List.mem_singleton.mp hb
      subst e
      exact ⟨n5, (I5.ok.exf _ hb).1, I5.ok.exfs _ hb, .inl hb, fun x c e => (I5.ok.exf _ hb).2 x c e, fun p hp => nomatch hp⟩
    by_cases hi : i < z.cps.size
    · refine thnF (T.item (X.blk { s with heap := h3 } (upd H h2.objs.size (.lst [])) scope ce [s.heap.objs.size]) rfl rfl rfl hc i [] s5 _ H5 (fun _ _ => False) I5 fp5 st5 hi) fun r s6 ⟨u, hr, h6⟩ => ?_
      subst hr
      refine thnF h6 fun _ s7 ⟨x, H7, I7, r7, y7, st7, n7⟩ => ?_
      obtain ⟨rfl, c, hcx, rfl⟩ := y7
      have fp7 : ∀ b ∈ [s.heap.objs.size], FpOk (X.blk { s with heap := h3 } (upd H h2.objs.size (.lst [])) scope ce [s.heap.objs.size]) [] H7 b := fp5
      have I7p := I7.pinned fp7 (T.obj _ _ st7)
      refine thnF (pg.run _ s7 _ _ _ u _ I7p r7 (hstep h2.objs.size i c _ hcx p5)) fun _ s8 ⟨σ8, H8, I8, hw8, q8⟩ => ?_
      refine wpAny_pure ?_
      show wpAny _ _ (eval elt ce) _ _ _
      refine thnF (pe.run _ s8 σ8 H8 _ I8 q8) fun v s9 ⟨yv, H9, I9, r9, acc, hD9, hz9, p9⟩ => ?_
      refine app_ok (X := (X.blk { s with heap := h3 } (upd H h2.objs.size (.lst [])) scope ce [s.heap.objs.size])) I9 hD9 hz9 r9 fun s10 I10 => ?_
      have pinned : ∀ o, s7.heap.get? s.heap.objs.size = some o → s10.heap.get? s.heap.objs.size = some o ∧ (upd H9 h2.objs.size (.lst (acc ++ [yv]))) s.heap.objs.size = none := fun o e =>
        let q := I10.pin (s.heap.objs.size, o) (List.mem_append_right _ (List.mem_append_right _ (mem_pinsAt (List.mem_singleton_self _) e)))
        ⟨q.1, q.2.1⟩
      obtain ⟨oi, ei, hi2⟩ := id st7
      have hl : (wipe σ (own.map (·.2))).length = σ8.length := by rw [← hw8, wipe_length]
      refine ⟨m - 1, by omega, i + 1, _, by omega, (I10.unpinned (pins := [])).weak hl (fun j v e => ?_), ⟨oi, (pinned oi ei).1, hi2⟩, (pinned oi ei).2, p9⟩
      rw [← hw8] at e
      exact (wipe_some e).1
    · have ei : i = z.cps.size := by omega
      subst ei
      refine thnF (T.done (X.blk { s with heap := h3 } (upd H h2.objs.size (.lst [])) scope ce [s.heap.objs.size]) rfl rfl rfl hc _ [] s5 _ H5 (fun _ _ => False) I5 fp5 st5 (Nat.le_refl _)) fun r s6 ⟨hr, I6⟩ => ?_
      subst hr
      have I7 : Inv X pins σ H5 s6 := I3.call' (ch := [s.heap.objs.size]) I6.os I6.base I6.hok I6.bare fun b hb => ⟨(f3 b hb).1.2.2.2.1, (f3 b hb).1.2.1, (f3 b hb).1.2.2.2.2.1, (f3 b hb).1.2.2.2.2.2⟩
      have nC : H5 h3.objs.size = none := by rw [← cL]; exact I6.free
      obtain ⟨m0, hn, _⟩ := I6.loc
      have hn2 : s6.heap.Ns h3.objs.size m0 := by rw [← cL]; exact hn
      have kept : s6.heap.get? cc = some oc := I6.base.keep cc oc c3 hH3c (fun hb => hcfs (I3.stkSub cc hb)) (fun hb => ci (List.mem_singleton.mp hb))
      obtain ⟨k0, k1, k2, k3, k4, k5⟩ := I3.fpOk (H' := H5) (Nat.le_refl _) nC
      have cC : cc ≠ h3.objs.size := Nat.ne_of_lt (Heap.lt_size c3)
      exact ⟨m0, hn2, fun h'' sb => fin h2.objs.size _ H5 (I7.turned (t' := s6.toks) (fun b o hb e => (sb.2 b hb).trans e) k0 k1 k3 k4 k5) p5 ((sb.2 cc cC).trans kept)⟩
  exact codeAny_compStart_list walk (T.self X.A 0 _ _ _ st4 walk)
end
end OWP
end
section
/-! sorted(text): the signs' tokens are out. -/
namespace OWP
open PySem PySem.Spec PySem.Builtin PyProof.Rows OWK
section
variable {prog : Program} {w : World} {A : Around} {E : Value → Shared → Prop} {s : Shared}
/-- the first i signs of x, their tokens under n -/
def Gath (x : Str) (i n : Nat) (acc : Array Value) : Prop := acc.size = i ∧ ∀ (j : Nat) (v : Value), acc[j]? = some v → ∃ c tk, x.cps[j]? = some c ∧ v = Value.str ⟨#[c]⟩ tk ∧ tk ≠ 0 ∧ tk < n
theorem Gath.push {x : Str} {i n : Nat} {acc : Array Value} {c tk : Nat} (h : Gath x i n acc) (hc : x.cps[i]? = some c) (h0 : tk ≠ 0) (hn : n ≤ tk) : Gath x (i + 1) (tk + 1) (acc.push (.str ⟨#[c]⟩ tk)) := by
  refine ⟨by rw [Array.size_push, h.1], fun j v hv => ?_⟩
  rw [Array.getElem?_push] at hv
  by_cases e : j = acc.size
  · rw [if_pos e] at hv
    have ev := Option.some.inj hv
    rw [e, h.1]
    exact ⟨c, tk, hc, ev.symm, h0, Nat.lt_succ_self _⟩
  · rw [if_neg e] at hv
    obtain ⟨c', t', e1, e2, e3, e4⟩ := h.2 j v hv
    exact ⟨c', t', e1, e2, e3, Nat.lt_succ_of_lt (Nat.lt_of_lt_of_le e4 hn)⟩
theorem ext_tok {R : Result → Shared → Prop} {x : Str} {t : Tok} {it S : Addr} {res : Value} (hh : A.in1.handled = none) (hz : x.cps.size ≤ sizeLine) (hne : S ≠ it) :
    ∀ (k i : Nat) (s : Shared) (acc : Array Value) (c : Nat), x.cps.size - i = k → i ≤ x.cps.size → s.heap.IsStrIter it "str_ascii_iterator" x t i → s.heap.get? S = some { cls := .type "list", dict := none, data := .seq acc c, slots := #[] } → Gath x i s.toks acc → 1 ≤ s.toks →
    (∀ h' tk acc' c', (∀ b o, b ≠ it → b ≠ S → s.heap.get? b = some o → h'.get? b = some o) → h'.get? S = some { cls := .type "list", dict := none, data := .seq acc' c', slots := #[] } → Gath x x.cps.size tk acc' → s.toks ≤ tk → R (.ok (.ret res)) { s with heap := h', toks := tk }) →
    codeAny (model prog w) A (.builtin "list.extend.loop" ⟨[.ref S, .ref it, res], []⟩) R s := by
  intro k
  induction k with
  | zero =>
    intro i s acc c hk hi hst hS hacc h1 hR
    have e : i = x.cps.size := by omega
    subst e
    refine codeAny_builtin F.entry_extend_loop ?_
    rw [Around.under_plainId F.plain_extend_loop _]
    show wpAny _ A.in1 (pyNext (.ref it) >>= _) _ _ s
    refine wpAny_bind (wpAny_pyNext_ascii_end hh hst (by simp) fun h' he' => wpAny_pure ?_)
    exact hR h' s.toks acc c (fun b o hb _ e => he' b o hb e) (he' S _ hne hS) hacc (Nat.le_refl _)
  | succ k ih =>
    intro i s acc c hk hi hst hS hacc h1 hR
    have hlt : i < x.cps.size := by omega
    have hx : x.cps[i]? = some x.cps[i] := by simp [hlt]
    refine codeAny_builtin F.entry_extend_loop ?_
    rw [Around.under_plainId F.plain_extend_loop _]
    show wpAny _ A.in1 (pyNext (.ref it) >>= _) _ _ s
    refine wpAny_bind (wpAny_pyNext_ascii_item hst hx fun h' hit' sb => ?_)
    have hS' : h'.get? S = some { cls := .type "list", dict := none, data := .seq acc c, slots := #[] } := (sb.2 S hne).trans hS
    show wpAny _ A.in1 (updateSeq S (·.push _) >>= _) _ _ _
    refine wpAny_bind (wpAny_updateSeq hS' rfl (wpAny_pure ⟨plainId_quiet F.plain_extend_loop _, ih (i + 1) _ _ _ (by omega) hlt ?_ (Heap.get?_update_self _ hS' rfl) (hacc.push hx (Nat.ne_of_gt h1) (Nat.le_refl _)) (Nat.le_succ_of_le h1) fun h'' tk acc' c' kk hS'' hacc' hk2 => ?_⟩) ?_ ?_)
    · obtain ⟨o, ho, hr⟩ := hit'
      exact ⟨o, (Heap.get?_update_other _ _ hne).trans ho, hr⟩
    · refine hR h'' tk acc' c' (fun b o hb hb2 e => kk b o hb hb2 ((Heap.get?_update_other _ _ (Ne.symm hb2)).trans ((sb.2 b hb).trans e))) hS'' hacc' (Nat.le_trans (Nat.le_succ _) hk2)
    · rw [hacc.1]; omega
    · show (acc.push _).size ≤ sizeLine + 1
      rw [Array.size_push, hacc.1]; omega
theorem collect_tok {Q : List Value → Shared → Prop} (hh : A.handled = none) {x : Str} {t : Tok} (ha : x.cps.all (· < 128) = true) (hz : x.cps.size ≤ sizeLine) (h1 : 1 ≤ s.toks)
    (hQ : ∀ h' tk (acc : Array Value), (∀ b o, s.heap.get? b = some o → h'.get? b = some o) → Gath x x.cps.size tk acc → s.toks ≤ tk → Q acc.toList { s with heap := h', toks := tk }) :
    wpAny (model prog w) A (collect (.str x t)) Q E s := by
  unfold collect
  refine wpAny_bind (wpAny_runValue (codeAny_builtin F.entry_proto_collect ?_))
  rw [Around.under_plainId F.plain_proto_collect _]
  show wpAny _ A.in1 (newList [] >>= fun l => again (.builtin "list.__iadd__" ⟨[l, .str x t], []⟩)) _ _ s
  refine wpAny_bind (wpAny_newObj_type ?_)
  refine wpAny_pure ⟨plainId_quiet F.plain_list_iadd _, codeAny_builtin F.entry_list_iadd ?_⟩
  rw [Around.under_plainId F.plain_list_iadd _]
  show wpAny _ A.in1 (Builtin.List.listExtendWith (.ref s.heap.objs.size) (.str x t) (.ref s.heap.objs.size)) _ _ _
  unfold Builtin.List.listExtendWith
  refine wpAny_bind (wpAny_typeOf (T := "str") (v := .str x t) rfl ?_)
  have e1 : Builtin.List.listSameRef (.ref s.heap.objs.size) (.str x t) = false := rfl
  have e2 : (Value.type "str" == Value.type "list") = false := by decide
  have e3 : (Value.type "str" == Value.type "tuple") = false := by decide
  simp only [e1, e2, e3, Bool.or_false, Bool.false_eq_true, if_false]
  refine wpAny_bind (wpAny_pyIter_ascii ha ?_)
  refine wpAny_bind (wpAny_holding ?_)
  unfold Builtin.List.listLengthHint
  refine wpAny_bind (wpAny_specialOf (T := "str") (v := .str x t) rfl F.str_len ?_)
  wp_delta
  refine wpAny_bind (wpAny_isInstance (T := "str") (v := .str x t) (b := true) rfl (by rw [isSubtype_type]; kernel_rfl) ?_)
  show wpAny _ A.in1 (typeOf (Value.str x t) >>= _) _ _ _
  refine wpAny_bind (wpAny_typeOf (T := "str") (v := .str x t) rfl ?_)
  refine wpAny_pure ?_
  rw [if_neg (by decide)]
  have l1 := Heap.get?_push_size s.heap (o := { cls := .type "list", data := .seq ([] : List Value).toArray }) rfl
  have z1 : (s.heap.push { cls := .type "list", data := .seq ([] : List Value).toArray }).objs.size = s.heap.objs.size + 1 := Heap.size_push ..
  have k1 : ∀ b o, s.heap.get? b = some o → (s.heap.push { cls := .type "list", data := .seq ([] : List Value).toArray }).get? b = some o := fun b o e => Heap.get?_push_of_some _ e
  generalize s.heap.push { cls := .type "list", data := .seq ([] : List Value).toArray } = h1' at l1 z1 k1 ⊢
  have i1 := Heap.get?_push_size h1' (o := { cls := .type "str_ascii_iterator", data := .fields #[.str x t, .int 0 0] }) rfl
  have l2 := Heap.get?_push_of_some { cls := .type "str_ascii_iterator", data := .fields #[.str x t, .int 0 0] } l1
  have ne : s.heap.objs.size ≠ h1'.objs.size := by omega
  refine wpAny_pure ⟨plainId_quiet F.plain_extend_loop _, ext_tok (by exact hh) hz ne x.cps.size 0 _ #[] _ rfl (Nat.zero_le _) ⟨_, i1, rfl, rfl⟩ l2 ⟨rfl, fun j v e => by simp at e⟩ h1 fun h' tk acc' c' kk hS' hacc hk => ?_⟩
  show wpAny _ A (load s.heap.objs.size >>= _) _ _ _
  refine wpAny_bind (wpAny_load hS' ?_)
  refine wpAny_pure (hQ h' tk acc' (fun b o e => kk b o (fun q => ?_) (fun q => ?_) (Heap.get?_push_of_some _ (k1 b o e))) hacc hk)
  · have hl := Heap.lt_size e
    have q' : b = s.heap.objs.size + 1 := q.trans z1
    rw [q'] at hl
    exact absurd hl (Nat.not_lt.mpr (Nat.le_succ _))
  · have hl := Heap.lt_size e
    rw [q] at hl
    exact absurd hl (Nat.lt_irrefl _)
end
end OWP
end
section
/-! A value stored in a cell of the def, the very value. -/
namespace OWP
open PySem PySem.Spec PyProof.Rows L2 OWK
section
variable {X : Cx} {pins : List (Addr × Obj)} {σ : L2.St} {H : Hp} {s : Shared}
theorem inv_cell {i : Nat} {y : Str} {c : Addr} {v : V} {u : Value} {h' : Heap} (I : Inv X pins σ H s) (hN : X.N.Nodup) (hi : X.N[i]? = some y) (hfn : X.fn y = true) (hk : X.env.kindOf y = some .cell) (hc : X.env.cells.lookup y = some c) (r : RelV v u)
    (hcell : h'.IsCell c (some u)) (sb : Heap.SameBut c s.heap h') : Inv X pins (σ.set i (some v)) H { s with heap := h' } := by
  have hlen : i < σ.length := by rw [I.len]; exact (List.getElem?_eq_some_iff.mp hi).1
  have cab := I.ok.cab y c hfn hc
  have new : ∀ {b : Addr} {o : Obj}, X.s_0.heap.get? b = some o → b ≠ c := fun e => Nat.ne_of_lt (Nat.lt_of_lt_of_le (Heap.lt_size e) cab)
  have hcH : H c = none := I.freeC y c hc
  obtain ⟨w0, oc, hoc, hod⟩ := I.cell y c hc
  refine ⟨I.ok, I.os, I.bare, ⟨?_, ?_, I.base.free, ?_, I.base.tups, I.base.frzs, I.base.tbls⟩, ?_, ?_, I.free, I.freeC, ?_, ?_, ?_⟩
  · exact fun b o e n hb hx => (sb.2 b (new e)).trans (I.base.keep b o e n hb hx)
  · intro b o e n hb hx
    obtain ⟨sl, q⟩ := I.base.slot b o e n hb hx
    exact ⟨sl, (sb.2 b (new e)).trans q⟩
  · intro b o e hx
    obtain ⟨o', q⟩ := I.base.there b o e hx
    exact ⟨o', (sb.2 b (new e)).trans q⟩
  · obtain ⟨m, hn, hl⟩ := I.loc
    refine ⟨m, hn.sameBut sb (Ne.symm (I.cne y c hc)), fun j z w e1 e2 e3 => ?_⟩
    by_cases hj : j = i
    · subst hj
      have ez : y = z := Option.some.inj (hi.symm.trans e1)
      subst ez
      rw [List.getElem?_set_self hlen] at e2
      have ew := Option.some.inj (Option.some.inj e2)
      subst ew
      exact ⟨u, r, .inr ⟨.inl hk, c, hc, hcell⟩⟩
    · rw [List.getElem?_set_ne (Ne.symm hj)] at e2
      obtain ⟨u', r', q⟩ := hl j z w e1 e2 e3
      refine ⟨u', r', ?_⟩
      rcases q with q | ⟨k, c', e, q⟩
      · exact .inl q
      · refine .inr ⟨k, c', e, q.sameBut sb fun ec => ?_⟩
        subst ec
        have ey := I.ok.inj _ _ _ e hc
        subst ey
        exact hj (nodup_ix hN e1 hi)
  · intro z c' e
    by_cases ec : c' = c
    · subst ec; exact ⟨_, hcell⟩
    · obtain ⟨w2, q⟩ := I.cell z c' e
      exact ⟨w2, q.sameBut sb ec⟩
  · intro p hp
    obtain ⟨e, n, ne, nf, d⟩ := I.pin p hp
    refine ⟨(sb.2 p.1 fun q => ?_).trans e, n, ne, nf, d⟩
    rw [q, hoc] at e
    have eo : oc = p.2 := Option.some.inj e
    exact d w0 (eo ▸ hod)
  · intro b o e
    have hbc : b ≠ c := fun q => by subst q; rw [hcH] at e; cases e
    refine (I.hok b o e).stay (fun b2 w hb2 q => (sb.2 b2 fun q2 => ?_).trans q) (fun _ q => q) fun _ _ q => q
    rcases hb2 with q3 | q3
    · exact hbc (q3 ▸ q2)
    · rw [q2, hcH] at q3; cases q3
  · rw [List.length_set]; exact I.len
/-- for y in a locked list of texts, y a cell: the body sees the very item; every walk ends by a break -/
theorem for_cell {y : Str} {iter : Expr} {body : List Stmt} {tp pos : Pos} {k : Nat} {cc : Addr} {Bk : L2.St → Hp → Prop} (hp : PassesOwn (model X.prog X.w) X.A X.env X.xe) (hc : X.calm = true) (hN : X.N.Nodup) (hk : X.N[k]? = some y) (hfn : X.fn y = true)
    (hkind : X.env.kindOf y = some .cell) (hcc : X.env.cells.lookup y = some cc) (hs : ∀ x, foldedSetIterable iter X.env x = pure x)
    (hit : wpAny (model X.prog X.w) X.A (eval iter X.env) (fun v s1 => ∃ (p : Addr) (o : Obj) (xs : List V) (its : List Value) (N : Nat) (H1 : Hp) (W : Nat → L2.St → Hp → Prop), v = .ref p ∧ N ≤ s1.toks ∧ Inv X pins σ H1 s1 ∧ TokO N o its ∧ W 0 σ H1 ∧
      (∀ i σ' H', W i σ' H' → H' p = some (.frz o (.lst xs))) ∧ (∀ σ' H', ¬ W its.length σ' H') ∧
      ∀ (i : Nat) (x : Str) (t : Nat) (σ' : L2.St) (H' : Hp) (pins2 : List (Addr × Obj)) (s3 : Shared), its[i]? = some (.str x t) → 0 < t → t < N → N ≤ s3.toks → W i σ' H' → Inv X pins2 (σ'.set k (some (.str x))) H' s3 → s3.heap.IsCell cc (some (.str x t)) →
        wpAny (model X.prog X.w) X.A (execs body X.env) (fun f s4 => (f = .next ∧ ∃ σ2 H2, Inv X pins2 σ2 H2 s4 ∧ W (i + 1) σ2 H2) ∨ (f = .brk ∧ ∃ σ2 H2, Inv X pins2 σ2 H2 s4 ∧ Bk σ2 H2)) X.xe s3) X.xe s) :
    wpAny (model X.prog X.w) X.A (exec (.For (.Name y tp) iter body [] pos) X.env) (fun f s' => f = .next ∧ ∃ σ' H', Inv X pins σ' H' s' ∧ Bk σ' H') X.xe s := by
  refine wpAny_For (thn hit fun v s1 h1 => ?_) hs
  obtain ⟨p, o, xs, its, N, H1, W, rfl, hN1, I1, ht, w0, hWp, hend, turn⟩ := h1
  obtain ⟨n0, eo, hits⟩ := ht
  subst eo
  have isl : ∀ {s' : Shared} {σ' : L2.St} {H' : Hp} {pins' : List (Addr × Obj)} {i : Nat}, Inv X pins' σ' H' s' → W i σ' H' → s'.heap.IsList p its.toArray := fun I' w' => ⟨_, frz_get I' (hWp _ _ _ w'), rfl, n0, rfl⟩
  refine wpAny_pyIter_list (isl I1 w0) ?_
  have T := turn_list (P := X.prog) (w := X.w) (K := X.K) (tg := .Name y tp) p s1.heap.objs.size
  have I2 := I1.kept (h' := s1.heap.push { cls := .type "list_iterator", data := .fields #[.ref p, .int 0 0] }) (t' := s1.toks) fun b o e => Heap.get?_push_of_some _ e
  have n2 : H1 s1.heap.objs.size = none := I1.hok.fresh (Nat.le_refl _)
  have f2 := I1.fpOk (H' := H1) (Nat.le_refl _) n2
  refine codeAny_forLoop_any (fun n s' => ∃ i σ' H', n + i = its.length ∧ N ≤ s'.toks ∧ Inv X pins σ' H' s' ∧ s'.heap.IsListIter s1.heap.objs.size p i ∧ H' s1.heap.objs.size = none ∧ W i σ' H') ?_ its.length ⟨0, σ, H1, rfl, hN1, I2, ⟨_, Heap.get?_push_size _ rfl, rfl, rfl⟩, n2, w0⟩
  rintro n s3 ⟨i, σ3, H3, hn, hN3, I3, st3, n3, w3⟩
  by_cases hi : i < its.length
  · have eu : its[i]? = some its[i] := List.getElem?_eq_getElem hi
    obtain ⟨x, t, ex, t0, tN⟩ := hits its[i] (List.getElem_mem hi)
    refine wpAny_passesOwn hp (wpAny_pyNext_list_item st3 (isl I3 w3) (x := its[i]) (by simp [hi]) fun h' st' sb => ?_)
    have fp3 : FpOk X pins H3 s1.heap.objs.size := ⟨n3, f2.2⟩
    obtain ⟨f0, g1, g2, g3, g4, g5⟩ := id fp3
    have I4 : Inv X pins σ3 H3 { s3 with heap := h' } := I3.turned (t' := s3.toks) (fun b o hb e => (sb.2 b hb).trans e) f0 g1 g3 g4 g5
    obtain ⟨oi, e1, e2, e3⟩ := id st'
    refine wpAny_passesOwn hp (go_of (s := { s3 with heap := h' }) e1 e2 e3 (by decide) ?_)
    have stat : ∀ b ∈ [s1.heap.objs.size], FpOk X pins H3 b := fun b hb => by rw [List.mem_singleton.mp hb]; exact fp3
    have I5 := I4.pinned stat (T.obj _ _ st')
    obtain ⟨w0, z⟩ := I4.cell y cc hcc
    refine wpAny_passesOwn hp (wpAny_assign_Name (wpAny_storeName_cell I4.ok.kind hkind hcc z fun h2 hcell sb2 => ?_))
    rw [ex] at hcell
    have I6 := inv_cell (v := .str x) I5 hN hk hfn hkind hcc ⟨t, rfl⟩ hcell sb2
    refine wpAny_passesOwn hp (wpAny_mono (PySem.wpAny_toks (turn i x t σ3 H3 _ _ (by rw [eu, ex]) t0 tN hN3 w3 I6 hcell)) (fun f s7 q7 => ?_) fun _ _ z => z.2)
    obtain ⟨hk7, q7⟩ := q7
    rcases q7 with ⟨rfl, σ7, H7, I7, w7⟩ | ⟨rfl, σ7, H7, I7, q7⟩
    · have pin := I7.pin (s1.heap.objs.size, oi) (List.mem_append_right _ (List.mem_append_right _ (mem_pinsAt (List.mem_singleton_self _) e1)))
      exact ⟨n - 1, by omega, i + 1, σ7, H7, by omega, Nat.le_trans hN3 hk7, I7.unpinned, ⟨oi, pin.1, e2, e3⟩, pin.2.1, w7⟩
    · exact ⟨rfl, σ7, H7, I7.unpinned, q7⟩
  · have ei : i = its.length := by omega
    subst ei
    exact absurd w3 (hend _ _)
end
end OWP
end
section
/-! The body of the loop over the signs, a cell kept. -/
namespace OWP
open PySem PySem.Spec PyProof.Rows L2 OWK
section
variable {X : Cx} {pins : List (Addr × Obj)} {σ : L2.St} {H : Hp} {s : Shared}
/-- ahead = text[:text.index(sign)] -/
theorem ahead_keep {ir iy ia i : Nat} {rx y ax yc : Str} {z b : Str} {r0 : List Nat} {cc : Addr} {oc : Obj} {p1 p2 p3 ap apos cpos sp pos2 pos : Pos}
    (hN : X.N.Nodup) (hNr : X.N[ir]? = some rx) (hvr : Vis X.env.scope rx) (hdr : (rx == ("__debug__" : Str)) = false) (hcr : (rx == ("__classdict__" : Str)) = false)
    (hNy : X.N[iy]? = some y) (hvy : Vis X.env.scope y) (hdy : (y == ("__debug__" : Str)) = false) (hcy : (y == ("__classdict__" : Str)) = false)
    (hNa : X.N[ia]? = some ax) (hla : X.env.scope.names.lookup ax = some .local) (hca : X.env.cells.lookup ax = none)
    (I : Inv X pins σ H s) (hσr : σ[ir]? = some (some (.str z))) (hσy : σ[iy]? = some (some (.str b))) (hz : z.length ≤ sizeLine) (ho : Builtin.Str.occurrences z b 0 z.length 1 = i :: r0)
    (hcc : X.env.cells.lookup yc = some cc) (hoc : s.heap.get? cc = some oc)
    (hs : swapsWith (.Subscript (.Name rx p1) (.Slice none (some (.Call (.Attribute (.Name rx p2) "index" apos) [.Name y p3] [] cpos)) none sp) pos2) (some (.Name ax ap)) pos.line X.env = pure false)
    (hst : starEach [.Name y p3] X.env = [(false, eval (.Name y p3) X.env)])
    (hbase : attributeBase (.Name rx p2) "index" X.env (eval (.Name rx p2) X.env) = eval (.Name rx p2) X.env) (hline : (apos.endLine == cpos.line) = true) :
    wpAny (model X.prog X.w) X.A (exec (.Assign [.Name ax ap] (.Subscript (.Name rx p1) (.Slice none (some (.Call (.Attribute (.Name rx p2) "index" apos) [.Name y p3] [] cpos)) none sp) pos2) pos) X.env)
      (fun f s' => f = .next ∧ Inv X pins (σ.set ia (some (.str (cutS z none (some (i : Nat)))))) H s' ∧ s'.heap.get? cc = some oc) X.xe s := by
  refine wpAny_Assign_Name (Subscript_ (raw_name hNr hvr I hσr (fun v r => ?_) hdr hcr)) hs
  obtain ⟨t, rfl⟩ := r
  refine wpAny_Slice ?_
  rw [evalPart_none]
  refine wpAny_pure ?_
  rw [evalPart_some]
  refine PySem.Call_method1 hbase hst hline (raw_name hNr hvr I hσr (fun v r => ?_) hdr hcr)
  obtain ⟨t1, rfl⟩ := r
  refine ⟨"str", _, F.plainAttrs_str, F.slot_str_index, F.type_str_index, typeIs_str _ _ _, (fun _ e => nomatch e), Calls.callWith_builtin rfl (Calls.evalArgs_plain (Calls.spliced_cons (raw_name hNy hvy I hσy (fun v r => ?_) hdy hcy)))⟩
  obtain ⟨t2, rfl⟩ := r
  refine Calls.spliced_nil (PySem.SC.index ho ?_)
  refine wpAny_pure ?_
  have I2 : Inv X pins σ H { s with toks := s.toks + 1 } := I.tok _
  have I3 : Inv X pins σ H { s with heap := s.heap.push { cls := .type "slice", data := .fields #[.none, .int (i : Nat) s.toks, .none] }, toks := s.toks + 1 } := I.kept (t' := s.toks + 1) fun b ob q => Heap.get?_push_of_some _ q
  have c3 : (s.heap.push { cls := .type "slice", data := .fields #[.none, .int (i : Nat) s.toks, .none] }).get? cc = some oc := Heap.get?_push_of_some _ hoc
  have sl3 := Heap.get?_push_size s.heap (o := { cls := .type "slice", data := .fields #[.none, .int (i : Nat) s.toks, .none] }) rfl
  generalize s.heap.push { cls := .type "slice", data := .fields #[.none, .int (i : Nat) s.toks, .none] } = h3 at I3 c3 sl3
  have store : ∀ (s4 : Shared) (u : Value), Inv X pins σ H s4 → RelV (V.str (cutS z none (some (i : Nat)))) u → s4.heap.get? cc = some oc →
      wpAny (model X.prog X.w) X.A (storeName X.env ax u) (fun _ s' => Flow.next = Flow.next ∧ Inv X pins (σ.set ia (some (.str (cutS z none (some (i : Nat)))))) H s' ∧ s'.heap.get? cc = some oc) X.xe s4 := fun s4 u I4 r4 c4 => by
    refine store_ok2 I4 hN hNa (.inl hla) r4 (fun s5 I5 q => ?_) (.inr hla)
    obtain ⟨a, sb, ha⟩ := q
    refine ⟨rfl, I5, ?_⟩
    rcases ha with ha | ha
    · exact (sb.2 cc (fun e => I4.cne _ _ hcc (e.trans ha))).trans c4
    · rw [hca] at ha; cases ha
  refine tail_any (ops := [.ref s.heap.objs.size, .str z t]) (typeIs_str _ _ _) F.slot_str_getitem.lookup (wpAny_getItem_str_slice (l := none) (u := some ((i : Int), s.toks)) (st := none) ⟨_, sl3, rfl, rfl⟩ rfl ?_) (by with_unfolding_all rfl)
  have hl : (PySem.StrLaws.sliceText z none (some (i : Int))).length ≤ sizeLine := by
    rw [sliceText_cut]
    exact Nat.le_trans (cutS_length z _ _) hz
  have ec := sliceText_cut z none (some (i : Int))
  unfold PySem.StrLaws.sliceText at ec hl
  show Made.post (if ((1 : Int) == 1 && (Builtin.Str.strSliceIndices none (some (i : Int)) 1 z.length).length == z.length) = true then Made.val (.str z t)
    else Made.str ⟨((Builtin.Str.strSliceIndices none (some (i : Int)) 1 z.length).filterMap (z.cps[·]?)).toArray⟩) _ _
  by_cases c : ((1 : Int) == 1 && (Builtin.Str.strSliceIndices none (some (i : Int)) 1 z.length).length == z.length) = true
  · rw [if_pos c] at ec ⊢
    exact store _ _ I3 ⟨t, congrArg (fun w => Value.str w t) ec⟩ c3
  · rw [if_neg c] at ec hl ⊢
    exact ⟨hl, store _ _ (I3.tok _) ⟨_, congrArg (fun w => Value.str w _) ec⟩ c3⟩
/-- all([element for x in ahead]) -/
theorem all_keep {elt tg : Expr} {scope : Scope} {own : List (Str × Nat)} {pos ap pf pos2 : Pos} {g : TG} {te : TE} {yc ax : Str} {cc : Addr} {oc : Obj} {ia : Nat} {z : Str} {Q : Bool → Shared → Prop} (Pv : Addr → Nat → Hp → Prop) (bs : List Bool)
    (hc : X.calm = true) (hN : X.N.Nodup) (I : Inv X pins σ H s) (ok : BlkOk X.N X.env.scope scope own) (hcc : X.env.cells.lookup yc = some cc) (hcab : X.s_0.heap.objs.size ≤ cc) (hoc : s.heap.get? cc = some oc)
    (hNa : X.N[ia]? = some ax) (hva : Vis X.env.scope ax) (hda : (ax == ("__debug__" : Str)) = false) (hca : (ax == ("__classdict__" : Str)) = false) (hσ : σ[ia]? = some (some (.str z))) (hz : z.cps.all (· < 128) = true)
    (hgl : Gl X "all") (hml : X.mg "all" = none)
    (hg : ∀ (s : Shared) (H : Hp) (C : Addr) (cl : List (Str × Addr)) (fp : List Addr), PG (X.blk s H scope (compEnvC scope cl C X.env) fp) tg g)
    (he : ∀ (s : Shared) (H : Hp) (C : Addr) (cl : List (Str × Addr)) (fp : List Addr), PE (X.blk s H scope (compEnvC scope cl C X.env) fp) elt te) (hs : ∀ x, foldedSetIterable (.Name ax ap) X.env x = pure x)
    (h0 : ∀ D, H D = none → Pv D 0 (upd H D (.lst [])))
    (hstep : ∀ D i c H1, z.cps[i]? = some c → Pv D i H1 → g (.str ⟨#[c]⟩) (wipe σ (own.map (·.2))) H1 fun σ2 H2 => wipe σ2 (own.map (·.2)) = wipe σ (own.map (·.2)) ∧ te σ2 H2 fun y H4 => ∃ acc, H4 D = some (.lst acc) ∧ acc.length < sizeLine ∧ Pv D (i + 1) (upd H4 D (.lst (acc ++ [y]))))
    (hend : ∀ D H', Pv D z.cps.size H' → H' D = some (.lst (bs.map V.bl)))
    (fin : ∀ D s' H', Inv X pins σ H' s' → Pv D z.cps.size H' → s'.heap.get? cc = some oc → Q (bs.all id) s')
    (hst : starEach [.ListComp elt [⟨tg, .Name ax ap, [], 0⟩] scope pos] X.env = [(false, eval (.ListComp elt [⟨tg, .Name ax ap, [], 0⟩] scope pos) X.env)] := by rfl) :
    wpAny (model X.prog X.w) X.A (isTrue (.Call (.Name "all" pf) [.ListComp elt [⟨tg, .Name ax ap, [], 0⟩] scope pos] [] pos2) X.env (eval (.Call (.Name "all" pf) [.ListComp elt [⟨tg, .Name ax ap, [], 0⟩] scope pos] [] pos2) X.env)) Q X.xe s := by
  refine isTrue_plain (wpAny_Call_Name_kw (ld_blt (u := .builtin "all") I hgl hml (by decide +kernel) ?_)) (by rfl)
  refine PyProof.Rows.callWith_builtin1 ?_ hst rfl
  rw [hst]
  refine Calls.spliced_cons (comp_keep Pv hc hN I ok hcc hcab hoc hNa hva hda hca hσ hz hg he hs h0 hstep fun D s1 H1 I1 p1 c1 => Calls.spliced_nil ?_)
  obtain ⟨its, rv, hl, _⟩ := I1.list (SqL.of (hend D H1 p1))
  have hb := rv.bls
  refine call_all_walk (iter_any hl.isList fun s₂ e2 st hne => ?_)
  subst e2
  refine ⟨_, _, _, _, _, _, _, rfl, Walks.list (A := X.A.in1) (I1.ok.hd hc) _ D hne its.toArray, st, truth_bools hb, fun h' tk hk => ?_⟩
  have kept : ∀ b o, s1.heap.get? b = some o → h'.get? b = some o := fun b o eo => hk b o (fun hmem => by
    rcases List.mem_cons.mp hmem with e1 | hmem
    · exact absurd (e1 ▸ Heap.lt_size eo) (Nat.lt_irrefl _)
    · cases hmem) (Heap.get?_push_of_some _ eo)
  have I2 : Inv X pins σ H1 { s1 with heap := h', toks := tk } := I1.kept kept
  refine wpAny_truthy_bool ?_
  have hq := fin D _ H1 I2 p1 (kept _ _ c1)
  refine Eq.mp (congrArg (fun b => Q b _) (Eq.symm ?_)) hq
  rw [← L2.all_range, hb, List.size_toArray, List.length_map]
end
end OWP
end
section
/-! A pair stored in two locals, a while with one token out, the very value of a cell. -/
namespace OWP
open PySem PySem.Spec PyProof.Rows L2 OWK
section
variable {X : Cx} {pins : List (Addr × Obj)} {σ : L2.St} {H : Hp} {s : Shared}
theorem name_cell {y : Str} {cc : Addr} {u : Value} {pos : Pos} {Q E : Value → Shared → Prop} (I : Inv X pins σ H s) (hk : X.env.kindOf y = some .cell) (hcc : X.env.cells.lookup y = some cc) (hcell : s.heap.IsCell cc (some u)) (hd : (y == ("__debug__" : Str)) = false) (fin : Q u s) :
    wpAny (model X.prog X.w) X.A (eval (.Name y pos) X.env) Q E s := wpAny_Name (wpAny_loadName_cell I.ok.kind hk hcc hcell fin) hd
theorem par_two {x y : Str} {e1 e2 : Expr} {i j M : Nat} {px py pt pt2 pos : Pos} {kt k2 : Nat} {Dn : L2.St → Hp → Prop} (hc : X.calm = true) (hN : X.N.Nodup) (hi : X.N[i]? = some x) (hj : X.N[j]? = some y) (hij : i ≠ j)
    (hx : X.env.scope.names.lookup x = some .local) (hy : X.env.scope.names.lookup y = some .local) (I : Inv X pins σ H s)
    (h : wpAny (model X.prog X.w) X.A (eval e1 X.env) (fun u1 s1 => wpAny (model X.prog X.w) X.A (eval e2 X.env) (fun u2 s2 => M ≤ s2.toks ∧ ∃ v1 v2 H2, Inv X pins σ H2 s2 ∧ RelV v1 u1 ∧ RelV v2 u2 ∧ Dn ((σ.set i (some v1)).set j (some v2)) H2) X.xe s1) X.xe s)
    (hst : starEach [e1, e2] X.env = [(false, eval e1 X.env), (false, eval e2 X.env)])
    (hw : swappedStores [.Tuple [.Name x px, .Name y py] kt pt] (.Tuple [e1, e2] k2 pt2) X.env = pure (some [x, y]))
    (hs : swapsWithSole [.Tuple [.Name x px, .Name y py] kt pt] (.Tuple [e1, e2] k2 pt2) pos.line X.env = pure false) :
    wpAny (model X.prog X.w) X.A (exec (.Assign [.Tuple [.Name x px, .Name y py] kt pt] (.Tuple [e1, e2] k2 pt2) pos) X.env) (fun f s' => f = .next ∧ M ≤ s'.toks ∧ ∃ σ' H', Inv X pins σ' H' s' ∧ Dn σ' H') X.xe s := by
  rw [exec_Assign_arm]
  refine wpAny_bind (wpAny_standAt ?_)
  rw [hs]
  refine wpAny_bind (wpAny_pure ?_)
  rw [if_neg (by decide)]
  refine wpAny_bind (wpAny_Tuple_spliced ?_)
  rw [hst]
  refine Calls.spliced_cons (thn h fun u1 s1 q1 => Calls.spliced_cons (thn q1 fun u2 s2 q2 => Calls.spliced_nil ?_))
  obtain ⟨hM, v1, v2, H2, I2, r1, r2, q⟩ := q2
  refine ⟨by show 2 ≤ sizeLine; decide, ?_⟩
  have I3 : Inv X pins σ H2 { s2 with heap := s2.heap.push { cls := .type "tuple", data := .seq [u1, u2].toArray } } := I2.kept (t' := s2.toks) fun b o e => Heap.get?_push_of_some _ e
  rw [hw]
  refine wpAny_bind (wpAny_pure ?_)
  show wpAny (model X.prog X.w) X.A (do rule "assign.swapped-stores"; let items ← unpackItems (.ref s2.heap.objs.size) 2 none; assignInOrder [fun v => bindName X.env y v, fun v => bindName X.env x v] items.reverse; pure Flow.next) _ _ _
  refine wpAny_bind (wpAny_rule (wpAny_bind (unpackItems_tuple (items := #[u1, u2]) (I.ok.hd hc) (IsTup.new s2.heap _) fun h' hx' => ?_)))
  have I4 := I3.kept (h' := h') (t' := s2.toks) fun b o e => hx' b o (Nat.ne_of_lt (Heap.lt_size e)) e
  show wpAny _ _ (assignInOrder [fun v => bindName X.env y v, fun v => bindName X.env x v] [u2, u1] >>= fun _ => pure Flow.next) _ _ _
  have stores : wpAny (model X.prog X.w) X.A (assignInOrder [fun v => bindName X.env y v, fun v => bindName X.env x v] [u2, u1] >>= fun _ => pure Flow.next) (fun f s' => f = .next ∧ ∃ σ' H', Inv X pins σ' H' s' ∧ Dn σ' H') X.xe { s2 with heap := h' } := by
    refine wpAny_bind (assignInOrder_cons (wpAny_bindName (store_ok I4 hN hj (.inl hy) r2 (fun s3 I5 => ?_) (.inr hy))))
    refine assignInOrder_cons (wpAny_bindName (store_ok I5 hN hi (.inl hx) r1 (fun s4 I6 => assignInOrder_nil (wpAny_pure ?_)) (.inr hx)))
    rw [List.set_comm _ _ (Ne.symm hij)] at I6
    exact ⟨rfl, _, H2, I6, q⟩
  exact wpAny_mono (PySem.wpAny_toks stores) (fun f s' z => ⟨z.2.1, Nat.le_trans hM z.1, z.2.2⟩) fun _ _ z => z.2
/-- while, one token out: the body sees a measure go down -/
theorem while_tok {c : Expr} {body : List Stmt} {tc : TT} {pos : Pos} {Dn : L2.St → Hp → Prop} (hp : PassesOwn (model X.prog X.w) X.A X.env X.xe) (hc : PT X c tc) (h1 : 1 ≤ s.toks) (I : Inv X pins σ H s) (W : Nat → L2.St → Hp → Prop) {m0 : Nat} (w0 : W m0 σ H)
    (turn : ∀ m σ' H', W m σ' H' → tc σ' H' fun b H2 => if b = true then (∀ (s3 : Shared), 1 ≤ s3.toks → Inv X pins σ' H2 s3 → wpAny (model X.prog X.w) X.A (execs body X.env) (fun f s4 => f = .next ∧ ∃ m' σ2 H3, m' < m ∧ Inv X pins σ2 H3 s4 ∧ W m' σ2 H3) X.xe s3) else Dn σ' H2) :
    wpAny (model X.prog X.w) X.A (exec (.While c body [] pos) X.env) (fun f s' => f = .next ∧ ∃ σ' H', Inv X pins σ' H' s' ∧ Dn σ' H') X.xe s := by
  refine wpAny_While (codeAny_whileLoop (fun n s' => 1 ≤ s'.toks ∧ ∃ σ' H', Inv X pins σ' H' s' ∧ W n σ' H') ?_ m0 ⟨h1, σ, H, I, w0⟩)
  rintro n s1 ⟨k1, σ1, H1, I1, w1⟩
  refine wpAny_passesOwn hp (wpAny_mono (PySem.wpAny_toks (hc.run pins s1 σ1 H1 _ I1 (turn n σ1 H1 w1))) (fun b s2 q => ?_) fun _ _ z => z.2)
  obtain ⟨k2, H2, I2, q2⟩ := q
  cases b with
  | true =>
    rw [if_pos rfl]
    refine wpAny_passesOwn hp (wpAny_mono (PySem.wpAny_toks (show wpAny _ _ _ _ _ _ from q2 s2 (Nat.le_trans k1 k2) I2)) (fun f s3 q3 => ?_) fun _ _ z => z.2)
    obtain ⟨k3, rfl, m', σ3, H3, hm, I3, w3⟩ := q3
    exact ⟨m', hm, Nat.le_trans k1 (Nat.le_trans k2 k3), σ3, H3, I3, w3⟩
  | false =>
    rw [if_neg (by decide)]
    exact wpAny_execs_nil ⟨rfl, σ1, H2, I2, q2⟩
end
end OWP
end
section
/-! sorted(text) as a locked list whose texts are known. -/
namespace OWK
open PySem PySem.Spec PyProof.Rows L2
section
variable {P : Program} {w : World} {A : Around} {E : Value → Shared → Prop} {s : Shared}
/-- the same, what is known of the items told behind the gathering -/
theorem sorted_gatherR {v : Value} {Q : Value → Shared → Prop} {C : List Value → Shared → Prop} (hu : A.units + 3 < cLine)
    (hcol : wpAny (model P w) A.in1 (collect v) C E s)
    (hC : ∀ out s', C out s' → ∃ (R : Value → Str → Prop) (ks : List Str), (∀ v x, R v x → AnyS v x) ∧ ks.length ≤ sizeLine ∧ PySem.W.EachIs R out ks ∧
      ∀ (out2 : List Value) (ep : Nat) (h'' : Heap), PySem.W.EachIs R out2 (sortS ks) → h''.get? s'.heap.objs.size = some (seqObj "list" (List.toArray out2) ep) → (∀ b o, s'.heap.get? b = some o → h''.get? b = some o) → Q (.ref s'.heap.objs.size) { s' with heap := h'' }) :
    wpAny (model P w) A (call (.builtin "sorted") [v]) Q E s := by
  refine Calls.call_function_entry kind_sorted plain_sorted entry_sorted (args_sorted1 _) ?_
  unfold Builtin.«sorted»
  refine wpAny_bind (m := checkCount "sorted" 1 1 _) (wpAny_pure ?_)
  refine wpAny_bind (thn hcol fun out s1 c1 => ?_)
  obtain ⟨R, ks, hR, hz, e1, fin⟩ := hC out s1 c1
  have hl : out.length = ks.length := e1.length
  refine wpAny_bind (wpAny_newList ?_ (by rw [hl]; exact hz))
  have hoL : (s1.heap.push (seqObj "list" out.toArray 0)).get? s1.heap.objs.size = some (seqObj "list" out.toArray 0) := Heap.get?_push_size _ rfl
  refine wpAny_bind (wpAny_holding (PySem.W.list_sort_data (enc := fun x : Str => PyData.str x) (s := { s1 with heap := s1.heap.push (seqObj "list" out.toArray 0) }) hoL e1
    (e1.mono fun v x r => by obtain ⟨t, e⟩ := hR v x r; subst e; exact ⟨[], .str x t, List.not_mem_nil⟩) (alike_strs ks) (sortable_strs ks) hz (fun b _ => by show A.units + 1 + 1 + 0 < cLine; omega) fun out2 hl2 e2 => ?_))
  rw [leS_eq] at e2
  obtain ⟨ep, he⟩ := sortedHeap_at (vs := out) (out := out2.toArray) hoL
  refine wpAny_pure ⟨_, rfl, fin out2 ep _ e2 he fun b u q => ?_⟩
  have hlt := Heap.lt_size q
  rw [sortedHeap_old (Nat.ne_of_lt hlt) (by rw [size_push']; exact Nat.lt_succ_of_lt hlt)]
  exact Heap.get?_push_of_some _ q
end
end OWK
namespace OWP
open PySem PySem.Spec PyProof.Rows L2 OWK
theorem each_of {R : Value → Str → Prop} : ∀ {l : List Value} {m : List Str}, l.length = m.length → (∀ (j : Nat) v x, l[j]? = some v → m[j]? = some x → R v x) → PySem.W.EachIs R l m
  | [], [], _, _ => .nil
  | v :: l, x :: m, e, h => .cons (h 0 v x rfl rfl) (each_of (by simpa using e) fun j v x h1 h2 => h (j + 1) v x (by simpa using h1) (by simpa using h2))
theorem gath_each {z : Str} {n : Nat} {acc : Array Value} (h : Gath z z.cps.size n acc) : PySem.W.EachIs (TokS n) acc.toList (OWK.signs z) := by
  refine each_of ?_ fun j v x h1 h2 => ?_
  · rw [Array.length_toList, h.1]
    unfold OWK.signs
    rw [List.length_map, Array.length_toList]
  · obtain ⟨c, tk, e1, e2, e3, e4⟩ := h.2 j v (by rw [← Array.getElem?_toList]; exact h1)
    unfold OWK.signs at h2
    rw [List.getElem?_map, Array.getElem?_toList, e1] at h2
    have ex := Option.some.inj h2
    subst ex
    exact ⟨tk, e2, e3, e4⟩
theorem each_tokO {N : Nat} : ∀ {its : List Value} {xs : List Str}, PySem.W.EachIs (TokS N) its xs → ∀ v ∈ its, ∃ x t, v = Value.str x t ∧ 0 < t ∧ t < N
  | _, _, .nil, v, h => nomatch h
  | _, _, .cons r t, v, h => by
    rcases List.mem_cons.mp h with rfl | h
    · obtain ⟨tk, e, h0, h1⟩ := r
      exact ⟨_, tk, e, Nat.pos_of_ne_zero h0, h1⟩
    · exact each_tokO t v h
section
variable {X : Cx} {pins : List (Addr × Obj)} {σ : L2.St} {H : Hp} {s : Shared}
theorem sorted_raw {ir : Nat} {rx : Str} {z : Str} {pf pa pos : Pos} {Q : Value → Shared → Prop} (hc : X.calm = true) (hu : X.A.units + 3 < cLine) (hNr : X.N[ir]? = some rx) (hvr : Vis X.env.scope rx) (hdr : (rx == ("__debug__" : Str)) = false) (hcr : (rx == ("__classdict__" : Str)) = false)
    (hgl : Gl X "sorted") (hml : X.mg "sorted" = none) (I : Inv X pins σ H s) (hσ : σ[ir]? = some (some (.str z))) (ha : z.cps.all (· < 128) = true) (hz : z.cps.size ≤ sizeLine) (h1 : 1 ≤ s.toks)
    (fin : ∀ (p : Addr) (o : Obj) (its : List Value) (N : Nat) (s' : Shared), N ≤ s'.toks → H p = none → TokO N o its → PySem.W.EachIs (TokS N) its (sortS (OWK.signs z)) → Inv X pins σ (upd H p (.frz o (.lst ((sortS (OWK.signs z)).map V.str)))) s' → Q (.ref p) s')
    (hst : starEach [.Name rx pa] X.env = [(false, eval (.Name rx pa) X.env)] := by rfl) :
    wpAny (model X.prog X.w) X.A (eval (.Call (.Name "sorted" pf) [.Name rx pa] [] pos) X.env) Q X.xe s := by
  refine wpAny_Call_Name_kw (ld_blt (u := .builtin "sorted") I hgl hml (by decide +kernel) ?_)
  refine PyProof.Rows.callWith_builtin1 ?_ hst rfl
  rw [hst]
  refine Calls.spliced_cons (raw_name hNr hvr I hσ (fun u r => ?_) hdr hcr)
  obtain ⟨t, rfl⟩ := r
  refine Calls.spliced_nil ?_
  refine sorted_gatherR (C := fun out s' => ∃ h' tk acc, out = Array.toList acc ∧ (∀ b o, s.heap.get? b = some o → h'.get? b = some o) ∧ Gath z z.cps.size tk acc ∧ s' = { s with heap := h', toks := tk }) hu
    (collect_tok (A := X.A.in1) (I.ok.hd hc) ha hz h1 fun h' tk acc k gg hk => ⟨h', tk, acc, rfl, k, gg, rfl⟩) fun out s' ⟨h', tk, acc, e1, k, gg, e2⟩ => ?_
  subst e1 e2
  have hlen : (OWK.signs z).length ≤ sizeLine := by
    unfold OWK.signs
    rw [List.length_map, Array.length_toList]; exact hz
  refine ⟨TokS tk, OWK.signs z, fun v x ⟨t, e, _⟩ => ⟨t, e⟩, hlen, gath_each gg, fun out2 ep h'' e2 he k2 => ?_⟩
  have I1 : Inv X pins σ H { s with heap := h', toks := tk } := I.kept k
  have hlz : (sortS (OWK.signs z)).length ≤ sizeLine := by rw [sortS_len]; exact hlen
  have I2 := I1.laid (t' := tk) k2 (Nat.le_refl _) (out_ok (each_tok e2) he hlz)
  have hf : H h'.objs.size = none := I1.hok.fresh (Nat.le_refl _)
  have I3 := lock_raw I2 upd_same (its := out2) (n := ep) he
  rw [upd_twice] at I3
  exact fin h'.objs.size _ out2 tk _ (Nat.le_refl _) hf ⟨ep, rfl, each_tokO e2⟩ e2 I3
end
end OWP
end
section
/-! found, rest = found + sign, rest.replace(sign, "") -/
namespace OWP
open PySem PySem.Spec PyProof.Rows L2 OWK
section
variable {X : Cx} {pins : List (Addr × Obj)} {σ : L2.St} {H : Hp} {s : Shared}
theorem found_rest {jf ir iy N j kt k2 : Nat} {fx rx y : Str} {z f0 x : Str} {t : Nat} {cc : Addr} {p1 p2 p3 p4 p5 cc0 apos cpos px py pt pt2 pos : Pos} (hc : X.calm = true) (hN : X.N.Nodup)
    (hNf : X.N[jf]? = some fx) (hlf : X.env.scope.names.lookup fx = some .local) (hdf : (fx == ("__debug__" : Str)) = false) (hcf : (fx == ("__classdict__" : Str)) = false)
    (hNr : X.N[ir]? = some rx) (hlr : X.env.scope.names.lookup rx = some .local) (hdr : (rx == ("__debug__" : Str)) = false) (hcr : (rx == ("__classdict__" : Str)) = false)
    (hky : X.env.kindOf y = some .cell) (hdy : (y == ("__debug__" : Str)) = false) (hcc : X.env.cells.lookup y = some cc) (hij : jf ≠ ir)
    (I : Inv X pins σ H s) (hσf : σ[jf]? = some (some (.str f0))) (hσr : σ[ir]? = some (some (.str z))) (hcell : s.heap.IsCell cc (some (.str x t))) (h0 : 0 < t) (ht : t < N) (hNs : N ≤ s.toks)
    (hz : z.length ≤ 1000) (hx : (x == ("" : Str)) = false) (hl : f0.length + x.length ≤ sizeLine)
    (hst1 : starEach [.BinOp (.Name fx p1) .Add (.Name y p2) p3, .Call (.Attribute (.Name rx p4) "replace" apos) [.Name y p5, .Constant (.str "") j cc0] [] cpos] X.env =
      [(false, eval (.BinOp (.Name fx p1) .Add (.Name y p2) p3) X.env), (false, eval (.Call (.Attribute (.Name rx p4) "replace" apos) [.Name y p5, .Constant (.str "") j cc0] [] cpos) X.env)])
    (hst2 : starEach [.Name y p5, .Constant (.str "") j cc0] X.env = [(false, eval (.Name y p5) X.env), (false, eval (.Constant (.str "") j cc0) X.env)])
    (hbase : attributeBase (.Name rx p4) "replace" X.env (eval (.Name rx p4) X.env) = eval (.Name rx p4) X.env) (hline : (apos.endLine == cpos.line) = true)
    (hw : swappedStores [.Tuple [.Name fx px, .Name rx py] kt pt] (.Tuple [.BinOp (.Name fx p1) .Add (.Name y p2) p3, .Call (.Attribute (.Name rx p4) "replace" apos) [.Name y p5, .Constant (.str "") j cc0] [] cpos] k2 pt2) X.env = pure (some [fx, rx]))
    (hs : swapsWithSole [.Tuple [.Name fx px, .Name rx py] kt pt] (.Tuple [.BinOp (.Name fx p1) .Add (.Name y p2) p3, .Call (.Attribute (.Name rx p4) "replace" apos) [.Name y p5, .Constant (.str "") j cc0] [] cpos] k2 pt2) pos.line X.env = pure false) :
    wpAny (model X.prog X.w) X.A (exec (.Assign [.Tuple [.Name fx px, .Name rx py] kt pt] (.Tuple [.BinOp (.Name fx p1) .Add (.Name y p2) p3, .Call (.Attribute (.Name rx p4) "replace" apos) [.Name y p5, .Constant (.str "") j cc0] [] cpos] k2 pt2) pos) X.env)
      (fun f s' => f = .next ∧ 0 ≤ s'.toks ∧ ∃ σ' H', Inv X pins σ' H' s' ∧ σ' = (σ.set jf (some (.str (f0 ++ x)))).set ir (some (.str (Txt.replace z x ""))) ∧ H' = H) X.xe s := by
  refine par_two hc hN hNf hNr hij hlf hlr I ?_ hst1 hw hs
  have sum : wpAny (model X.prog X.w) X.A (eval (.BinOp (.Name fx p1) .Add (.Name y p2) p3) X.env) (fun u1 s1 => ∃ t' tk, u1 = Value.str (f0 ++ x) t' ∧ s1 = { s with toks := tk }) X.xe s := by
    refine wpAny_BinOp (raw_name hNf (.inl hlf) I hσf (fun v r => name_cell I hky hcc hcell hdy ?_) hdf hcf)
    obtain ⟨tf, rfl⟩ := r
    exact add_str (fun t' tk => ⟨t', _, rfl, rfl⟩) hl
  refine wpAny_mono (PySem.wpAny_toks sum) (fun u1 s1 q => ?_) fun _ _ z => z.2
  obtain ⟨hk, t', tk, rfl, rfl⟩ := q
  have I1 : Inv X pins σ H { s with toks := tk } := I.tok tk
  refine repl_raw (N := N) (Z := fun x' s2 => x' = x ∧ ∃ k, s2 = { s with toks := k }) hNr (.inl hlr) hdr hcr I1 hσr (Nat.le_trans hNs hk) ?_ ?_ hz ?_ hst2 hbase hline
  · exact name_cell I1 hky hcc hcell hdy ⟨x, t, rfl, h0, ht, rfl, tk, rfl⟩
  · rintro x' s2 t2 k ⟨rfl, k3, rfl⟩
    exact ⟨Nat.zero_le _, .str (f0 ++ x'), .str (Txt.replace z x' ""), H, I.tok k, ⟨t', rfl⟩, ⟨t2, rfl⟩, rfl, rfl⟩
  · rintro x' s2 ⟨rfl, _⟩
    exact hx
end
end OWP
end
section
namespace OWP
open PySem PySem.Spec PyProof.Rows L2 OWK
def rIxB (K : PySem.W.Frag) : V → V → Hp → VK → Prop := fun x y H Q => rIxL K x y H Q ∨ rIxT K x y H Q
theorem ixB {X : Cx} {K : PySem.W.Frag} (h : X.K = K) : IxR X (rIxB K) := by
  subst h
  intro value slice pins s σ H x y v u Q I rx ry h hs
  rcases h with h | h
  · exact ix_list value slice pins s σ H x y v u Q I rx ry h hs
  · exact ix_tup value slice pins s σ H x y v u Q I rx ry h hs
theorem kaN {K : PySem.W.Frag} {t : String} (h1 : kitB t "tuple" = some false) (h2 : kitB t "list" = some false) : PySem.W.kitAny K (.type t) [.type "tuple", .type "list"] = some false :=
  kitAny_cons (kit_ty h1) (fun _ => kitAny_cons (kit_ty h2) (fun _ => kitAny_nil) (fun h => nomatch h)) (fun h => nomatch h)
theorem kaT {K : PySem.W.Frag} : PySem.W.kitAny K (.type "tuple") [.type "tuple", .type "list"] = some true :=
  kitAny_cons (r := true) (kit_ty (r := true) (by decide +kernel)) (fun h => nomatch h) (fun _ => rfl)
theorem kaL {K : PySem.W.Frag} : PySem.W.kitAny K (.type "list") [.type "tuple", .type "list"] = some true :=
  kitAny_cons (r := true) (kit_ty (r := false) (by decide +kernel)) (fun _ => kitAny_cons (r := true) (kit_ty (r := true) (by decide +kernel)) (fun h => nomatch h) (fun _ => rfl)) (fun _ => rfl)
theorem Thru.keep {K : PySem.W.Frag} {H H' : Hp} (s : Same H H') : ∀ {k : Nat} {x y : V}, Thru K H k x y → Thru K H' k x y := by
  intro k x y h
  induction h with
  | int k i => exact .int k i
  | str k x => exact .str k x
  | tup k ha hb hl hm he ih => exact .tup k (s _ _ ha) (s _ _ hb) hl hm ih
  | lst k ha hb hl hm he ih => exact .lst k (s _ _ ha) (s _ _ hb) hl hm ih
section
variable {P : Program} {w : World} {K : PySem.W.Frag} {mg : Str → Option Value} {base : Heap}
theorem sc_law_alike : FnScope ["_law_found", "_law_due", "_law_k"] ["_law_found", "_law_due"] (defScope lAlike) := ⟨rfl, rfl, rfl, by decide +kernel, rfl, by decide +kernel, by decide +kernel⟩
theorem ok_law_alike0 (D : DefAt K mg "_law_alike" lAlike) (T : Free mg) : OkAt P w K mg base 1 "_law_alike" ["_law_found", "_law_due"] (sp_lalike K 0) := by
  obtain ⟨f, fd, g, F⟩ := D
  refine ⟨f, fd, g, F.kp, F.binds (ps := ["_law_found", "_law_due"]) (fun _ _ _ _ _ _ us hl => match us, hl with | [_, _], _ => rfl), ?_⟩
  refine F.ok sc_law_alike (fun vs H Q E h => ?_) (fun cdv A outer s H vs Q E hr h => ?_)
  · obtain ⟨_, _, rfl, _⟩ := h
    rfl
  · have nd := sc_law_alike.nd
    obtain ⟨x, y, rfl, ht, q⟩ := h
    cases ht with
    | int k i =>
      refine ⟨_, (pss_cons (ps_if (pt_val (pe_callB call_isiT (by rfl) T.isinstance (by decide +kernel) (pa_cons (pv 1) (pa_cons (pe_tup (pa_cons (pe_bltn (v := .ty "tuple") (by rfl) T.tuple (by decide +kernel) rfl) (pa_cons (pe_bltn (v := .ty "list") (by rfl) T.list (by decide +kernel) rfl) pa_nil))) pa_nil)))) (pss_cons ps_never (pss_cons ps_never (pss_one ps_never))) pss_nil)
      (pss_cons (ps_if (PW.pt (pw_or (pt_cmpR op_isN (pv 1) pe_non (nomark _)) (pw_or1 (pt_val (pe_callB call_isi (by rfl) T.isinstance (by decide +kernel) (pa_cons (pv 1) (pa_cons (pe_bltn (v := .ty "str") (by rfl) T.str (by decide +kernel) rfl) pa_nil))))))) (pss_one (ps_ret (pe_and (pe_cmpR op_eq (pv 0) (pv 1) (nomark _)) (pe_one (pe_cmpR op_eq (pe_callB call_isi (by rfl) T.isinstance (by decide +kernel) (pa_cons (pv 0) (pa_cons (pe_bltn (v := .ty "str") (by rfl) T.str (by decide +kernel) rfl) pa_nil))) (pe_callB call_isi (by rfl) T.isinstance (by decide +kernel) (pa_cons (pv 1) (pa_cons (pe_bltn (v := .ty "str") (by rfl) T.str (by decide +kernel) rfl) pa_nil))) (nomark _)))))) pss_nil)
      (pss_one (ps_ret (pe_and (pe_callB call_isi (by rfl) T.isinstance (by decide +kernel) (pa_cons (pv 0) (pa_cons (pe_bltn (v := .ty "int") (by rfl) T.int (by decide +kernel) rfl) pa_nil))) (pe_and (pe_cmpR op_eq (pe_callB call_isi (by rfl) T.isinstance (by decide +kernel) (pa_cons (pv 0) (pa_cons (pe_bltn (v := .ty "bool") (by rfl) T.bool (by decide +kernel) rfl) pa_nil))) (pe_callB call_isi (by rfl) T.isinstance (by decide +kernel) (pa_cons (pv 1) (pa_cons (pe_bltn (v := .ty "bool") (by rfl) T.bool (by decide +kernel) rfl) pa_nil))) (nomark _)) (pe_one (pe_cmpR op_eq (pv 0) (pv 1) (nomark _))))))))), ?_⟩
      refine ⟨_, rfl, two_line, fun p hp => ⟨_, p, _, _, _, false, rfl, upd_same, .cons (.ty _) (.cons (.ty _) .nil), .base (.int i), kaN (by decide +kernel) (by decide +kernel), false, rfl, iteF ?_⟩⟩
      refine ⟨_, rfl, rfl, false, rfl, iteF ?_⟩
      refine ⟨_, rfl, _, _, _, _, false, rfl, .ty _, .base (.int i), kit_ty (by decide +kernel), false, rfl, iteF ?_⟩
      refine ⟨_, rfl, _, _, _, _, true, rfl, .ty _, .base (.int i), kit_ty (by decide +kernel), true, rfl, iteT ?_⟩
      refine ⟨_, rfl, _, _, _, _, false, rfl, .ty _, .base (.int i), kit_ty (by decide +kernel), _, rfl, _, _, _, _, false, rfl, .ty _, .base (.int i), kit_ty (by decide +kernel), rfl, true, rfl, iteT ?_⟩
      refine ⟨_, rfl, _, rfl, rfl, ?_⟩
      show Q (.bl (decide (V.int i = V.int i))) _
      rw [decide_eq_true rfl]
      exact q _ (sameNew hp)
    | str k x =>
      refine ⟨_, (pss_cons (ps_if (pt_val (pe_callB call_isiT (by rfl) T.isinstance (by decide +kernel) (pa_cons (pv 1) (pa_cons (pe_tup (pa_cons (pe_bltn (v := .ty "tuple") (by rfl) T.tuple (by decide +kernel) rfl) (pa_cons (pe_bltn (v := .ty "list") (by rfl) T.list (by decide +kernel) rfl) pa_nil))) pa_nil)))) (pss_cons ps_never (pss_cons ps_never (pss_one ps_never))) pss_nil)
      (pss_cons (ps_if (PW.pt (pw_or (pt_cmpR op_isN (pv 1) pe_non (nomark _)) (pw_or1 (pt_val (pe_callB call_isi (by rfl) T.isinstance (by decide +kernel) (pa_cons (pv 1) (pa_cons (pe_bltn (v := .ty "str") (by rfl) T.str (by decide +kernel) rfl) pa_nil))))))) (pss_one (ps_ret (pe_and (pe_cmpR op_eq (pv 0) (pv 1) (nomark _)) (pe_one (pe_cmpR op_eq (pe_callB call_isi (by rfl) T.isinstance (by decide +kernel) (pa_cons (pv 0) (pa_cons (pe_bltn (v := .ty "str") (by rfl) T.str (by decide +kernel) rfl) pa_nil))) (pe_callB call_isi (by rfl) T.isinstance (by decide +kernel) (pa_cons (pv 1) (pa_cons (pe_bltn (v := .ty "str") (by rfl) T.str (by decide +kernel) rfl) pa_nil))) (nomark _)))))) pss_nil)
      (pss_one (ps_ret (pe_and (pe_callB call_isi (by rfl) T.isinstance (by decide +kernel) (pa_cons (pv 0) (pa_cons (pe_bltn (v := .ty "int") (by rfl) T.int (by decide +kernel) rfl) pa_nil))) (pe_and (pe_cmpR op_eq (pe_callB call_isi (by rfl) T.isinstance (by decide +kernel) (pa_cons (pv 0) (pa_cons (pe_bltn (v := .ty "bool") (by rfl) T.bool (by decide +kernel) rfl) pa_nil))) (pe_callB call_isi (by rfl) T.isinstance (by decide +kernel) (pa_cons (pv 1) (pa_cons (pe_bltn (v := .ty "bool") (by rfl) T.bool (by decide +kernel) rfl) pa_nil))) (nomark _)) (pe_one (pe_cmpR op_eq (pv 0) (pv 1) (nomark _))))))))), ?_⟩
      refine ⟨_, rfl, two_line, fun p hp => ⟨_, p, _, _, _, false, rfl, upd_same, .cons (.ty _) (.cons (.ty _) .nil), .base (.str x), kaN (by decide +kernel) (by decide +kernel), false, rfl, iteF ?_⟩⟩
      refine ⟨_, rfl, rfl, false, rfl, iteF ?_⟩
      refine ⟨_, rfl, _, _, _, _, true, rfl, .ty _, .base (.str x), kit_ty (by decide +kernel), true, rfl, iteT ?_⟩
      refine ⟨_, rfl, _, rfl, rfl, true, ?_, iteT ?_⟩
      · show V.bl (decide (V.str x = V.str x)) = V.bl true
        rw [decide_eq_true rfl]
      refine ⟨_, rfl, _, _, _, _, true, rfl, .ty _, .base (.str x), kit_ty (by decide +kernel), _, rfl, _, _, _, _, true, rfl, .ty _, .base (.str x), kit_ty (by decide +kernel), rfl, ?_⟩
      exact q _ (sameNew hp)
theorem ok_law_alikeS {k : Nat} (D : DefAt K mg "_law_alike" lAlike) (T : Free mg) (O : OkAt P w K mg base (k + 1) "_law_alike" ["_law_found", "_law_due"] (sp_lalike K k)) : OkAt P w K mg base (k + 2) "_law_alike" ["_law_found", "_law_due"] (sp_lalike K (k + 1)) := by
  obtain ⟨f, fd, g, F⟩ := D
  obtain ⟨f1, fd1, g1, k1, b1, G1⟩ := O
  refine ⟨f, fd, g, F.kp, F.binds (ps := ["_law_found", "_law_due"]) (fun _ _ _ _ _ _ us hl => match us, hl with | [_, _], _ => rfl), ?_⟩
  refine F.ok sc_law_alike (fun vs H Q E h => ?_) (fun cdv A outer s H vs Q E hr h => ?_)
  · obtain ⟨_, _, rfl, _⟩ := h
    rfl
  · have nd := sc_law_alike.nd
    obtain ⟨x, y, rfl, ht, q⟩ := h
    cases ht with
    | int k i =>
      refine ⟨_, (pss_cons (ps_if (pt_val (pe_callB call_isiT (by rfl) T.isinstance (by decide +kernel) (pa_cons (pv 1) (pa_cons (pe_tup (pa_cons (pe_bltn (v := .ty "tuple") (by rfl) T.tuple (by decide +kernel) rfl) (pa_cons (pe_bltn (v := .ty "list") (by rfl) T.list (by decide +kernel) rfl) pa_nil))) pa_nil)))) (pss_cons ps_never (pss_cons ps_never (pss_one ps_never))) pss_nil)
      (pss_cons (ps_if (PW.pt (pw_or (pt_cmpR op_isN (pv 1) pe_non (nomark _)) (pw_or1 (pt_val (pe_callB call_isi (by rfl) T.isinstance (by decide +kernel) (pa_cons (pv 1) (pa_cons (pe_bltn (v := .ty "str") (by rfl) T.str (by decide +kernel) rfl) pa_nil))))))) (pss_one (ps_ret (pe_and (pe_cmpR op_eq (pv 0) (pv 1) (nomark _)) (pe_one (pe_cmpR op_eq (pe_callB call_isi (by rfl) T.isinstance (by decide +kernel) (pa_cons (pv 0) (pa_cons (pe_bltn (v := .ty "str") (by rfl) T.str (by decide +kernel) rfl) pa_nil))) (pe_callB call_isi (by rfl) T.isinstance (by decide +kernel) (pa_cons (pv 1) (pa_cons (pe_bltn (v := .ty "str") (by rfl) T.str (by decide +kernel) rfl) pa_nil))) (nomark _)))))) pss_nil)
      (pss_one (ps_ret (pe_and (pe_callB call_isi (by rfl) T.isinstance (by decide +kernel) (pa_cons (pv 0) (pa_cons (pe_bltn (v := .ty "int") (by rfl) T.int (by decide +kernel) rfl) pa_nil))) (pe_and (pe_cmpR op_eq (pe_callB call_isi (by rfl) T.isinstance (by decide +kernel) (pa_cons (pv 0) (pa_cons (pe_bltn (v := .ty "bool") (by rfl) T.bool (by decide +kernel) rfl) pa_nil))) (pe_callB call_isi (by rfl) T.isinstance (by decide +kernel) (pa_cons (pv 1) (pa_cons (pe_bltn (v := .ty "bool") (by rfl) T.bool (by decide +kernel) rfl) pa_nil))) (nomark _)) (pe_one (pe_cmpR op_eq (pv 0) (pv 1) (nomark _))))))))), ?_⟩
      refine ⟨_, rfl, two_line, fun p hp => ⟨_, p, _, _, _, false, rfl, upd_same, .cons (.ty _) (.cons (.ty _) .nil), .base (.int i), kaN (by decide +kernel) (by decide +kernel), false, rfl, iteF ?_⟩⟩
      refine ⟨_, rfl, rfl, false, rfl, iteF ?_⟩
      refine ⟨_, rfl, _, _, _, _, false, rfl, .ty _, .base (.int i), kit_ty (by decide +kernel), false, rfl, iteF ?_⟩
      refine ⟨_, rfl, _, _, _, _, true, rfl, .ty _, .base (.int i), kit_ty (by decide +kernel), true, rfl, iteT ?_⟩
      refine ⟨_, rfl, _, _, _, _, false, rfl, .ty _, .base (.int i), kit_ty (by decide +kernel), _, rfl, _, _, _, _, false, rfl, .ty _, .base (.int i), kit_ty (by decide +kernel), rfl, true, rfl, iteT ?_⟩
      refine ⟨_, rfl, _, rfl, rfl, ?_⟩
      show Q (.bl (decide (V.int i = V.int i))) _
      rw [decide_eq_true rfl]
      exact q _ (sameNew hp)
    | str k x =>
      refine ⟨_, (pss_cons (ps_if (pt_val (pe_callB call_isiT (by rfl) T.isinstance (by decide +kernel) (pa_cons (pv 1) (pa_cons (pe_tup (pa_cons (pe_bltn (v := .ty "tuple") (by rfl) T.tuple (by decide +kernel) rfl) (pa_cons (pe_bltn (v := .ty "list") (by rfl) T.list (by decide +kernel) rfl) pa_nil))) pa_nil)))) (pss_cons ps_never (pss_cons ps_never (pss_one ps_never))) pss_nil)
      (pss_cons (ps_if (PW.pt (pw_or (pt_cmpR op_isN (pv 1) pe_non (nomark _)) (pw_or1 (pt_val (pe_callB call_isi (by rfl) T.isinstance (by decide +kernel) (pa_cons (pv 1) (pa_cons (pe_bltn (v := .ty "str") (by rfl) T.str (by decide +kernel) rfl) pa_nil))))))) (pss_one (ps_ret (pe_and (pe_cmpR op_eq (pv 0) (pv 1) (nomark _)) (pe_one (pe_cmpR op_eq (pe_callB call_isi (by rfl) T.isinstance (by decide +kernel) (pa_cons (pv 0) (pa_cons (pe_bltn (v := .ty "str") (by rfl) T.str (by decide +kernel) rfl) pa_nil))) (pe_callB call_isi (by rfl) T.isinstance (by decide +kernel) (pa_cons (pv 1) (pa_cons (pe_bltn (v := .ty "str") (by rfl) T.str (by decide +kernel) rfl) pa_nil))) (nomark _)))))) pss_nil)
      (pss_one (ps_ret (pe_and (pe_callB call_isi (by rfl) T.isinstance (by decide +kernel) (pa_cons (pv 0) (pa_cons (pe_bltn (v := .ty "int") (by rfl) T.int (by decide +kernel) rfl) pa_nil))) (pe_and (pe_cmpR op_eq (pe_callB call_isi (by rfl) T.isinstance (by decide +kernel) (pa_cons (pv 0) (pa_cons (pe_bltn (v := .ty "bool") (by rfl) T.bool (by decide +kernel) rfl) pa_nil))) (pe_callB call_isi (by rfl) T.isinstance (by decide +kernel) (pa_cons (pv 1) (pa_cons (pe_bltn (v := .ty "bool") (by rfl) T.bool (by decide +kernel) rfl) pa_nil))) (nomark _)) (pe_one (pe_cmpR op_eq (pv 0) (pv 1) (nomark _))))))))), ?_⟩
      refine ⟨_, rfl, two_line, fun p hp => ⟨_, p, _, _, _, false, rfl, upd_same, .cons (.ty _) (.cons (.ty _) .nil), .base (.str x), kaN (by decide +kernel) (by decide +kernel), false, rfl, iteF ?_⟩⟩
      refine ⟨_, rfl, rfl, false, rfl, iteF ?_⟩
      refine ⟨_, rfl, _, _, _, _, true, rfl, .ty _, .base (.str x), kit_ty (by decide +kernel), true, rfl, iteT ?_⟩
      refine ⟨_, rfl, _, rfl, rfl, true, ?_, iteT ?_⟩
      · show V.bl (decide (V.str x = V.str x)) = V.bl true
        rw [decide_eq_true rfl]
      refine ⟨_, rfl, _, _, _, _, true, rfl, .ty _, .base (.str x), kit_ty (by decide +kernel), _, rfl, _, _, _, _, true, rfl, .ty _, .base (.str x), kit_ty (by decide +kernel), rfl, ?_⟩
      exact q _ (sameNew hp)
    | @tup _ a b xs ys ha hb hl hm he =>
      refine ⟨_, (pss_cons (ps_if (pt_val (pe_callB call_isiT (by rfl) T.isinstance (by decide +kernel) (pa_cons (pv 1) (pa_cons (pe_tup (pa_cons (pe_bltn (v := .ty "tuple") (by rfl) T.tuple (by decide +kernel) rfl) (pa_cons (pe_bltn (v := .ty "list") (by rfl) T.list (by decide +kernel) rfl) pa_nil))) pa_nil)))) (pss_cons (ps_if (PW.pt (pw_or (pt_not (pt_val (pe_callB call_isiT (by rfl) T.isinstance (by decide +kernel) (pa_cons (pv 0) (pa_cons (pe_tup (pa_cons (pe_bltn (v := .ty "tuple") (by rfl) T.tuple (by decide +kernel) rfl) (pa_cons (pe_bltn (v := .ty "list") (by rfl) T.list (by decide +kernel) rfl) pa_nil))) pa_nil))))) (pw_or1 (pt_cmpR op_ne (pe_callB call_isi (by rfl) T.isinstance (by decide +kernel) (pa_cons (pv 0) (pa_cons (pe_bltn (v := .ty "list") (by rfl) T.list (by decide +kernel) rfl) pa_nil))) (pe_callB call_isi (by rfl) T.isinstance (by decide +kernel) (pa_cons (pv 1) (pa_cons (pe_bltn (v := .ty "list") (by rfl) T.list (by decide +kernel) rfl) pa_nil))) (nomark _))))) (pss_one (ps_ret pe_bl)) pss_nil)
      (pss_cons (ps_if (pt_cmpR op_ne (pe_callB call_len_seq (by rfl) T.len PySem.boot_len (pa_cons (pv 0) pa_nil)) (pe_callB call_len_seq (by rfl) T.len PySem.boot_len (pa_cons (pv 1) pa_nil)) (nomark _)) (pss_one (ps_ret pe_bl)) pss_nil)
      (pss_one (ps_ret (pe_cmpR (op_eqDK (K := K) rfl hr.units) (pe_lc (own := [("_law_k", 2)]) (g := gName 2) rfl nd (pi_range1 (by rfl) T.range (pa_cons (pe_callB call_len_seq (by rfl) T.len PySem.boot_len (pa_cons (pv 1) pa_nil)) pa_nil)) (blkOk_by (own := [("_law_k", 2)]) (N := ["_law_found", "_law_due", "_law_k"]) (sc := defScope lAlike) (by decide +kernel)) (fun _ _ _ _ _ => (pg_name (i := 2) nd rfl (Or.inl rfl))) (fun _ _ _ _ _ => (pts_one (pt_not (pt_val (pe_call G1 hr (by rfl) g1 k1 b1 .nil pass0 (pa_cons (pe_ix (ixB (K := K) rfl) (pv 0) (pv 2) (fun _ _ => rfl)) (pa_cons (pe_ix (ixB (K := K) rfl) (pv 1) (pv 2) (fun _ _ => rfl)) pa_nil))))))) (fun _ _ _ _ _ => (pv 2))) (pe_lst pa_nil) (nomark _)))))) pss_nil)
      (pss_cons (ps_if (PW.pt (pw_or (pt_cmpR op_isN (pv 1) pe_non (nomark _)) (pw_or1 (pt_val (pe_callB call_isi (by rfl) T.isinstance (by decide +kernel) (pa_cons (pv 1) (pa_cons (pe_bltn (v := .ty "str") (by rfl) T.str (by decide +kernel) rfl) pa_nil))))))) (pss_one (ps_ret (pe_and (pe_cmpR op_eq (pv 0) (pv 1) (nomark _)) (pe_one (pe_cmpR op_eq (pe_callB call_isi (by rfl) T.isinstance (by decide +kernel) (pa_cons (pv 0) (pa_cons (pe_bltn (v := .ty "str") (by rfl) T.str (by decide +kernel) rfl) pa_nil))) (pe_callB call_isi (by rfl) T.isinstance (by decide +kernel) (pa_cons (pv 1) (pa_cons (pe_bltn (v := .ty "str") (by rfl) T.str (by decide +kernel) rfl) pa_nil))) (nomark _)))))) pss_nil)
      (pss_one (ps_ret (pe_and (pe_callB call_isi (by rfl) T.isinstance (by decide +kernel) (pa_cons (pv 0) (pa_cons (pe_bltn (v := .ty "int") (by rfl) T.int (by decide +kernel) rfl) pa_nil))) (pe_and (pe_cmpR op_eq (pe_callB call_isi (by rfl) T.isinstance (by decide +kernel) (pa_cons (pv 0) (pa_cons (pe_bltn (v := .ty "bool") (by rfl) T.bool (by decide +kernel) rfl) pa_nil))) (pe_callB call_isi (by rfl) T.isinstance (by decide +kernel) (pa_cons (pv 1) (pa_cons (pe_bltn (v := .ty "bool") (by rfl) T.bool (by decide +kernel) rfl) pa_nil))) (nomark _)) (pe_one (pe_cmpR op_eq (pv 0) (pv 1) (nomark _))))))))), ?_⟩
      refine ⟨_, rfl, two_line, fun p hp => ⟨_, p, _, _, _, true, rfl, upd_same, .cons (.ty _) (.cons (.ty _) .nil), .base (.tup ((sameNew hp) _ _ hb)), kaT, true, rfl, iteT ?_⟩⟩
      have sm1 : Same H (upd H p (.tup [.ty "tuple", .ty "list"])) := sameNew hp
      generalize upd H p (.tup [.ty "tuple", .ty "list"]) = H1 at sm1
      refine ⟨_, rfl, two_line, fun p2 hp2 => ⟨_, p2, _, _, _, true, rfl, upd_same, .cons (.ty _) (.cons (.ty _) .nil), .base (.tup ((sameNew hp2) _ _ (sm1 _ _ ha))), kaT, true, rfl, iteF ?_⟩⟩
      have sm2 : Same H (upd H1 p2 (.tup [.ty "tuple", .ty "list"])) := sm1.trans (sameNew hp2)
      generalize upd H1 p2 (.tup [.ty "tuple", .ty "list"]) = H2 at sm2
      have ha2 := sm2 _ _ ha
      have hb2 := sm2 _ _ hb
      refine ⟨_, rfl, _, _, _, _, false, rfl, .ty _, .base (.tup ha2), kit_ty (by decide +kernel), _, rfl, _, _, _, _, false, rfl, .ty _, .base (.tup hb2), kit_ty (by decide +kernel), rfl, false, rfl, iteF ?_⟩
      refine ⟨_, rfl, a, xs, rfl, .inr (SqT.of ha2), _, rfl, b, ys, rfl, .inr (SqT.of hb2), rfl, false, ?_, iteF ?_⟩
      · show V.bl (!decide (V.int xs.length = V.int ys.length)) = V.bl false
        rw [hl, decide_eq_true rfl]
        rfl
      refine ⟨_, rfl, b, ys, rfl, .inr (SqT.of hb2), (ys.length : Int), rfl, by omega, by omega, fun D hD => lc_gen (n := ys.length) (fun j H' => Same H2 H' ∧ H' D = some (.lst [])) ⟨sameNew hD, upd_same⟩ (fun j H' hj _ => ?_) (fun H' _ => ?_) ?_ ?_⟩
      · show j < ((ys.length : Int)).toNat
        omega
      · show ((ys.length : Int)).toNat ≤ ys.length
        omega
      · rintro j z H3 H4 hj ⟨sm3, hD3⟩ ⟨rfl, rfl⟩
        rw [Int.zero_add]
        have hjx : j < xs.length := by omega
        have hjT := he j xs[j] ys[j] (List.getElem?_eq_getElem hjx) (List.getElem?_eq_getElem hj)
        refine ⟨rfl, _, rfl, _, rfl, .inr ⟨a, xs, _, _, rfl, rfl, SqT.of (sm3 _ _ ha2), atI_nat (List.getElem?_eq_getElem hjx), ?_⟩⟩
        refine ⟨_, rfl, _, rfl, .inr ⟨b, ys, _, _, rfl, rfl, SqT.of (sm3 _ _ hb2), atI_nat (List.getElem?_eq_getElem hj), ?_⟩⟩
        exact ⟨_, _, rfl, (hjT.keep sm2).keep sm3, fun H5 sm5 => ⟨true, rfl, iteF ⟨sm3.trans sm5, sm5 _ _ hD3⟩⟩⟩
      rintro H3 ⟨sm3, hD3⟩
      refine ⟨Nat.zero_le _, fun p3 hp3 => ?_⟩
      have sm4 : Same H3 (upd H3 p3 (.lst [])) := sameNew hp3
      refine ⟨_, _, .lst (SqL.of (sm4 _ _ hD3)) .nil, .lst (SqL.of upd_same) .nil, ?_, ?_, ?_⟩
      · decide +kernel
      · decide +kernel
      have e : PyData.eqv (.list []) (.list []) = true := by decide +kernel
      rw [e]
      exact q _ ((sm2.trans sm3).trans sm4)
    | @lst _ a b xs ys ha hb hl hm he =>
      refine ⟨_, (pss_cons (ps_if (pt_val (pe_callB call_isiT (by rfl) T.isinstance (by decide +kernel) (pa_cons (pv 1) (pa_cons (pe_tup (pa_cons (pe_bltn (v := .ty "tuple") (by rfl) T.tuple (by decide +kernel) rfl) (pa_cons (pe_bltn (v := .ty "list") (by rfl) T.list (by decide +kernel) rfl) pa_nil))) pa_nil)))) (pss_cons (ps_if (PW.pt (pw_or (pt_not (pt_val (pe_callB call_isiT (by rfl) T.isinstance (by decide +kernel) (pa_cons (pv 0) (pa_cons (pe_tup (pa_cons (pe_bltn (v := .ty "tuple") (by rfl) T.tuple (by decide +kernel) rfl) (pa_cons (pe_bltn (v := .ty "list") (by rfl) T.list (by decide +kernel) rfl) pa_nil))) pa_nil))))) (pw_or1 (pt_cmpR op_ne (pe_callB call_isi (by rfl) T.isinstance (by decide +kernel) (pa_cons (pv 0) (pa_cons (pe_bltn (v := .ty "list") (by rfl) T.list (by decide +kernel) rfl) pa_nil))) (pe_callB call_isi (by rfl) T.isinstance (by decide +kernel) (pa_cons (pv 1) (pa_cons (pe_bltn (v := .ty "list") (by rfl) T.list (by decide +kernel) rfl) pa_nil))) (nomark _))))) (pss_one (ps_ret pe_bl)) pss_nil)
      (pss_cons (ps_if (pt_cmpR op_ne (pe_callB call_len_seq (by rfl) T.len PySem.boot_len (pa_cons (pv 0) pa_nil)) (pe_callB call_len_seq (by rfl) T.len PySem.boot_len (pa_cons (pv 1) pa_nil)) (nomark _)) (pss_one (ps_ret pe_bl)) pss_nil)
      (pss_one (ps_ret (pe_cmpR (op_eqDK (K := K) rfl hr.units) (pe_lc (own := [("_law_k", 2)]) (g := gName 2) rfl nd (pi_range1 (by rfl) T.range (pa_cons (pe_callB call_len_seq (by rfl) T.len PySem.boot_len (pa_cons (pv 1) pa_nil)) pa_nil)) (blkOk_by (own := [("_law_k", 2)]) (N := ["_law_found", "_law_due", "_law_k"]) (sc := defScope lAlike) (by decide +kernel)) (fun _ _ _ _ _ => (pg_name (i := 2) nd rfl (Or.inl rfl))) (fun _ _ _ _ _ => (pts_one (pt_not (pt_val (pe_call G1 hr (by rfl) g1 k1 b1 .nil pass0 (pa_cons (pe_ix (ixB (K := K) rfl) (pv 0) (pv 2) (fun _ _ => rfl)) (pa_cons (pe_ix (ixB (K := K) rfl) (pv 1) (pv 2) (fun _ _ => rfl)) pa_nil))))))) (fun _ _ _ _ _ => (pv 2))) (pe_lst pa_nil) (nomark _)))))) pss_nil)
      (pss_cons (ps_if (PW.pt (pw_or (pt_cmpR op_isN (pv 1) pe_non (nomark _)) (pw_or1 (pt_val (pe_callB call_isi (by rfl) T.isinstance (by decide +kernel) (pa_cons (pv 1) (pa_cons (pe_bltn (v := .ty "str") (by rfl) T.str (by decide +kernel) rfl) pa_nil))))))) (pss_one (ps_ret (pe_and (pe_cmpR op_eq (pv 0) (pv 1) (nomark _)) (pe_one (pe_cmpR op_eq (pe_callB call_isi (by rfl) T.isinstance (by decide +kernel) (pa_cons (pv 0) (pa_cons (pe_bltn (v := .ty "str") (by rfl) T.str (by decide +kernel) rfl) pa_nil))) (pe_callB call_isi (by rfl) T.isinstance (by decide +kernel) (pa_cons (pv 1) (pa_cons (pe_bltn (v := .ty "str") (by rfl) T.str (by decide +kernel) rfl) pa_nil))) (nomark _)))))) pss_nil)
      (pss_one (ps_ret (pe_and (pe_callB call_isi (by rfl) T.isinstance (by decide +kernel) (pa_cons (pv 0) (pa_cons (pe_bltn (v := .ty "int") (by rfl) T.int (by decide +kernel) rfl) pa_nil))) (pe_and (pe_cmpR op_eq (pe_callB call_isi (by rfl) T.isinstance (by decide +kernel) (pa_cons (pv 0) (pa_cons (pe_bltn (v := .ty "bool") (by rfl) T.bool (by decide +kernel) rfl) pa_nil))) (pe_callB call_isi (by rfl) T.isinstance (by decide +kernel) (pa_cons (pv 1) (pa_cons (pe_bltn (v := .ty "bool") (by rfl) T.bool (by decide +kernel) rfl) pa_nil))) (nomark _)) (pe_one (pe_cmpR op_eq (pv 0) (pv 1) (nomark _))))))))), ?_⟩
      refine ⟨_, rfl, two_line, fun p hp => ⟨_, p, _, _, _, true, rfl, upd_same, .cons (.ty _) (.cons (.ty _) .nil), .base (.lst ((sameNew hp) _ _ hb)), kaL, true, rfl, iteT ?_⟩⟩
      have sm1 : Same H (upd H p (.tup [.ty "tuple", .ty "list"])) := sameNew hp
      generalize upd H p (.tup [.ty "tuple", .ty "list"]) = H1 at sm1
      refine ⟨_, rfl, two_line, fun p2 hp2 => ⟨_, p2, _, _, _, true, rfl, upd_same, .cons (.ty _) (.cons (.ty _) .nil), .base (.lst ((sameNew hp2) _ _ (sm1 _ _ ha))), kaL, true, rfl, iteF ?_⟩⟩
      have sm2 : Same H (upd H1 p2 (.tup [.ty "tuple", .ty "list"])) := sm1.trans (sameNew hp2)
      generalize upd H1 p2 (.tup [.ty "tuple", .ty "list"]) = H2 at sm2
      have ha2 := sm2 _ _ ha
      have hb2 := sm2 _ _ hb
      refine ⟨_, rfl, _, _, _, _, true, rfl, .ty _, .base (.lst ha2), kit_ty (by decide +kernel), _, rfl, _, _, _, _, true, rfl, .ty _, .base (.lst hb2), kit_ty (by decide +kernel), rfl, false, rfl, iteF ?_⟩
      refine ⟨_, rfl, a, xs, rfl, .inl (SqL.of ha2), _, rfl, b, ys, rfl, .inl (SqL.of hb2), rfl, false, ?_, iteF ?_⟩
      · show V.bl (!decide (V.int xs.length = V.int ys.length)) = V.bl false
        rw [hl, decide_eq_true rfl]
        rfl
      refine ⟨_, rfl, b, ys, rfl, .inl (SqL.of hb2), (ys.length : Int), rfl, by omega, by omega, fun D hD => lc_gen (n := ys.length) (fun j H' => Same H2 H' ∧ H' D = some (.lst [])) ⟨sameNew hD, upd_same⟩ (fun j H' hj _ => ?_) (fun H' _ => ?_) ?_ ?_⟩
      · show j < ((ys.length : Int)).toNat
        omega
      · show ((ys.length : Int)).toNat ≤ ys.length
        omega
      · rintro j z H3 H4 hj ⟨sm3, hD3⟩ ⟨rfl, rfl⟩
        rw [Int.zero_add]
        have hjx : j < xs.length := by omega
        have hjT := he j xs[j] ys[j] (List.getElem?_eq_getElem hjx) (List.getElem?_eq_getElem hj)
        refine ⟨rfl, _, rfl, _, rfl, .inl ⟨a, xs, _, _, rfl, rfl, SqL.of (sm3 _ _ ha2), atI_nat (List.getElem?_eq_getElem hjx), ?_⟩⟩
        refine ⟨_, rfl, _, rfl, .inl ⟨b, ys, _, _, rfl, rfl, SqL.of (sm3 _ _ hb2), atI_nat (List.getElem?_eq_getElem hj), ?_⟩⟩
        exact ⟨_, _, rfl, (hjT.keep sm2).keep sm3, fun H5 sm5 => ⟨true, rfl, iteF ⟨sm3.trans sm5, sm5 _ _ hD3⟩⟩⟩
      rintro H3 ⟨sm3, hD3⟩
      refine ⟨Nat.zero_le _, fun p3 hp3 => ?_⟩
      have sm4 : Same H3 (upd H3 p3 (.lst [])) := sameNew hp3
      refine ⟨_, _, .lst (SqL.of (sm4 _ _ hD3)) .nil, .lst (SqL.of upd_same) .nil, ?_, ?_, ?_⟩
      · decide +kernel
      · decide +kernel
      have e : PyData.eqv (.list []) (.list []) = true := by decide +kernel
      rw [e]
      exact q _ ((sm2.trans sm3).trans sm4)
end
end OWP
end
section
namespace OWP
open PySem PySem.Spec PyProof.Rows L2 OWK
section
variable {P : Program} {w : World} {K : PySem.W.Frag} {mg : Str → Option Value} {base : Heap}
theorem sc__law_kind : FnScope ["_law_company_here", "_law_word_here", "_law_rest", "_law_found", "_law_turn", "_law_free", "_law_at", "_law_sign"] ["_law_company_here", "_law_word_here"] (defScope lKind) := ⟨rfl, rfl, rfl, by decide +kernel, rfl, by decide +kernel, by decide +kernel⟩
theorem ok__law_kind (D : DefAt K mg "_law_kind" lKind) (T : Free mg) (O__law_firsts : OkAt P w K mg base 1 "_law_firsts" ["_law_word_here"] sp_firsts) (O__law_friend : OkAt P w K mg base 1 "_law_friend" ["_law_company_here", "_law_one", "_law_other"] sp_friend) :
    OkAt P w K mg base 2 "_law_kind" ["_law_company_here", "_law_word_here"] sp_kind := by
  obtain ⟨fu, fd, g, F⟩ := D
  obtain ⟨f__law_firsts, fd__law_firsts, g__law_firsts, k__law_firsts, b__law_firsts, G__law_firsts⟩ := O__law_firsts
  obtain ⟨f__law_friend, fd__law_friend, g__law_friend, k__law_friend, b__law_friend, G__law_friend⟩ := O__law_friend
  refine ⟨fu, fd, g, F.kp, F.binds (ps := ["_law_company_here", "_law_word_here"]) (fun _ _ _ _ _ _ us hl => match us, hl with | [_, _], _ => rfl), ?_⟩
  refine F.ok sc__law_kind (fun vs H Q E h => ?_) (fun cdv A outer s H vs Q E hr h => ?_)
  · obtain ⟨_, _, _, _, rfl, _⟩ := h
    rfl
  · have nd := sc__law_kind.nd
    obtain ⟨a, n, Fs, v, rfl, hc, hv, hvl, q⟩ := h
    refine ⟨fun D σ H' => H' = H ∧ σ = [some (.ref a), some (.str (tx v)), none, none, none, none, none, none] ∧ ∀ H' : Hp, Same H H' → D.rt (.str (tx (OW.kindOf Fs v))) H', ⟨fun pins s0 σ0 H0 D I h => ?_⟩, rfl, rfl, q⟩
    obtain ⟨rfl, rfl, q⟩ := h
    refine then_next (Z := fun s1 => 1 ≤ s1.toks ∧ ∃ H1 y4 y5 y6 y7, Same H0 H1 ∧ Inv (cxOf CX0 P w K mg base ["_law_company_here", "_law_word_here", "_law_rest", "_law_found", "_law_turn", "_law_free", "_law_at", "_law_sign"] "_law_kind" (defScope lKind) fu cdv A outer s H0 E).nox pins [some (V.ref a), some (V.str (tx v)), some (V.str (tx (OW.firsts v))), some (V.str (tx [])), y4, y5, y6, y7] H1 s1) ?_ ?_
    · refine wpAny_mono (asg_two (M := 1) (Dn := fun σ' H' => ∃ y4 y5 y6 y7, Same H0 H' ∧ σ' = [some (V.ref a), some (V.str (tx v)), some (V.str (tx (OW.firsts v))), some (V.str (tx [])), y4, y5, y6, y7]) (pe_call G__law_firsts (hr.mono (j := 1) (by decide)) (by rfl) g__law_firsts k__law_firsts b__law_firsts .nil pass0 (pa_cons (pv 1) pa_nil)) (pg_tup rfl (pgs_cons (pg_name (i := 2) nd rfl (Or.inr rfl)) (pgs_cons (pg_name (i := 3) nd rfl (Or.inl rfl)) pgs_nil))) ?_ I (by rfl) (by rfl) (by rfl) (by rfl)) (fun f s' q => ?_) fun _ _ z => z
      · refine ⟨_, rfl, v, rfl, hvl, fun H1 sm1 s1 hk1 I1 => Calls.Constant_str ⟨Nat.succ_le_succ (Nat.zero_le _), .str (tx []), H1, I1.tok _, ⟨_, rfl⟩, fun p hp => ?_⟩⟩
        refine ⟨p, _, rfl, SqT.of upd_same, rfl, _, _, rfl, _, [], rfl, rfl, _, _, _, _, sm1.trans (sameNew hp), rfl⟩
      · obtain ⟨hf, hM, σ', H', I', y4, y5, y6, y7, sm, rfl⟩ := q
        exact ⟨hf, hM, H', y4, y5, y6, y7, sm, I'⟩
    · rintro s1 ⟨hk1, H1, y4, y5, y6, y7, sm1, I1⟩
      have hc1 := hc.keep sm1
      have h5 := hc.most
      have nd0 := OW.firsts_nodup v
      have lt0 : ∀ x ∈ OW.firsts v, x < n := fun x hx => hv x (OW.mem_firsts.mp hx)
      have len0 : (OW.firsts v).length ≤ n := by
        have := OW.sub_len nd0 (m := List.range n) (fun x hx => List.mem_range.mpr (lt0 x hx))
        rwa [List.length_range] at this
      show wpAny _ _ (execs [_, _] _) _ _ _
      refine then_next (for_floor (N0 := 1) (Dn := fun _ σ H' => ∃ y4 y5 y6 y7, Same H0 H' ∧ σ = [some (V.ref a), some (V.str (tx v)), some (V.str (tx [])), some (V.str (tx (OW.kd Fs (OW.firsts v)))), y4, y5, y6, y7]) PassesOwn.never rfl (pi_range1 (by rfl) T.range (pa_cons (pe_callB call_len_str (by rfl) T.len PySem.boot_len (pa_cons (pv 2) pa_nil)) pa_nil)) (pg_name (i := 4) nd rfl (Or.inl rfl)) (by intro _; rfl) hk1 I1 ?_) ?_
      · refine ⟨_, rfl, tx (OW.firsts v), rfl, tx_line (by omega), (OW.firsts v).length, by rw [tx_len], by omega, by omega, fun i m N σ H' => m + i = (OW.firsts v).length ∧ 1 ≤ N ∧ ∃ r f y4 y5 y6 y7, Same H0 H' ∧ σ = [some (V.ref a), some (V.str (tx v)), some (V.str (tx r)), some (V.str (tx f)), y4, y5, y6, y7] ∧
          f ++ OW.kd Fs r = OW.kd Fs (OW.firsts v) ∧ r.Nodup ∧ (∀ x ∈ r, x < n) ∧ r.length + i = (OW.firsts v).length, ⟨_, rfl, Nat.le_refl _, OW.firsts v, [], y4, y5, y6, y7, sm1, rfl, rfl, nd0, lt0, rfl⟩, ?_⟩
        rintro i m N σ H' ⟨hm, hN1, r, f, y4, y5, y6, y7, sm, rfl, hf, ndr, ltr, lenr⟩
        by_cases hi : i < (OW.firsts v).length
        · refine .inr ⟨hi, ?_⟩
          rintro x H'' ⟨rfl, rfl⟩
          intro pins2 s3 hN3 I3
          show wpAny _ _ (execs [_, _, _] _) _ _ _
          refine then_next (run_next (ps_set (i := 5) nd rfl (Or.inl rfl) (pe_lst pa_nil)) (nx := fun σ' Hn => ∃ p, H'' p = none ∧ Hn = upd H'' p (.lst []) ∧ σ' = [some (V.ref a), some (V.str (tx v)), some (V.str (tx r)), some (V.str (tx f)), some (V.int (0 + (i : Nat))), some (V.ref p), y6, y7]) I3 ⟨Nat.zero_le _, fun p hp => ⟨p, hp, rfl, rfl⟩⟩) ?_
          rintro s4 ⟨hk4, σ', Hn, I4, p, hp, rfl, rfl⟩
          obtain ⟨_, its, nn, rv, hlen, hget⟩ := I4.lstM upd_same
          have hits : its = [] := List.length_eq_zero_iff.mp hlen.symm
          subst hits
          have I5 := lock_raw I4 upd_same hget
          rw [upd_twice] at I5
          have hfz := I4.nofrz (d := p) upd_same trivial
          have hrl : r.length ≤ n := by omega
          refine then_next (for_floor (N0 := N) (Dn := fun N σ' Hn => 1 ≤ N ∧ ∃ o its y6 y7, σ' = [some (V.ref a), some (V.str (tx v)), some (V.str (tx r)), some (V.str (tx f)), some (V.int (0 + (i : Nat))), some (V.ref p), y6, y7] ∧ Same H'' Hn ∧ Hn p = some (.frz o (.lst ((OW.free Fs r).map sgV))) ∧ TokO N o its) PassesOwn.never rfl (pi_range1 (by rfl) T.range (pa_cons (pe_callB call_len_str (by rfl) T.len PySem.boot_len (pa_cons (pv 2) pa_nil)) pa_nil)) (pg_name (i := 6) nd rfl (Or.inr rfl)) (by intro _; rfl) (Nat.le_trans hN3 hk4) I5 ?_) ?_
          · refine ⟨_, rfl, tx r, rfl, tx_line (by omega), r.length, by rw [tx_len], by omega, by omega, fun j m N σ' Hn => m + j = r.length ∧ 1 ≤ N ∧ ∃ o its y6 y7, σ' = [some (V.ref a), some (V.str (tx v)), some (V.str (tx r)), some (V.str (tx f)), some (V.int (0 + (i : Nat))), some (V.ref p), y6, y7] ∧ Same H'' Hn ∧
              Hn p = some (.frz o (.lst (((r.take j).filter (OW.pick Fs r)).map sgV))) ∧ TokO N o its, ⟨_, rfl, hN1, _, [], y6, y7, rfl, sameNew hp, upd_same, ⟨nn, rfl, fun v hv => nomatch hv⟩⟩, ?_⟩
            rintro j m2 N2 σ' Hn ⟨hm2, hN2, o, its, y6, y7, rfl, smn, hpn, htk⟩
            by_cases hj : j < r.length
            · refine .inr ⟨hj, ?_⟩
              rintro x Hn' ⟨rfl, rfl⟩
              intro pins3 s5 hN5 I6
              show wpAny _ _ (execs [_] _) _ _ _
              have hcn := (hc.keep (sm.trans smn))
              have hrj := ltr _ (List.getElem_mem hj)
              refine wpAny_mono (if_next (Z := fun s' => ∃ N' o' its', N' ≤ s'.toks ∧ 1 ≤ N' ∧ TokO N' o' its' ∧ ∃ Hx, Same H'' Hx ∧ Hx p = some (.frz o' (.lst (((r.take (j + 1)).filter (OW.pick Fs r)).map sgV))) ∧
                Inv (cxOf CX0 P w K mg base ["_law_company_here", "_law_word_here", "_law_rest", "_law_found", "_law_turn", "_law_free", "_law_at", "_law_sign"] "_law_kind" (defScope lKind) fu cdv A outer s H0 E).nox pins3 [some (V.ref a), some (V.str (tx v)), some (V.str (tx r)), some (V.str (tx f)), some (V.int (0 + (i : Nat))), some (V.ref p), some (V.int (0 + (j : Nat))), y7] Hx s')
                (wpAny_mono (PySem.wpAny_toks (PT.run (pt_cmpR (op_eqDK (K := K) rfl hr.units) (pe_lc (own := [("_law_sign", 7)]) (g := gName 7) rfl nd (pi_str (pe_slice sl_str (pv 2) po_none (po_some (pv 6)))) (blkOk_by (own := [("_law_sign", 7)]) (N := ["_law_company_here", "_law_word_here", "_law_rest", "_law_found", "_law_turn", "_law_free", "_law_at", "_law_sign"]) (sc := defScope lKind) (by decide +kernel)) (fun _ _ _ _ _ => (pg_name (i := 7) nd rfl (Or.inl rfl))) (fun _ _ _ _ _ => (pts_one (pt_val (pe_call G__law_friend (hr.mono (j := 1) (by decide)) (by rfl) g__law_friend k__law_friend b__law_friend .nil pass0 (pa_cons (pv 0) (pa_cons (pv 7) (pa_cons (pe_ix ix_str (pv 2) (pv 6) (fun _ _ => rfl)) pa_nil))))))) (fun _ _ _ _ _ => (pv 7))) (pe_lst pa_nil) (nomark _)) pins3 s5 _ Hn' (fun b Hx => b = OW.pick Fs r r[j] ∧ Same Hn' Hx) I6 ?_)) (fun b s6 qb => ?_) fun _ _ z => z.2)) (fun fl s7 q7 => ?_) fun _ _ z => z
              · refine ⟨_, rfl, _, rfl, _, rfl, _, rfl, tx_line (by omega), tx (r.take j), str_eq (by rw [Int.zero_add]; exact cut_pre r j), fun Dl hDl => lc_gen (n := j) (fun i2 H' => Same Hn' H' ∧ H' Dl = some (.lst ((((r.take j).take i2).filter fun x => decide (x ∈ OW.fr Fs r[j])).map sgV))) ⟨sameNew hDl, upd_same⟩ (fun i2 H' hi2 _ => ?_) (fun H' _ => ?_) ?_ ?_⟩
                · show i2 < (tx (r.take j)).cps.size
                  rw [tx_size, List.length_take]; omega
                · show (tx (r.take j)).cps.size ≤ j
                  rw [tx_size, List.length_take]; omega
                · rintro i2 x H8 H9 hi2 ⟨sm8, hD8⟩ ⟨rfl, c, hcx, rfl⟩
                  have hi3 : i2 < (r.take j).length := by rw [List.length_take]; omega
                  have hi4 : i2 < r.length := by omega
                  have hc' : c = (r.take j)[i2] + 97 := by
                    rw [← Array.getElem?_toList, tx_list, List.getElem?_map, List.getElem?_eq_getElem hi3] at hcx
                    exact (Option.some.inj hcx).symm
                  subst hc'
                  have hne : (r.take j)[i2] ≠ r[j] := by
                    rw [List.getElem_take]
                    intro e
                    have := (List.getElem_inj ndr).mp e
                    omega
                  have hyn := ltr _ (List.mem_of_mem_take (List.getElem_mem hi3))
                  refine ⟨rfl, _, rfl, _, rfl, _, rfl, _, rfl, _, _, r[j] + 97, rfl, rfl, tx_line (by omega), by rw [Int.zero_add]; exact tx_at hj, a, n, Fs, (r.take j)[i2], r[j], rfl, hcn.keep sm8, by omega, by omega, hne, fun H10 sm10 => ⟨_, rfl, iteC (fun hg => ?_) (fun hg => ?_)⟩⟩
                  · have hfl := List.length_filter_le (fun x => decide (x ∈ OW.fr Fs r[j])) ((r.take j).take i2)
                    rw [List.length_take, List.length_take] at hfl
                    refine ⟨_, rfl, _, sm10 _ _ hD8, by rw [List.length_map]; exact lt_line (by omega), sameUp (sm8.trans sm10) hDl, ?_⟩
                    rw [upd_same, List.take_add_one, List.getElem?_eq_getElem hi3, List.filter_append, List.map_append]
                    show _ = some (HO.lst (_ ++ (List.filter _ [(r.take j)[i2]]).map sgV))
                    rw [flt_yes (P := fun x => decide (x ∈ OW.fr Fs r[j])) (decide_eq_true hg)]
                    rfl
                  · refine ⟨sm8.trans sm10, ?_⟩
                    rw [sm10 _ _ hD8, List.take_add_one, List.getElem?_eq_getElem hi3, List.filter_append, List.map_append]
                    show _ = some (HO.lst (_ ++ (List.filter _ [(r.take j)[i2]]).map sgV))
                    rw [flt_no (P := fun x => decide (x ∈ OW.fr Fs r[j])) (decide_eq_false hg)]
                    show _ = some (HO.lst (_ ++ []))
                    rw [List.append_nil]
                rintro H8 ⟨sm8, hD8⟩
                rw [List.take_of_length_le (by rw [List.length_take]; omega)] at hD8
                refine ⟨Nat.zero_le _, fun p3 hp3 => ?_⟩
                have ew : ((r.take j).filter fun x => decide (x ∈ OW.fr Fs r[j])).map sgV = (((r.take j).filter fun x => decide (x ∈ OW.fr Fs r[j])).map fun i => ([i] : OW.Wd)).map wv := by rw [List.map_map]; rfl
                rw [ew] at hD8
                refine ⟨.list ((((r.take j).filter fun x => decide (x ∈ OW.fr Fs r[j])).map fun i => ([i] : OW.Wd)).map sD), .list [], .lst (SqL.of ((sameNew hp3) _ _ hD8)) (dp_strs _), .lst (SqL.of upd_same) .nil, shaped_strs (fun w hw c hcw => ?_), by decide +kernel, _, congrArg V.bl (eqv_empty _), pick_take hj ndr, sm8.trans (sameNew hp3)⟩
                obtain ⟨i3, hi3, rfl⟩ := List.mem_map.mp hw
                rw [List.mem_singleton.mp hcw]
                have := ltr _ (List.mem_of_mem_take (List.mem_filter.mp hi3).1)
                omega
              · obtain ⟨hk6, Hx, I7, rfl, smx⟩ := qb
                have hpx := smx _ _ hpn
                by_cases hpk : OW.pick Fs r r[j] = true
                · rw [if_pos hpk]
                  refine then_next (wpAny_mono (app_raw (ip := 5) (ir := 2) (ia := 6) (N := N2) (k := 0 + (j : Nat)) rfl (.inl rfl) (by decide) (by decide) rfl (.inr (.inl rfl)) (by decide) (by decide) rfl (.inr (.inl rfl)) (by decide) (by decide) I7 rfl rfl rfl (tx_line (by omega)) (by rw [Int.zero_add]; exact tx_at hj) hpx htk (Nat.le_trans hN5 hk6) hN2 ?_ hfz (by rfl) (by rfl) (by rfl) (by rfl) (by rfl)) (fun fl s7 q7 => ?_) fun _ _ z => z) (fun s7 q7 => wpAny_execs_nil ⟨rfl, q7⟩)
                  · rw [List.length_map]
                    have := List.length_filter_le (OW.pick Fs r) (r.take j)
                    rw [List.length_take] at this
                    exact lt_line (by omega)
                  · obtain ⟨hfl, N', o', its', h1, h2, h3, I8⟩ := q7
                    refine ⟨hfl, N', o', its', h1, h2, h3, _, sameUp (smn.trans smx) hp, ?_, I8⟩
                    rw [upd_same, free_take hj, if_pos hpk, List.map_append]
                    rfl
                · rw [if_neg hpk]
                  refine ⟨N2, o, its, Nat.le_trans hN5 hk6, hN2, htk, Hx, smn.trans smx, ?_, I7⟩
                  rw [hpx, free_take hj, if_neg hpk, List.append_nil]
              · obtain ⟨hfl, N', o', its', h1, h2, h3, Hx, smx, hpx, I8⟩ := q7
                exact ⟨.inl hfl, m2 - 1, N', _, Hx, by omega, h1, I8, by omega, h2, o', its', _, _, rfl, smx, hpx, h3⟩
            · refine .inl ⟨Nat.le_of_not_lt hj, hN2, o, its, y6, y7, rfl, smn, ?_, htk⟩
              rw [hpn, List.take_of_length_le (Nat.le_of_not_lt hj)]
              rfl
          · rintro s5 ⟨N2, σ', Hn, hN5, I6, hN21, o, its, y6, y7, rfl, smn, hpn, htk⟩
            have hrne : r ≠ [] := fun e => by subst e; simp at lenr; omega
            obtain ⟨d, ds, hfd, hmin⟩ := free_min (F := Fs) hrne
            have hkl := congrArg List.length hf
            rw [List.length_append, (OW.kd_perm ndr).length_eq, (OW.kd_perm nd0).length_eq] at hkl
            refine then_next (asg_two (M := N2) (Dn := fun σ' Hx => ∃ y4 y5 y6 y7, Same H0 Hx ∧ σ' = [some (V.ref a), some (V.str (tx v)), some (V.str (tx (OW.out r (OW.nextL Fs r)))), some (V.str (tx (f ++ [OW.nextL Fs r]))), y4, y5, y6, y7]) (pe_op op_add_str (pv 3) (pe_callB (cr_minDat rfl (ru hr 42 (by decide))) (by rfl) T.min (by decide +kernel) (pa_cons (pv 5) pa_nil))) (pg_tup rfl (pgs_cons (pg_name (i := 3) nd rfl (Or.inl rfl)) (pgs_cons (pg_name (i := 2) nd rfl (Or.inr rfl)) pgs_nil))) ?_ I6 (by rfl) (by rfl) (by rfl) (by rfl)) ?_
            · refine ⟨_, rfl, _, rfl, p, (OW.free Fs r).map sgV, d, ds, rfl, .inl (.inr ⟨o, hpn⟩), by rw [← hfd]; exact dp_strs1 _, by rw [← hfd]; exact alike_strs _, by rw [← hfd, depth_strs1]; decide, fun k v e1 e2 => ?_⟩
              have ev := pick_item hfd hmin e1 e2
              subst ev
              refine ⟨_, _, rfl, rfl, ?_, fun s6 hk6 I7 => ?_⟩
              · show (tx f).length + (tx [OW.nextL Fs r]).length ≤ sizeLine
                rw [tx_len, tx_len]; exact le_line (by show _ + 1 ≤ _; omega)
              refine wpAny_mono (PySem.wpAny_toks (repl_raw (ik := 2) (z := tx r) (N := N2) (Q := fun u s' => (∃ t', u = Value.str (tx (OW.out r (OW.nextL Fs r))) t') ∧ Inv (cxOf CX0 P w K mg base ["_law_company_here", "_law_word_here", "_law_rest", "_law_found", "_law_turn", "_law_free", "_law_at", "_law_sign"] "_law_kind" (defScope lKind) fu cdv A outer s H0 E).nox pins2 [some (V.ref a), some (V.str (tx v)), some (V.str (tx r)), some (V.str (tx f)), some (V.int (0 + (i : Nat))), some (V.ref p), y6, y7] Hn s')
                (Z := fun x s2 => x = tx [OW.nextL Fs r] ∧ Inv (cxOf CX0 P w K mg base ["_law_company_here", "_law_word_here", "_law_rest", "_law_found", "_law_turn", "_law_free", "_law_at", "_law_sign"] "_law_kind" (defScope lKind) fu cdv A outer s H0 E).nox pins2 [some (V.ref a), some (V.str (tx v)), some (V.str (tx r)), some (V.str (tx f)), some (V.int (0 + (i : Nat))), some (V.ref p), y6, y7] Hn s2) rfl (.inr (.inl rfl)) (by decide) (by decide) I7 rfl (Nat.le_trans hN5 hk6) ?_ ?_ (by rw [tx_len]; omega) ?_ (by rfl) (by rfl) (by rfl))) (fun u2 s7 q => ?_) fun _ _ z => z.2
              · refine min_raw_tok (i := 5) rfl (ru hr 42 (by decide)) rfl (.inl rfl) (by decide) (by decide) (by rfl) T.min I7 rfl hpn htk (by rw [← hfd]; exact dp_strs1 _) (by rw [← hfd]; exact alike_strs _) (by rw [← hfd, depth_strs1]; decide) (fun k v x t s8 e1 e2 rx h1 h2 I8 => ?_) (by rfl)
                have ev := pick_item hfd hmin e1 e2
                subst ev
                obtain ⟨t', ex⟩ := rx
                cases ex
                exact ⟨_, _, rfl, h1, h2, rfl, I8⟩
              · rintro x s8 t' k ⟨rfl, I8⟩
                exact ⟨⟨t', by rw [out_tx]⟩, I8.tok k⟩
              · rintro x s8 ⟨rfl, I8⟩
                rfl
              · obtain ⟨hk7, ⟨t', eu⟩, I8⟩ := q
                refine ⟨Nat.le_trans hN5 (Nat.le_trans hk6 hk7), .str (tx (OW.out r (OW.nextL Fs r))), Hn, I8, ⟨t', eu⟩, fun a2 ha2 => ?_⟩
                refine ⟨a2, _, rfl, SqT.of upd_same, rfl, _, _, rfl, _, [], rfl, rfl, some (V.int (0 + (i : Nat))), some (V.ref p), y6, y7, (sm.trans smn).trans (sameNew ha2), ?_⟩
                show _ = [_, _, _, some (V.str (tx (f ++ [OW.nextL Fs r]))), _, _, _, _]
                rw [← tx_append]
                rfl
            · rintro s6 ⟨hM, σ', Hx, I7, y4, y5, y6, y7, smx, rfl⟩
              refine wpAny_execs_nil ⟨.inl rfl, m - 1, N2, _, Hx, by omega, hM, I7, by omega, hN21, _, _, y4, y5, y6, y7, smx, rfl, ?_, OW.out_nodup ndr, fun x hx => ltr x (OW.mem_out.mp hx).1, ?_⟩
              · rw [← hf, OW.kd_step ndr hrne, List.append_assoc]
                rfl
              · have := OW.out_length ndr (OW.nextL_mem (F := Fs) hrne)
                omega
        · have hr0 : r = [] := List.length_eq_zero_iff.mp (by omega)
          subst hr0
          refine .inl ⟨Nat.le_of_not_lt hi, y4, y5, y6, y7, sm, ?_⟩
          rw [← hf]
          show _ = [_, _, _, some (V.str (tx (f ++ []))), _, _, _, _]
          rw [List.append_nil]
      · rintro s2 ⟨N, σ', H', hN, I', y4, y5, y6, y7, sm, rfl⟩
        exact (pss_one (ps_ret (pv 3))).run pins s2 _ H' D I' ⟨_, rfl, q H' sm⟩
end
end OWP
end
section
namespace OWP
open PySem PySem.Spec PyProof.Rows L2 OWK
section
variable {P : Program} {w : World} {K : PySem.W.Frag} {mg : Str → Option Value} {base : Heap}
theorem sc_need_company : FnScope ["company", "index", "pair", "letter"] ["company"] (defScope sNeedCompany) := ⟨rfl, rfl, rfl, by decide +kernel, rfl, by decide +kernel, by decide +kernel⟩
theorem ok_need_company (D : DefAt K mg "need_company" sNeedCompany) (T : Free mg) (O_tuple_of : OkAt P w K mg base 1 "tuple_of" ["value", "low", "high"] spTupleOf) (O_within : OkAt P w K mg base 2 "within" ["value", "low", "high"] spWithin) :
    OkAt P w K mg base 3 "need_company" ["company"] sp_need_company := by
  obtain ⟨f, fd, g, F⟩ := D
  obtain ⟨f_tuple_of, fd_tuple_of, g_tuple_of, k_tuple_of, b_tuple_of, G_tuple_of⟩ := O_tuple_of
  obtain ⟨f_within, fd_within, g_within, k_within, b_within, G_within⟩ := O_within
  obtain ⟨tA, hA⟩ := T.alpha
  obtain ⟨tM, hM⟩ := T.most
  refine ⟨f, fd, g, F.kp, F.binds (ps := ["company"]) (fun _ _ _ _ _ _ us hl => match us, hl with | [_], _ => rfl), ?_⟩
  refine F.ok sc_need_company (fun vs H Q E h => ?_) (fun cdv A outer s H vs Q E hr h => ?_)
  · obtain ⟨_, _, _, rfl, _⟩ := h
    rfl
  · have nd := sc_need_company.nd
    obtain ⟨a, n, Fs, rfl, hc, q⟩ := h
    refine ⟨_, (pss_cons (ps_if (PW.pt (pw_or (pt_not (pt_val (pe_call G_tuple_of (hr.mono (j := 1) (by decide)) (by rfl) g_tuple_of k_tuple_of b_tuple_of .nil pass0 (pa_cons (pv 0) (pa_cons pe_int (pa_cons pe_int pa_nil)))))) (pw_or (pt_not (pt_val (pe_call G_within (hr.mono (j := 2) (by decide)) (by rfl) g_within k_within b_within .nil pass0 (pa_cons (pe_ix (ix_tupK (K := K) rfl) (pv 0) pe_int (fun _ _ => rfl)) (pa_cons pe_int (pa_cons (pe_glob (v := .int 7) (by rfl) hM ⟨_, rfl⟩) pa_nil)))))) (pw_or1 (pt_not (pt_val (pe_call G_tuple_of (hr.mono (j := 1) (by decide)) (by rfl) g_tuple_of k_tuple_of b_tuple_of .nil pass0 (pa_cons (pe_ix (ix_tupK (K := K) rfl) (pv 0) pe_int (fun _ _ => rfl)) (pa_cons pe_int (pa_cons pe_int pa_nil)))))))))) (pss_one ps_never) pss_nil)
          (pss_one (ps_for PassesOwn.never rfl (pi_enumT (by rfl) T.enumerate (pa_cons (pe_ix (ix_tupK (K := K) rfl) (pv 0) pe_int (fun _ _ => rfl)) pa_nil)) (pg_tup rfl (pgs_cons (pg_name (i := 1) nd rfl (Or.inl rfl)) (pgs_cons (pg_name (i := 2) nd rfl (Or.inl rfl)) pgs_nil))) (pss_cons (ps_if (PW.pt (pw_or (pt_not (pt_val (pe_call G_tuple_of (hr.mono (j := 1) (by decide)) (by rfl) g_tuple_of k_tuple_of b_tuple_of .nil pass0 (pa_cons (pv 2) (pa_cons pe_int (pa_cons pe_int pa_nil)))))) (pw_or1 (pt_not (pt_val (pe_callB (cr_all rfl) (by rfl) T.all (by decide +kernel) (pa_cons (pe_lc (own := [("letter", 3)]) (g := gName 3) (tt := tYes) rfl nd (pi_tup (pv 2)) (blkOk_by (own := [("letter", 3)]) (N := ["company", "index", "pair", "letter"]) (sc := defScope sNeedCompany) (by decide +kernel)) (fun _ _ _ _ _ => (pg_name (i := 3) nd rfl (Or.inl rfl))) (fun _ _ _ _ _ => pts_nil) (fun _ _ _ _ _ => (pe_call G_within (hr.mono (j := 2) (by decide)) (by rfl) g_within k_within b_within .nil pass0 (pa_cons (pv 3) (pa_cons pe_int (pa_cons (pe_op op_sub (pe_ix (ix_tupK (K := K) rfl) (pv 0) pe_int (fun _ _ => rfl)) pe_int) pa_nil)))))) pa_nil))))))) (pss_one ps_never) pss_nil)
          (pss_one (ps_if (PW.pt (pw_or (pt_cmpR op_ge (pe_ix (ix_tupK (K := K) rfl) (pv 2) pe_int (fun _ _ => rfl)) (pe_ix (ix_tupK (K := K) rfl) (pv 2) pe_int (fun _ _ => rfl)) (nomark _)) (pw_or1 (PW.pt (pw_and (pt_cmpR op_gt (pv 1) pe_int (nomark _)) (pw_and1 (pt_cmpR (op_leT hr.units0) (pv 2) (pe_ix (ix_tupK (K := K) rfl) (pe_ix (ix_tupK (K := K) rfl) (pv 0) pe_int (fun _ _ => rfl)) (pe_op op_sub (pv 1) pe_int) (fun _ _ => rfl)) (nomark _)))))))) (pss_one ps_never) pss_nil)))))), ?_⟩
    obtain ⟨b, ps, ha, hb, hp⟩ := hc.at_
    have hl := hp.len
    have h1 := hc.one
    have h5 := hc.most
    have hF := hc.few
    refine ⟨_, rfl, a, _, 2, 2, rfl, ha, Int.le_refl 2, Int.le_refl 2, true, rfl, iteF ?_⟩
    refine ⟨_, rfl, a, _, _, .int n, rfl, rfl, SqT.of ha, atI_nat (j := 0) rfl, n, 1, 7, rfl, by omega, by omega, true, rfl, iteF ?_⟩
    refine ⟨_, rfl, a, _, _, .ref b, rfl, rfl, SqT.of ha, atI_nat (j := 1) rfl, b, _, 0, 21, rfl, hb, by rw [List.length_map]; omega, by rw [List.length_map]; omega, true, rfl, iteF ?_⟩
    refine ⟨_, rfl, a, _, _, .ref b, rfl, rfl, SqT.of ha, atI_nat (j := 1) rfl, b, ps.map V.ref, rfl, SqT.of hb,
      for_gen (n := ps.length) (fun i σ H' => ∃ y1 y2 y3, σ = [some (.ref a), y1, y2, y3] ∧ Same H H') ⟨none, none, none, rfl, Same.refl _⟩ (fun i σ H' hi h => ?_) (fun σ H' h => ?_) ?_ ?_⟩
    · obtain ⟨_, _, _, _, sm⟩ := h
      exact ⟨ps.map V.ref, .ref ps[i], SqT.of (sm _ _ hb), by simp [hi]⟩
    · obtain ⟨_, _, _, _, sm⟩ := h
      exact ⟨ps.map V.ref, SqT.of (sm _ _ hb), by simp⟩
    · rintro i x σ H1 H2 hi ⟨y1, y2, y3, rfl, sm⟩ ⟨T1, x1, rfl, nT, rfl, fx⟩
      have ex := fx _ (SqT.of (sm _ _ hb))
      have hiF : i < Fs.length := by omega
      obtain ⟨p, hp1, hp2⟩ := hp.get i Fs[i] (List.getElem?_eq_getElem hiF)
      rw [List.getElem?_map, hp1] at ex
      have ex1 : V.ref p = x1 := Option.some.inj ex
      subst ex1
      have sm2 : Same H (upd H1 T1 (.tup [.int (i : Nat), .ref p])) := sm.trans (sameNew nT)
      obtain ⟨hlt, hn2⟩ := hc.co.lt _ (List.getElem_mem hiF)
      refine ⟨T1, _, rfl, SqT.of upd_same, rfl, _, _, rfl, _, [], rfl, rfl, ?_⟩
      generalize hH2 : upd H1 T1 (.tup [.int (i : Nat), .ref p]) = H2 at sm2
      have hpp := sm2 _ _ hp2
      have haa := sm2 _ _ ha
      refine ⟨_, rfl, p, _, 2, 2, rfl, hpp, Int.le_refl 2, Int.le_refl 2, true, rfl, iteF ?_⟩
      refine ⟨_, rfl, p, rfl, ⟨_, SqT.of hpp⟩, fun D hD => lc_gen (n := 2) (fun j H' => Same H2 H' ∧ H' D = some (.lst (List.replicate j (.bl true)))) ⟨sameNew hD, upd_same⟩ (fun j H' hj h => ?_) (fun H' h => ?_) ?_ ?_⟩
      · exact ⟨[.int Fs[i].1, .int Fs[i].2], _, SqT.of (h.1 _ _ hpp), List.getElem?_eq_getElem (show j < ([.int Fs[i].1, .int Fs[i].2] : List V).length from hj)⟩
      · exact ⟨_, SqT.of (h.1 _ _ hpp), Nat.le_refl _⟩
      · rintro j x H3 H4 hj ⟨sm3, hD3⟩ ⟨rfl, fx⟩
        have ex := fx _ (SqT.of (sm3 _ _ hpp))
        have hx : ∃ z : Nat, x = .int z ∧ z < n := by
          match j, hj, ex with
          | 0, _, ex => exact ⟨_, (Option.some.inj ex).symm, by omega⟩
          | 1, _, ex => exact ⟨_, (Option.some.inj ex).symm, hn2⟩
        obtain ⟨z, rfl, hz⟩ := hx
        have haa3 := sm3 _ _ haa
        refine ⟨rfl, _, rfl, _, rfl, a, _, _, .int n, rfl, rfl, SqT.of haa3, atI_nat (j := 0) rfl, _, _, rfl, rfl, z, 0, _, rfl, by omega, by omega, _, hD3, by rw [List.length_replicate]; exact lt_line (by omega), sameUp sm3 hD, ?_⟩
        rw [upd_same, ← List.replicate_succ']
      · rintro H3 ⟨sm3, hD3⟩
        refine ⟨D, [true, true], rfl, SqL.of hD3, true, rfl, iteF ?_⟩
        have haa3 := sm3 _ _ haa
        have hbb3 := sm3 _ _ (sm2 _ _ hb)
        have hpp3 := sm3 _ _ hpp
        refine ⟨_, rfl, p, _, _, .int Fs[i].1, rfl, rfl, SqT.of hpp3, atI_nat (j := 0) rfl, _, rfl, p, _, _, .int Fs[i].2, rfl, rfl, SqT.of hpp3, atI_nat (j := 1) rfl, _, _, rfl, rfl, false, ?_, iteF ?_⟩
        · show V.bl (decide ((Fs[i].2 : Int) ≤ (Fs[i].1 : Int))) = V.bl false
          rw [decide_eq_false (by omega)]
        refine ⟨_, rfl, _, _, rfl, rfl, _, rfl, ?_⟩
        have fin : ∃ y1 y2 y3, [some (V.ref a), some (V.int (i : Nat)), some (V.ref p), y3] = [some (V.ref a), y1, y2, y3] ∧ Same H H3 := ⟨_, _, y3, rfl, sm2.trans sm3⟩
        by_cases hi0 : i = 0
        · subst hi0
          exact iteF (iteF ⟨_, _, y3, rfl, sm2.trans sm3⟩)
        · rw [decide_eq_true (show (0 : Int) < (i : Nat) by omega)]
          have hi1 : i - 1 < Fs.length := by omega
          obtain ⟨p', hq1, hq2⟩ := hp.get (i - 1) Fs[i - 1] (List.getElem?_eq_getElem hi1)
          have hpq3 := sm3 _ _ (sm2 _ _ hq2)
          have ei : ((i : Int) - 1) = ((i - 1 : Nat) : Int) := by omega
          refine iteT ⟨_, rfl, _, rfl, a, _, _, .ref b, rfl, rfl, SqT.of haa3, atI_nat (j := 1) rfl, _, rfl, _, _, rfl, rfl, b, ps.map V.ref, _, .ref p', rfl, rfl, SqT.of hbb3, ?_, p, p', [(Fs[i].1 : Int), Fs[i].2], [(Fs[i - 1].1 : Int), Fs[i - 1].2], rfl, rfl, SqT.of hpp3, SqT.of hpq3, false, ?_, iteF ⟨_, _, y3, rfl, sm2.trans sm3⟩⟩
          · rw [ei]
            exact atI_nat (by rw [List.getElem?_map, hq1]; rfl)
          · have hasc := List.pairwise_iff_getElem.mp hc.co.asc (i - 1) i hi1 hiF (by omega)
            rw [leT_pairs hasc]
    · rintro σ H1 ⟨_, _, _, rfl, sm⟩
      exact q H1 sm
end
end OWP
end
section
namespace OWP
open PySem PySem.Spec PyProof.Rows L2 OWK
section
variable {P : Program} {w : World} {K : PySem.W.Frag} {mg : Str → Option Value} {base : Heap}
theorem sc_is_set : FnScope ["company", "value", "sign", "at"] ["company", "value"] (defScope sIsSet) := ⟨rfl, rfl, rfl, by decide +kernel, rfl, by decide +kernel, by decide +kernel⟩
theorem ok_is_set (D : DefAt K mg "is_set" sIsSet) (T : Free mg) :
    OkAt P w K mg base 1 "is_set" ["company", "value"] sp_is_set := by
  obtain ⟨f, fd, g, F⟩ := D
  obtain ⟨tA, hA⟩ := T.alpha
  obtain ⟨tM, hM⟩ := T.most
  refine ⟨f, fd, g, F.kp, F.binds (ps := ["company", "value"]) (fun _ _ _ _ _ _ us hl => match us, hl with | [_, _], _ => rfl), ?_⟩
  refine F.ok sc_is_set (fun vs H Q E h => ?_) (fun cdv A outer s H vs Q E hr h => ?_)
  · obtain ⟨_, _, _, _, rfl, _⟩ := h
    rfl
  · have nd := sc_is_set.nd
    obtain ⟨a, n, Fs, v, rfl, hc, hasc, hlt, hlen, q⟩ := h
    refine ⟨_, (pss_cons (ps_if (PW.pt (pw_or (pt_not (pt_val (pe_callB call_isi (by rfl) T.isinstance (by decide +kernel) (pa_cons (pv 1) (pa_cons (pe_bltn (v := .ty "str") (by rfl) T.str (by decide +kernel) rfl) pa_nil))))) (pw_or1 (pt_cmpR op_gt (pe_callB call_len_str (by rfl) T.len PySem.boot_len (pa_cons (pv 1) pa_nil)) (pe_ix (ix_tupK (K := K) rfl) (pv 0) pe_int (fun _ _ => rfl)) (nomark _))))) (pss_one (ps_ret pe_bl)) pss_nil)
          (pss_cons (ps_if (pt_not (pt_val (pe_callB (cr_all rfl) (by rfl) T.all (by decide +kernel) (pa_cons (pe_lc (own := [("sign", 2)]) (g := gName 2) (tt := tYes) rfl nd (pi_str (pv 1)) (blkOk_by (own := [("sign", 2)]) (N := ["company", "value", "sign", "at"]) (sc := defScope sIsSet) (by decide +kernel)) (fun _ _ _ _ _ => (pg_name (i := 2) nd rfl (Or.inl rfl))) (fun _ _ _ _ _ => pts_nil) (fun _ _ _ _ _ => (pe_cmpR op_in_sign (pv 2) (pe_slice sl_str (pe_glob (v := .str "abcdefg") (by rfl) hA ⟨_, rfl⟩) po_none (po_some (pe_ix (ix_tupK (K := K) rfl) (pv 0) pe_int (fun _ _ => rfl)))) (by rfl)))) pa_nil)))) (pss_one (ps_ret pe_bl)) pss_nil)
          (pss_one (ps_ret (pe_callB (cr_all rfl) (by rfl) T.all (by decide +kernel) (pa_cons (pe_lc (own := [("at", 3)]) (g := gName 3) (tt := tYes) rfl nd (pi_range1 (by rfl) T.range (pa_cons (pe_op op_sub (pe_callB call_len_str (by rfl) T.len PySem.boot_len (pa_cons (pv 1) pa_nil)) pe_int) pa_nil)) (blkOk_by (own := [("at", 3)]) (N := ["company", "value", "sign", "at"]) (sc := defScope sIsSet) (by decide +kernel)) (fun _ _ _ _ _ => (pg_name (i := 3) nd rfl (Or.inl rfl))) (fun _ _ _ _ _ => pts_nil) (fun _ _ _ _ _ => (pe_cmpR op_lt_str (pe_ix ix_str (pv 1) (pv 3) (fun _ _ => rfl)) (pe_ix ix_str (pv 1) (pe_op op_add (pv 3) pe_int) (fun _ _ => rfl)) (nomark _)))) pa_nil)))))), ?_⟩
    obtain ⟨b, ps, ha, hb, hp⟩ := hc.at_
    have h5 := hc.most
    have hvl : (tx v).length ≤ sizeLine := tx_line (by omega)
    refine ⟨_, rfl, _, _, _, _, true, rfl, .ty _, .base (.str _), kit_ty (by decide +kernel), true, rfl, iteF ?_⟩
    refine ⟨_, rfl, tx v, rfl, hvl, _, rfl, a, _, _, .int n, rfl, rfl, SqT.of ha, atI_nat (j := 0) rfl, _, _, rfl, rfl, false, ?_, iteF ?_⟩
    · show V.bl (decide ((n : Int) < ((tx v).length : Int))) = V.bl false
      rw [tx_len, decide_eq_false (by omega)]
    refine ⟨_, rfl, tx v, rfl, fun D hD => lc_gen (n := v.length) (fun j H' => Same H H' ∧ H' D = some (.lst (List.replicate j (.bl true)))) ⟨sameNew hD, upd_same⟩ (fun j H' hj _ => ?_) (fun H' _ => ?_) ?_ ?_⟩
    · show j < (tx v).cps.size
      rw [tx_size]; exact hj
    · show (tx v).cps.size ≤ v.length
      rw [tx_size]; exact Nat.le_refl _
    · rintro j x H1 H2 hj ⟨sm, hD1⟩ ⟨rfl, c, hcx, rfl⟩
      have hc' : c = v[j] + 97 := by
        rw [← Array.getElem?_toList, tx_list, List.getElem?_map, List.getElem?_eq_getElem hj] at hcx
        exact (Option.some.inj hcx).symm
      subst hc'
      refine ⟨rfl, _, rfl, _, rfl, a, _, _, .int n, rfl, rfl, SqT.of (sm _ _ ha), atI_nat (j := 0) rfl, _, rfl, _, rfl, alpha_len, v[j] + 97, _, rfl, rfl, _, hD1, by rw [List.length_replicate]; exact lt_line (by omega), sameUp sm hD, ?_⟩
      rw [upd_same, alpha_cut (by omega), decide_eq_true (mem_alpha (hlt _ (List.getElem_mem hj))), ← List.replicate_succ']
    rintro H1 ⟨sm1, hD1⟩
    refine ⟨D, List.replicate v.length true, rfl, SqL.of (by rw [map_rep]; exact hD1), true, ?_, iteF ?_⟩
    · rw [all_rep]
    have hr1 : ((v.length : Int) - 1).toNat = v.length - 1 := by omega
    refine ⟨_, rfl, tx v, rfl, hvl, _, _, rfl, rfl, _, rfl, ?_, ?_, fun D2 hD2 => lc_gen (n := v.length - 1) (fun j H' => Same H H' ∧ H' D2 = some (.lst (List.replicate j (.bl true)))) ⟨sameUp sm1 (Same.free sm1 hD2), upd_same⟩ (fun j H' hj _ => ?_) (fun H' _ => ?_) ?_ ?_⟩
    · show -(2 ^ 62) ≤ ((tx v).length : Int) - 1
      rw [tx_len]; omega
    · show ((tx v).length : Int) - 1 < 2 ^ 62
      rw [tx_len]; omega
    · show j < (((tx v).length : Int) - 1).toNat
      rw [tx_len, hr1]; exact hj
    · show (((tx v).length : Int) - 1).toNat ≤ v.length - 1
      rw [tx_len, hr1]; exact Nat.le_refl _
    · rintro j x H2 H3 hj ⟨sm, hD3⟩ ⟨rfl, rfl⟩
      have hj1 : j < v.length := by omega
      have hj2 : j + 1 < v.length := by omega
      have e0 : ((0 : Int) + (j : Nat)) = ((j : Nat) : Int) := by omega
      have e1 : ((0 : Int) + (j : Nat) + 1) = ((j + 1 : Nat) : Int) := by omega
      refine ⟨rfl, _, rfl, _, rfl, _, _, v[j] + 97, rfl, rfl, hvl, by rw [e0]; exact tx_at hj1, _, rfl, _, rfl, _, _, rfl, rfl, _, _, v[j + 1] + 97, rfl, rfl, hvl, by rw [e1]; exact tx_at hj2, _, _, rfl, rfl, _, hD3, by rw [List.length_replicate]; exact lt_line (by omega), sameUp sm (Same.free sm1 hD2), ?_⟩
      have hlt2 : v[j] < v[j + 1] := List.pairwise_iff_getElem.mp hasc j (j + 1) hj1 hj2 (Nat.lt_succ_self _)
      have : decide ((tx [v[j]]).cps.toList < (tx [v[j + 1]]).cps.toList) = true := decide_eq_true ((lt_sign _ _).mpr hlt2)
      rw [upd_same]
      show some (HO.lst (List.replicate j (V.bl true) ++ [V.bl (decide ((tx [v[j]]).cps.toList < (tx [v[j + 1]]).cps.toList))])) = _
      rw [this, ← List.replicate_succ']
    rintro H2 ⟨sm2, hD3⟩
    refine ⟨D2, List.replicate (v.length - 1) true, rfl, SqL.of (by rw [map_rep]; exact hD3), ?_⟩
    rw [all_rep]
    exact q H2 sm2
end
end OWP
end
section
namespace OWP
open PySem PySem.Spec PyProof.Rows L2 OWK
section
variable {P : Program} {w : World} {K : PySem.W.Frag} {mg : Str → Option Value} {base : Heap}
theorem sc_friends_of_all : FnScope ["company", "found", "one", "other", "sign"] ["company"] (defScope sFriends) := ⟨rfl, rfl, rfl, by decide +kernel, rfl, by decide +kernel, by decide +kernel⟩
theorem ok_friends_of_all (D : DefAt K mg "friends_of_all" sFriends) (T : Free mg) :
    OkAt P w K mg base 1 "friends_of_all" ["company"] sp_friends_of_all := by
  obtain ⟨f, fd, g, F⟩ := D
  obtain ⟨tA, hA⟩ := T.alpha
  obtain ⟨tM, hM⟩ := T.most
  refine ⟨f, fd, g, F.kp, F.binds (ps := ["company"]) (fun _ _ _ _ _ _ us hl => match us, hl with | [_], _ => rfl), ?_⟩
  refine F.ok sc_friends_of_all (fun vs H Q E h => ?_) (fun cdv A outer s H vs Q E hr h => ?_)
  · obtain ⟨_, _, _, rfl, _⟩ := h
    rfl
  · have nd := sc_friends_of_all.nd
    obtain ⟨a, n, Fs, rfl, hc, q⟩ := h
    refine ⟨_, (pss_cons (ps_setDc (i := 1) (own := [("sign", 4)]) (g := gName 4) (tt := tYes) rfl nd rfl rfl (sw_dict rfl rfl rfl (by decide +kernel)) (pi_str (pe_slice sl_str (pe_glob (v := .str "abcdefg") (by rfl) hA ⟨_, rfl⟩) po_none (po_some (pe_ix (ix_tupK (K := K) rfl) (pv 0) pe_int (fun _ _ => rfl))))) (blkOk_by (own := [("sign", 4)]) (N := ["company", "found", "one", "other", "sign"]) (sc := defScope sFriends) (by decide +kernel)) (fun _ _ _ _ _ => (pg_name (i := 4) nd rfl (Or.inl rfl))) (fun _ _ _ _ _ => pts_nil) (fun _ _ _ _ _ => (pv 4)) (fun _ _ _ _ _ => pe_str))
          (pss_cons (ps_for PassesOwn.never rfl (pi_tup (pe_ix (ix_tupK (K := K) rfl) (pv 0) pe_int (fun _ _ => rfl))) (pg_tup rfl (pgs_cons (pg_name (i := 2) nd rfl (Or.inl rfl)) (pgs_cons (pg_name (i := 3) nd rfl (Or.inl rfl)) pgs_nil))) (pss_cons (ps_dput (hu_of hr) (pv 1) (pe_ix ix_str (pe_glob (v := .str "abcdefg") (by rfl) hA ⟨_, rfl⟩) (pv 2) (fun _ _ => rfl)) (pe_op op_add_str (pe_dget (hu_of hr) (pv 1) (pe_ix ix_str (pe_glob (v := .str "abcdefg") (by rfl) hA ⟨_, rfl⟩) (pv 2) (fun _ _ => rfl)) (fun _ _ => rfl)) (pe_ix ix_str (pe_glob (v := .str "abcdefg") (by rfl) hA ⟨_, rfl⟩) (pv 3) (fun _ _ => rfl))) rfl)
          (pss_one (ps_dput (hu_of hr) (pv 1) (pe_ix ix_str (pe_glob (v := .str "abcdefg") (by rfl) hA ⟨_, rfl⟩) (pv 3) (fun _ _ => rfl)) (pe_op op_add_str (pe_dget (hu_of hr) (pv 1) (pe_ix ix_str (pe_glob (v := .str "abcdefg") (by rfl) hA ⟨_, rfl⟩) (pv 3) (fun _ _ => rfl)) (fun _ _ => rfl)) (pe_ix ix_str (pe_glob (v := .str "abcdefg") (by rfl) hA ⟨_, rfl⟩) (pv 2) (fun _ _ => rfl))) rfl))))
          (pss_one (ps_ret (pv 1))))), ?_⟩
    obtain ⟨b, ps, ha, hb, hp⟩ := hc.at_
    have h5 := hc.most
    have hl := hp.len
    refine ⟨_, rfl, a, _, _, .int n, rfl, rfl, SqT.of ha, atI_nat (j := 0) rfl, _, rfl, _, rfl, alpha_len, tx (List.range n), str_eq (alpha_cut (by omega)), fun D hD => dc_gen (n := n) (fun j H' => Same H H' ∧ H' D = some (.dK (wd j fun _ => []))) ⟨sameNew hD, upd_same⟩ (fun j H' hj _ => ?_) (fun H' _ => ?_) ?_ ?_⟩
    · show j < (tx (List.range n)).cps.size
      rw [tx_size, List.length_range]; exact hj
    · show (tx (List.range n)).cps.size ≤ n
      rw [tx_size, List.length_range]; exact Nat.le_refl _
    · rintro j x H1 H2 hj ⟨sm, hD1⟩ ⟨rfl, c, hcx, rfl⟩
      have hc' : c = j + 97 := by
        rw [← Array.getElem?_toList, tx_list, List.getElem?_map, List.getElem?_range hj] at hcx
        exact (Option.some.inj hcx).symm
      subst hc'
      refine ⟨rfl, _, rfl, wd j fun _ => [], Sum.inr (tx [j]), rfl, hD1, by rw [wd_len]; exact lt_line (by omega), sameUp sm hD, ?_⟩
      rw [upd_same]
      exact congrArg (fun z => some (HO.dK z)) (putK_new (n := j) (g := fun _ => []))
    rintro H1 ⟨sm1, hD1⟩
    refine ⟨_, rfl, a, _, _, .ref b, rfl, rfl, SqT.of (sm1 _ _ ha), atI_nat (j := 1) rfl, b, rfl, ⟨_, SqT.of (sm1 _ _ hb)⟩, for_gen (n := ps.length) (fun i σ H' => ∃ y1 y2 y3, σ = [some (.ref a), some (.ref D), y1, y2, y3] ∧ Same H H' ∧ H' D = some (.dK (wd n (OW.fr (Fs.take i))))) ⟨none, none, none, rfl, sm1, hD1⟩ (fun i σ H' hi h => ?_) (fun σ H' h => ?_) ?_ ?_⟩
    · obtain ⟨_, _, _, _, sm, _⟩ := h
      exact ⟨ps.map V.ref, .ref ps[i], SqT.of (sm _ _ hb), by simp [hi]⟩
    · obtain ⟨_, _, _, _, sm, _⟩ := h
      exact ⟨ps.map V.ref, SqT.of (sm _ _ hb), by simp⟩
    · rintro i x σ H2 H3 hi ⟨y1, y2, y3, rfl, sm, hD2⟩ ⟨rfl, fx⟩
      have ex := fx _ (SqT.of (sm _ _ hb))
      have hiF : i < Fs.length := by omega
      obtain ⟨p, hp1, hp2⟩ := hp.get i Fs[i] (List.getElem?_eq_getElem hiF)
      rw [List.getElem?_map, hp1] at ex
      have ex1 : V.ref p = x := Option.some.inj ex
      subst ex1
      obtain ⟨hlt, hn2⟩ := hc.co.lt _ (List.getElem_mem hiF)
      have hn1 : Fs[i].1 < n := by omega
      have hpp := sm _ _ hp2
      have nDH : H D = none := hD
      have et : Fs.take (i + 1) = Fs.take i ++ [(Fs[i].1, Fs[i].2)] := by rw [List.take_add_one, List.getElem?_eq_getElem hiF]; rfl
      have hfr : ∀ j, (OW.fr (Fs.take i) j).length ≤ 100 := fun j => by
        have h1 : ∀ G : OW.Fs, (OW.fr G j).length ≤ 2 * G.length := fun G => by
          induction G with
          | nil => exact Nat.le_refl _
          | cons x xs ih =>
            unfold OW.fr at ih ⊢
            rw [List.flatMap_cons, List.length_append, List.length_cons]
            have : ((if x.1 = j then [x.2] else []) ++ (if x.2 = j then [x.1] else []) : OW.Wd).length ≤ 2 := by
              split <;> split <;> simp
            omega
        have h2 := h1 (Fs.take i)
        have h3 := hc.few
        rw [List.length_take] at h2
        omega
      refine ⟨p, _, rfl, SqT.of hpp, rfl, _, _, rfl, _, [], rfl, rfl, ?_⟩
      refine ⟨_, rfl, _, rfl, _, _, _, rfl, rfl, alpha_len, alpha_at (i := Fs[i].1) (by omega), D, _, rfl, .inl ⟨_, Sum.inr (tx [Fs[i].1]), .inl hD2, rfl, (valV_wd hn1).symm⟩, _, rfl, _, _, _, rfl, rfl, alpha_len, alpha_at (i := Fs[i].2) (by omega), _, _, rfl, rfl, ?_, ?_⟩
      · show (tx (OW.fr (Fs.take i) Fs[i].1)).length + (tx [Fs[i].2]).length ≤ sizeLine
        rw [tx_len, tx_len]
        have := hfr Fs[i].1
        exact le_line (by show _ + 1 ≤ _; omega)
      refine ⟨_, rfl, _, rfl, _, _, _, rfl, rfl, alpha_len, alpha_at (i := Fs[i].1) (by omega), D, _, rfl, .inl ⟨_, Sum.inr (tx [Fs[i].1]), hD2, rfl, by rw [wd_len]; exact lt_line (by omega), rfl⟩, ?_⟩
      have e1 : V.str (tx (OW.fr (Fs.take i) Fs[i].1) ++ (⟨#[Fs[i].2 + 97]⟩ : Str)) = V.str (tx (OW.fr (Fs.take i) Fs[i].1 ++ [Fs[i].2])) := by rw [← tx_append]; rfl
      rw [e1, putK_wd hn1]
      have hD3 : (upd H3 D (.dK (wd n fun j => if j = Fs[i].1 then OW.fr (Fs.take i) Fs[i].1 ++ [Fs[i].2] else OW.fr (Fs.take i) j))) D = some (.dK (wd n fun j => if j = Fs[i].1 then OW.fr (Fs.take i) Fs[i].1 ++ [Fs[i].2] else OW.fr (Fs.take i) j)) := upd_same
      have sm3 : Same H (upd H3 D (.dK (wd n fun j => if j = Fs[i].1 then OW.fr (Fs.take i) Fs[i].1 ++ [Fs[i].2] else OW.fr (Fs.take i) j))) := sameUp sm hD
      generalize upd H3 D (.dK (wd n fun j => if j = Fs[i].1 then OW.fr (Fs.take i) Fs[i].1 ++ [Fs[i].2] else OW.fr (Fs.take i) j)) = H4 at hD3 sm3
      have hv2 : valV (wd n fun j => if j = Fs[i].1 then OW.fr (Fs.take i) Fs[i].1 ++ [Fs[i].2] else OW.fr (Fs.take i) j) (Sum.inr (tx [Fs[i].2])) = some (.str (tx (OW.fr (Fs.take i) Fs[i].2))) := by
        rw [valV_wd hn2, if_neg (by omega)]
      refine ⟨_, rfl, _, rfl, _, _, _, rfl, rfl, alpha_len, alpha_at (i := Fs[i].2) (by omega), D, _, rfl, .inl ⟨_, Sum.inr (tx [Fs[i].2]), .inl hD3, rfl, hv2.symm⟩, _, rfl, _, _, _, rfl, rfl, alpha_len, alpha_at (i := Fs[i].1) (by omega), _, _, rfl, rfl, ?_, ?_⟩
      · show (tx (OW.fr (Fs.take i) Fs[i].2)).length + (tx [Fs[i].1]).length ≤ sizeLine
        rw [tx_len, tx_len]
        have := hfr Fs[i].2
        exact le_line (by show _ + 1 ≤ _; omega)
      refine ⟨_, rfl, _, rfl, _, _, _, rfl, rfl, alpha_len, alpha_at (i := Fs[i].2) (by omega), D, _, rfl, .inl ⟨_, Sum.inr (tx [Fs[i].2]), hD3, rfl, by rw [wd_len]; exact lt_line (by omega), rfl⟩, ?_⟩
      have e2 : V.str (tx (OW.fr (Fs.take i) Fs[i].2) ++ (⟨#[Fs[i].1 + 97]⟩ : Str)) = V.str (tx (OW.fr (Fs.take i) Fs[i].2 ++ [Fs[i].1])) := by rw [← tx_append]; rfl
      rw [e2, putK_wd hn2]
      refine ⟨_, _, y3, rfl, sameUp sm3 hD, ?_⟩
      rw [upd_same, et]
      refine congrArg (fun z => some (HO.dK (wd n z))) (funext fun j => ?_)
      rw [fr_snoc]
      by_cases c1 : j = Fs[i].1
      · subst c1
        rw [if_neg (by omega), if_pos rfl, if_pos rfl, if_neg (by omega), List.append_nil]
      · by_cases c2 : j = Fs[i].2
        · rw [if_pos c2, if_neg (by omega), if_pos c2.symm, List.nil_append, c2]
        · rw [if_neg c2, if_neg c1, if_neg (Ne.symm c1), if_neg (Ne.symm c2), List.append_nil, List.append_nil]
    · rintro σ H2 ⟨y1, y2, y3, rfl, sm, hD2⟩
      refine ⟨_, rfl, q H2 D sm hD ?_⟩
      rw [hl, List.take_length] at hD2
      exact hD2
end
end OWP
end
section
namespace OWP
open PySem PySem.Spec PyProof.Rows L2 OWK
theorem tx_ascii {r : OW.Wd} (h : ∀ x ∈ r, x < 7) : (tx r).cps.all (· < 128) = true := by
  rw [← Array.all_toList, tx_list, List.all_eq_true]
  intro c hc
  obtain ⟨x, hx, rfl⟩ := List.mem_map.mp hc
  have := h x hx
  exact decide_eq_true (by omega)
theorem each_get {R : Value → Str → Prop} : ∀ {l : List Value} {m : List Str}, PySem.W.EachIs R l m → ∀ (i : Nat) v, l[i]? = some v → ∃ x, m[i]? = some x ∧ R v x
  | _, _, .nil, i, v, e => by simp at e
  | _, _, .cons r t, 0, v, e => by
    have e' := Option.some.inj (show some _ = some v from e)
    subst e'
    exact ⟨_, rfl, r⟩
  | _, _, .cons r t, i + 1, v, e => by
    obtain ⟨x, h1, h2⟩ := each_get t i v (by simpa using e)
    exact ⟨x, by simpa using h1, h2⟩
section
variable {P : Program} {w : World} {K : PySem.W.Frag} {mg : Str → Option Value} {base : Heap}
theorem sc_least_order : FnScope ["told", "order", "rest", "found", "sign", "ahead", "other"] ["told", "order"] (defScope sLeast) := ⟨rfl, rfl, rfl, by decide +kernel, rfl, by decide +kernel, by decide +kernel⟩
theorem ok_least_order (D : DefAt K mg "least_order" sLeast) (T : Free mg) :
    OkAt P w K mg base 1 "least_order" ["told", "order"] sp_least_order := by
  obtain ⟨fu, fd, g, F⟩ := D
  refine ⟨fu, fd, g, F.kp, F.binds (ps := ["told", "order"]) (fun _ _ _ _ _ _ us hl => match us, hl with | [_, _], _ => rfl), ?_⟩
  refine F.ok sc_least_order (fun vs H Q E h => ?_) (fun cdv A outer s H vs Q E hr h => ?_)
  · obtain ⟨_, _, _, _, rfl, _⟩ := h
    rfl
  · have nd := sc_least_order.nd
    obtain ⟨d, n, Fs, r0, rfl, hd, hn7, nd0, lt0, q⟩ := h
    have len0 : r0.length ≤ n := by
      have := OW.sub_len nd0 (m := List.range n) (fun x hx => List.mem_range.mpr (lt0 x hx))
      rwa [List.length_range] at this
    refine ⟨fun D σ H' => H' = H ∧ σ = [some (.ref d), some (.str (tx r0)), none, none, none, none, none] ∧ ∀ H' : Hp, Same H H' → D.rt (.str (tx (OW.kd Fs r0))) H', ⟨fun pins s0 σ0 H0 D I h => ?_⟩, rfl, rfl, q⟩
    obtain ⟨rfl, rfl, q⟩ := h
    obtain ⟨cc, hcc⟩ := I.ok.has "sign" (.inl rfl)
    have hcab := I.ok.cab "sign" cc rfl hcc
    show wpAny _ _ (execs [_, _, _] _) _ _ _
    refine then_next (par_two (i := 2) (j := 3) (M := 1) (Dn := fun σ' H' => H' = H0 ∧ σ' = [some (V.ref d), some (V.str (tx r0)), some (V.str (tx r0)), some (V.str (tx [])), none, none, none]) rfl nd rfl rfl (by decide) rfl rfl I ?_ (by rfl) (by rfl) (by rfl)) ?_
    · refine raw_name (i := 1) rfl (.inl rfl) I rfl (fun u r => ?_) (by decide) (by decide)
      refine Calls.Constant_str ⟨Nat.succ_le_succ (Nat.zero_le _), .str (tx r0), .str (tx []), H0, I.tok _, r, ⟨_, rfl⟩, rfl, rfl⟩
    rintro s1 ⟨hk1, σ1, H1, I1, rfl, rfl⟩
    refine then_next (while_tok (Dn := fun σ' H' => ∃ y4 y5 y6, Same H1 H' ∧ σ' = [some (V.ref d), some (V.str (tx r0)), some (V.str (tx [])), some (V.str (tx (OW.kd Fs r0))), y4, y5, y6]) PassesOwn.never (pt_cmpR op_ne (pv 2) pe_str (nomark _)) hk1 I1
      (fun m σ' H' => ∃ r f y4 y5 y6, m = r.length ∧ Same H1 H' ∧ σ' = [some (V.ref d), some (V.str (tx r0)), some (V.str (tx r)), some (V.str (tx f)), y4, y5, y6] ∧ f ++ OW.kd Fs r = OW.kd Fs r0 ∧ r.Nodup ∧ ∀ x ∈ r, x < n)
      (m0 := r0.length) ⟨r0, [], none, none, none, rfl, Same.refl _, rfl, rfl, nd0, lt0⟩ ?_) ?_
    · rintro m σ' H' ⟨r, f, y4, y5, y6, rfl, sm, rfl, hf, ndr, ltr⟩
      refine ⟨_, rfl, rfl, _, rfl, ?_⟩
      by_cases hr0 : r = []
      · subst hr0
        refine iteF ⟨y4, y5, y6, sm, ?_⟩
        rw [← hf]
        show _ = [_, _, _, some (V.str (tx (f ++ []))), _, _, _]
        rw [List.append_nil]
      · have hne0 : ¬ (V.str (tx r) = V.str "") := fun e => hr0 (tx_inj (w := r) (v := []) (V.str.inj e))
        have hne : (!decide (V.str (tx r) = V.str "")) = true := by rw [decide_eq_false hne0]; rfl
        show (if (!decide (V.str (tx r) = V.str "")) = true then _ else _)
        rw [if_pos hne]
        intro s3 hk3 I3
        have hrl : r.length ≤ 7 := by
          have := OW.sub_len ndr (m := List.range n) (fun x hx => List.mem_range.mpr (ltr x hx))
          rw [List.length_range] at this
          omega
        have hm0 := OW.nextL_mem (F := Fs) hr0
        show wpAny _ _ (execs [_] _) _ _ _
        refine then_next (Z := fun s' => ∃ σ' H', Inv (cxOf CX0 P w K mg base ["told", "order", "rest", "found", "sign", "ahead", "other"] "least_order" (defScope sLeast) fu cdv A outer s H1 E).nox pins σ' H' s' ∧ ∃ y4 y5 y6, Same H1 H' ∧ σ' = [some (V.ref d), some (V.str (tx r0)), some (V.str (tx (OW.out r (OW.nextL Fs r)))), some (V.str (tx (f ++ [OW.nextL Fs r]))), y4, y5, y6]) (for_cell (σ := [some (V.ref d), some (V.str (tx r0)), some (V.str (tx r)), some (V.str (tx f)), y4, y5, y6]) (y := "sign") (k := 4) (cc := cc) (Bk := fun σ2 H2 => ∃ y4 y5 y6, Same H1 H2 ∧ σ2 = [some (V.ref d), some (V.str (tx r0)), some (V.str (tx (OW.out r (OW.nextL Fs r)))), some (V.str (tx (f ++ [OW.nextL Fs r]))), y4, y5, y6]) PassesOwn.never rfl nd rfl rfl rfl hcc (by intro _; rfl) ?_) ?_
        · refine sorted_raw (ir := 2) (z := tx r) rfl (ru hr 3 (by decide)) rfl (.inl rfl) (by decide) (by decide) (by rfl) T.sorted I3 rfl (tx_ascii fun x hx => Nat.lt_of_lt_of_le (ltr x hx) hn7) (by rw [tx_size]; exact le_line (by omega)) hk3 (fun p o its N s4 hN4 hp ht hes I4 => ?_) (by rfl)
          rw [sorted_signs] at hes
          have hlen : its.length = (sw r).length := by rw [hes.length, List.length_map]
          refine ⟨p, o, _, its, N, _, fun i σ' Hx => Same H' Hx ∧ Hx p = some (.frz o (.lst ((sortS (OWK.signs (tx r))).map V.str))) ∧ (∃ y4 y5 y6, σ' = [some (V.ref d), some (V.str (tx r0)), some (V.str (tx r)), some (V.str (tx f)), y4, y5, y6]) ∧ ∀ j, (h : j < (sw r).length) → j < i → OW.pick Fs r (sw r)[j] = false,
            rfl, hN4, I4, ht, ⟨sameNew hp, upd_same, ⟨y4, y5, y6, rfl⟩, fun j _ h => nomatch h⟩, fun i σ' Hx h => h.2.1, ?_, ?_⟩
          · rintro σ' Hx ⟨_, _, _, hno⟩
            obtain ⟨j, hj, ej⟩ := List.getElem_of_mem ((sw_perm r).mem_iff.mpr hm0)
            have h1 := hno j hj (by rw [hlen]; exact hj)
            have hpk : OW.pick Fs r (OW.nextL Fs r) = true := (OW.mem_free.mp (OW.mnl_mem (OW.free_ne hr0))).2
            rw [ej, hpk] at h1
            cases h1
          · rintro i x t σ' Hx pins2 s5 hx h0 htN hN5 ⟨smx, hpx, ⟨y4, y5, y6, rfl⟩, hno⟩ I5 hcell
            obtain ⟨x', hx1, tk, ex, _, _⟩ := each_get hes i _ hx
            cases ex
            have hi : i < (sw r).length := by
              have := (List.getElem?_eq_some_iff.mp hx1).1
              rwa [List.length_map] at this
            rw [List.getElem?_map, List.getElem?_eq_getElem hi] at hx1
            have ex2 : tx [(sw r)[i]] = x := Option.some.inj hx1
            subst ex2
            have hLr : (sw r)[i] ∈ r := (sw_perm r).mem_iff.mp (List.getElem_mem hi)
            have hnoL := hno
            generalize hL : (sw r)[i] = L at hLr hcell I5 hx
            obtain ⟨oc, hoc, hod⟩ := id hcell
            have hLn := ltr L hLr
            obtain ⟨j0, hj0, ej⟩ := List.getElem_of_mem hLr
            obtain ⟨rs, hocc⟩ := index_tx (v := r) (c := L) (i := j0) (by rw [List.getElem?_eq_getElem hj0, ej]) (fun k hk e => by
              have hkr : k < r.length := by omega
              rw [List.getElem?_eq_getElem hkr] at e
              have e2 : r[k] = r[j0] := (Option.some.inj e).trans ej.symm
              have := (List.getElem_inj ndr).mp e2
              omega)
            show wpAny _ _ (execs [_, _] _) _ _ _
            refine then_next (Z := fun s' => s5.toks ≤ s'.toks ∧ Inv (cxOf CX0 P w K mg base ["told", "order", "rest", "found", "sign", "ahead", "other"] "least_order" (defScope sLeast) fu cdv A outer s H1 E).nox pins2 [some (V.ref d), some (V.str (tx r0)), some (V.str (tx r)), some (V.str (tx f)), some (V.str (tx [L])), some (V.str (cutS (tx r) none (some (j0 : Nat)))), y6] Hx s' ∧ s'.heap.get? cc = some oc) (wpAny_mono (PySem.wpAny_toks (ahead_keep (ir := 2) (iy := 4) (ia := 5) (z := tx r) (b := tx [L]) (i := j0) (yc := "sign") nd rfl (.inl rfl) (by decide) (by decide) rfl (.inr (.inl rfl)) (by decide) (by decide) rfl rfl (by rfl) I5 rfl rfl (tx_line (by omega)) hocc hcc hoc (by rfl) (by rfl) (by rfl) (by rfl))) (fun f s' z => ⟨z.2.1, z.1, z.2.2⟩) fun _ _ z => z.2) ?_
            rintro s6 ⟨hk6, I6, c6⟩
            rw [cut_pre] at I6
            refine wpAny_execs_cons (wpAny_If (wpAny_mono (PySem.wpAny_toks (all_keep (Q := fun b s' => b = OW.pick Fs r L ∧ ∃ Hy, Same Hx Hy ∧ Inv (cxOf CX0 P w K mg base ["told", "order", "rest", "found", "sign", "ahead", "other"] "least_order" (defScope sLeast) fu cdv A outer s H1 E).nox pins2 [some (V.ref d), some (V.str (tx r0)), some (V.str (tx r)), some (V.str (tx f)), some (V.str (tx [L])), some (V.str (tx (r.take j0))), y6] Hy s' ∧ s'.heap.get? cc = some oc) (own := [("other", 6)]) (ia := 5) (z := tx (r.take j0)) (yc := "sign") (fun D i2 Hy => Hx D = none ∧ Same Hx Hy ∧ Hy D = some (.lst ((((r.take j0).take i2).map fun o => decide (o ∉ OW.fr Fs L)).map V.bl))) ((r.take j0).map fun o => decide (o ∉ OW.fr Fs L)) rfl nd I6
              (blkOk_by (own := [("other", 6)]) (N := ["told", "order", "rest", "found", "sign", "ahead", "other"]) (sc := defScope sLeast) (by decide +kernel)) hcc hcab c6 rfl (.inl rfl) (by decide) (by decide) rfl (tx_ascii fun x hx => Nat.lt_of_lt_of_le (ltr x (List.mem_of_mem_take hx)) hn7) (by rfl) T.all
              (fun _ _ _ _ _ => (pg_name (i := 6) nd rfl (Or.inl rfl))) (fun _ _ _ _ _ => (pe_cmpR op_notIn_sign (pv 6) (pe_dget (hu_of hr) (pv 0) (pv 4) (fun _ _ => rfl)) (by rfl))) (by intro _; rfl) (fun D hD => ⟨hD, sameNew hD, upd_same⟩) ?_ ?_ ?_ (by rfl))) (fun b s7 q7 => ?_) fun _ _ z => z.2))
            · rintro D i2 c H8 hcx ⟨hD0, smy, hD⟩
              have hi3 : i2 < (r.take j0).length := by
                have := (Array.getElem?_eq_some_iff.mp hcx).1
                rwa [tx_size] at this
              have hc' : c = (r.take j0)[i2] + 97 := by
                rw [← Array.getElem?_toList, tx_list, List.getElem?_map, List.getElem?_eq_getElem hi3] at hcx
                exact (Option.some.inj hcx).symm
              subst hc'
              have hd8 := hd.keep (sm.trans (smx.trans smy))
              refine ⟨rfl, _, rfl, _, rfl, _, rfl, d, _, rfl, .inl ⟨_, Sum.inr (tx [L]), .inl hd8, rfl, (valV_wd hLn).symm⟩, (r.take j0)[i2] + 97, _, rfl, rfl, _, hD, ?_, hD0, sameUp smy hD0, ?_⟩
              · rw [List.length_map, List.length_map]
                have := List.length_take_le i2 (r.take j0)
                have := List.length_take_le j0 r
                exact lt_line (by omega)
              · rw [upd_same, take_map_succ hi3, List.map_append, dec_mem, ← decide_not]
                rfl
            · rintro D Hy ⟨_, _, h⟩
              rw [h, tx_size, List.take_length]
            · rintro D s7 Hy I7 ⟨_, smy, _⟩ c7
              have hb : ((r.take j0).map fun o => decide (o ∉ OW.fr Fs L)).all id = OW.pick Fs r L := by
                unfold OW.pick
                rw [← ej, ahead_take hj0 ndr, ej, List.all_map]
                rfl
              exact ⟨hb, Hy, smy, I7, c7⟩
            · obtain ⟨hk7, rfl, Hy, smy, I7, c7⟩ := q7
              cases hp : OW.pick Fs r L with
              | true =>
                have hLm : OW.nextL Fs r = L := by
                  refine OW.mnl_eq (OW.mem_free.mpr ⟨hLr, hp⟩) fun y hy => ?_
                  obtain ⟨hyr, hyp⟩ := OW.mem_free.mp hy
                  obtain ⟨j, hj, ey⟩ := List.getElem_of_mem ((sw_perm r).mem_iff.mpr hyr)
                  by_cases hji : j < i
                  · have := hno j hj hji
                    rw [ey, hyp] at this
                    cases this
                  · by_cases e : i = j
                    · subst e; rw [← ey, hL]; exact Nat.le_refl _
                    · have := List.pairwise_iff_getElem.mp (sw_lt ndr) i j hi hj (by omega)
                      rw [hL, ey] at this
                      omega
                refine then_next (found_rest (jf := 3) (ir := 2) (iy := 4) (N := N) (x := tx [L]) (t := t) rfl nd rfl rfl (by decide) (by decide) rfl rfl (by decide) (by decide) rfl (by decide) hcc (by decide) I7 rfl rfl ⟨oc, c7, hod⟩ h0 htN (Nat.le_trans hN5 (Nat.le_trans hk6 hk7)) (by rw [tx_len]; omega) rfl ?_ (by rfl) (by rfl) (by rfl) (by rfl) (by rfl) (by rfl)) ?_
                · rw [tx_len, tx_len]
                  have hkl := congrArg List.length hf
                  rw [List.length_append, (OW.kd_perm ndr).length_eq, (OW.kd_perm nd0).length_eq] at hkl
                  exact le_line (by show _ + 1 ≤ _; omega)
                · rintro s8 ⟨_, σ8, H8, I8, rfl, rfl⟩
                  refine wpAny_execs_cons (wpAny_Break (.inr ⟨rfl, _, _, I8, some (V.str (tx [L])), some (V.str (tx (r.take j0))), y6, sm.trans (smx.trans smy), ?_⟩))
                  rw [hLm, ← out_tx, ← tx_append]
                  rfl
              | false =>
                refine wpAny_execs_nil (wpAny_execs_nil (.inl ⟨rfl, _, Hy, I7, smx.trans smy, smy _ _ hpx, ⟨_, _, _, rfl⟩, fun j hj hji => ?_⟩))
                by_cases e : j = i
                · subst e; rw [hL]; exact hp
                · exact hno j hj (by omega)
        · rintro s4 ⟨σ2, H2, I2, y4, y5, y6, sm2, rfl⟩
          have hol := OW.out_length ndr hm0
          refine wpAny_execs_nil ⟨rfl, (OW.out r (OW.nextL Fs r)).length, _, H2, by omega, I2, _, f ++ [OW.nextL Fs r], y4, y5, y6, rfl, sm2, rfl, ?_, OW.out_nodup ndr, fun x hx => ltr x (OW.mem_out.mp hx).1⟩
          rw [← hf, OW.kd_step ndr hr0, List.append_assoc]
          rfl
    · rintro s2 ⟨σ', H', I', y4, y5, y6, sm, rfl⟩
      exact (pss_one (ps_ret (pv 3))).run pins s2 _ H' D I' ⟨_, rfl, q H' sm⟩
end
end OWP
end
section
namespace OWP
open PySem PySem.Spec PyProof.Rows L2 OWK
section
variable {P : Program} {w : World} {K : PySem.W.Frag} {mg : Str → Option Value} {base : Heap}
theorem sc_first_stands : FnScope ["word", "found", "sign"] ["word"] (defScope sFirst) := ⟨rfl, rfl, rfl, by decide +kernel, rfl, by decide +kernel, by decide +kernel⟩
theorem ok_first_stands (D : DefAt K mg "first_stands" sFirst) (T : Free mg) :
    OkAt P w K mg base 1 "first_stands" ["word"] sp_first_stands := by
  obtain ⟨f, fd, g, F⟩ := D
  obtain ⟨tA, hA⟩ := T.alpha
  obtain ⟨tM, hM⟩ := T.most
  refine ⟨f, fd, g, F.kp, F.binds (ps := ["word"]) (fun _ _ _ _ _ _ us hl => match us, hl with | [_], _ => rfl), ?_⟩
  refine F.ok sc_first_stands (fun vs H Q E h => ?_) (fun cdv A outer s H vs Q E hr h => ?_)
  · obtain ⟨_, rfl, _⟩ := h
    rfl
  · have nd := sc_first_stands.nd
    obtain ⟨v, rfl, hv, q⟩ := h
    refine ⟨_, (pss_cons (ps_set (i := 1) nd rfl (Or.inl rfl) pe_str)
          (pss_cons (ps_for PassesOwn.never rfl (pi_str (pv 0)) (pg_name (i := 2) nd rfl (Or.inl rfl)) (pss_one (ps_if (pt_cmpR op_notIn_sign (pv 2) (pv 1) (by rfl)) (pss_one (ps_set (i := 1) nd rfl (Or.inl rfl) (pe_op op_add_str (pv 1) (pv 2)))) pss_nil)))
          (pss_one (ps_ret (pv 1))))), ?_⟩
    refine ⟨_, rfl, tx v, rfl, for_gen (n := v.length) (fun i σ H' => ∃ y, σ = [some (.str (tx v)), some (.str (tx (OW.firsts (v.take i)))), y] ∧ H' = H) ⟨none, rfl, rfl⟩ (fun i σ H' hi _ => ?_) (fun σ H' _ => ?_) ?_ ?_⟩
    · show i < (tx v).cps.size
      rw [tx_size]; exact hi
    · show (tx v).cps.size ≤ v.length
      rw [tx_size]; exact Nat.le_refl _
    · rintro i x σ H1 H2 hi ⟨y, rfl, rfl⟩ ⟨rfl, c, hc, rfl⟩
      have hc' : c = v[i] + 97 := by
        rw [← Array.getElem?_toList, tx_list, List.getElem?_map, List.getElem?_eq_getElem hi] at hc
        exact (Option.some.inj hc).symm
      subst hc'
      have e1 : v.take (i + 1) = v.take i ++ [v[i]] := by rw [List.take_add_one, List.getElem?_eq_getElem hi]; rfl
      have e2 : OW.firsts (v.take (i + 1)) = OW.fstep (OW.firsts (v.take i)) v[i] := by rw [e1, OW.firsts_snoc]
      refine ⟨_, rfl, _, rfl, v[i] + 97, tx (OW.firsts (v.take i)), rfl, rfl, _, rfl, ?_⟩
      have em : (v[i] + 97 ∈ (tx (OW.firsts (v.take i))).cps.toList) ↔ v[i] ∈ OW.firsts (v.take i) := by
        rw [tx_list]
        simp
      by_cases hm : v[i] ∈ OW.firsts (v.take i)
      · rw [decide_eq_true (em.mpr hm)]
        have he : OW.firsts (v.take (i + 1)) = OW.firsts (v.take i) := by rw [e2]; unfold OW.fstep; rw [if_pos hm]
        exact iteF ⟨some (.str (tx [v[i]])), by rw [he]; rfl, rfl⟩
      · rw [decide_eq_false (fun z => hm (em.mp z))]
        have he : OW.firsts (v.take (i + 1)) = OW.firsts (v.take i) ++ [v[i]] := by rw [e2]; unfold OW.fstep; rw [if_neg hm]
        have hlen : (OW.firsts (v.take i)).length ≤ 1000 := by
          have h1 := OW.firsts_len_go (v.take i) []
          rw [List.length_take] at h1
          have h2 : (OW.firsts (v.take i)).length ≤ 0 + min i v.length := h1
          omega
        refine iteT ⟨_, rfl, _, rfl, _, _, rfl, rfl, ?_, some (.str (tx [v[i]])), ?_, rfl⟩
        · show (tx (OW.firsts (v.take i))).length + (tx [v[i]]).length ≤ sizeLine
          rw [tx_len, tx_len]
          exact le_line (by show _ + 1 ≤ _; omega)
        · rw [he, ← tx_append]; rfl
    · rintro σ H1 ⟨y, rfl, rfl⟩
      refine ⟨_, rfl, ?_⟩
      rw [List.take_length]
      exact q
end
end OWP
end
section
namespace OWP
open PySem PySem.Spec PyProof.Rows L2 OWK
section
variable {P : Program} {w : World} {K : PySem.W.Frag} {mg : Str → Option Value} {base : Heap}
theorem sc_is_kind : FnScope ["company", "value"] ["company", "value"] (defScope sIsKind) := ⟨rfl, rfl, rfl, by decide +kernel, rfl, by decide +kernel, by decide +kernel⟩
theorem ok_is_kind (D : DefAt K mg "is_kind" sIsKind) (T : Free mg) (O_least_order : OkAt P w K mg base 1 "least_order" ["told", "order"] sp_least_order) (O_is_set : OkAt P w K mg base 1 "is_set" ["company", "value"] sp_is_set) (O_friends_of_all : OkAt P w K mg base 1 "friends_of_all" ["company"] sp_friends_of_all) :
    OkAt P w K mg base 2 "is_kind" ["company", "value"] sp_is_kind := by
  obtain ⟨f, fd, g, F⟩ := D
  obtain ⟨f_least_order, fd_least_order, g_least_order, k_least_order, b_least_order, G_least_order⟩ := O_least_order
  obtain ⟨f_is_set, fd_is_set, g_is_set, k_is_set, b_is_set, G_is_set⟩ := O_is_set
  obtain ⟨f_friends_of_all, fd_friends_of_all, g_friends_of_all, k_friends_of_all, b_friends_of_all, G_friends_of_all⟩ := O_friends_of_all
  obtain ⟨tA, hA⟩ := T.alpha
  obtain ⟨tM, hM⟩ := T.most
  refine ⟨f, fd, g, F.kp, F.binds (ps := ["company", "value"]) (fun _ _ _ _ _ _ us hl => match us, hl with | [_, _], _ => rfl), ?_⟩
  refine F.ok sc_is_kind (fun vs H Q E h => ?_) (fun cdv A outer s H vs Q E hr h => ?_)
  · obtain ⟨_, _, _, _, rfl, _⟩ := h
    rfl
  · have nd := sc_is_kind.nd
    obtain ⟨a, n, Fs, k, rfl, hc, ⟨hnd, hlt, hkd⟩, q⟩ := h
    refine ⟨_, (pss_cons (ps_if (PW.pt (pw_or (pt_not (pt_val (pe_callB call_isi (by rfl) T.isinstance (by decide +kernel) (pa_cons (pv 1) (pa_cons (pe_bltn (v := .ty "str") (by rfl) T.str (by decide +kernel) rfl) pa_nil))))) (pw_or (pt_cmpR op_gt (pe_callB call_len_str (by rfl) T.len PySem.boot_len (pa_cons (pv 1) pa_nil)) (pe_ix (ix_tupK (K := K) rfl) (pv 0) pe_int (fun _ _ => rfl)) (nomark _)) (pw_or1 (pt_not (pt_val (pe_call G_is_set (hr.mono (j := 1) (by decide)) (by rfl) g_is_set k_is_set b_is_set .nil pass0 (pa_cons (pv 0) (pa_cons (pe_join pe_str (pe_callB (cr_sortT1 rfl (ru hr 3 (by decide))) (by rfl) T.sorted (by decide +kernel) (pa_cons (pv 1) pa_nil))) pa_nil))))))))) (pss_one (ps_ret pe_bl)) pss_nil)
          (pss_one (ps_ret (pe_cmpR op_eq (pe_call G_least_order (hr.mono (j := 1) (by decide)) (by rfl) g_least_order k_least_order b_least_order .nil pass0 (pa_cons (pe_call G_friends_of_all (hr.mono (j := 1) (by decide)) (by rfl) g_friends_of_all k_friends_of_all b_friends_of_all .nil pass0 (pa_cons (pv 0) pa_nil)) (pa_cons (pv 1) pa_nil))) (pv 1) (nomark _))))), ?_⟩
    obtain ⟨b, ps, ha, hb, hp⟩ := hc.at_
    have h5 := hc.most
    have hlen := nodup_len hnd hlt
    have hvl : (tx k).length ≤ sizeLine := tx_line (by omega)
    refine ⟨_, rfl, _, _, _, _, true, rfl, .ty _, .base (.str _), kit_ty (by decide +kernel), true, rfl, iteF ?_⟩
    refine ⟨_, rfl, tx k, rfl, hvl, _, rfl, a, _, _, .int n, rfl, rfl, SqT.of ha, atI_nat (j := 0) rfl, _, _, rfl, rfl, false, ?_, iteF ?_⟩
    · show V.bl (decide ((n : Int) < ((tx k).length : Int))) = V.bl false
      rw [tx_len, decide_eq_false (by omega)]
    refine ⟨_, rfl, ⟨_, rfl⟩, _, rfl, tx k, rfl, by rw [tx_size]; exact le_line (by omega), fun p hp0 => ?_⟩
    have sm1 : Same H (upd H p (.lst ((sortS (OWK.signs (tx k))).map V.str))) := sameNew hp0
    refine ⟨"", p, sortS (OWK.signs (tx k)), rfl, rfl, .inl (SqL.of upd_same), ?_, ?_⟩
    · rw [sorted_signs, sum_ones, sw_len]; omega
    rw [sorted_signs] at sm1 ⊢
    rw [join_letters]
    generalize upd H p (.lst (((sw k).map fun i => tx [i]).map V.str)) = H1 at sm1 ⊢
    refine ⟨a, n, Fs, sw k, rfl, hc.keep sm1, sw_lt hnd, fun x hx => hlt x ((sw_perm k).mem_iff.mp hx), by rw [sw_len]; exact hlen, fun H2 sm2 => ⟨true, rfl, iteF ?_⟩⟩
    refine ⟨_, rfl, a, n, Fs, rfl, hc.keep (sm1.trans sm2), fun H3 d sm3 hd3 near => ⟨_, rfl, d, n, Fs, k, rfl, near, by omega, hnd, hlt, fun H4 sm4 => ⟨_, rfl, rfl, ?_⟩⟩⟩
    rw [hkd]
    have := q H4 (((sm1.trans sm2).trans sm3).trans sm4)
    show Q (V.bl (decide (V.str (tx k) = V.str (tx k)))) H4
    rw [decide_eq_true rfl]
    exact this
end
end OWP
end
section
namespace OWP
open PySem PySem.Spec PyProof.Rows L2 OWK
section
variable {P : Program} {w : World} {K : PySem.W.Frag} {mg : Str → Option Value} {base : Heap}
theorem sc_need_kind : FnScope ["company", "kind"] ["company", "kind"] (defScope sNeedKind) := ⟨rfl, rfl, rfl, by decide +kernel, rfl, by decide +kernel, by decide +kernel⟩
theorem ok_need_kind (D : DefAt K mg "need_kind" sNeedKind) (T : Free mg) (O_is_kind : OkAt P w K mg base 2 "is_kind" ["company", "value"] sp_is_kind) :
    OkAt P w K mg base 3 "need_kind" ["company", "kind"] sp_need_kind := by
  obtain ⟨f, fd, g, F⟩ := D
  obtain ⟨f_is_kind, fd_is_kind, g_is_kind, k_is_kind, b_is_kind, G_is_kind⟩ := O_is_kind
  obtain ⟨tA, hA⟩ := T.alpha
  obtain ⟨tM, hM⟩ := T.most
  refine ⟨f, fd, g, F.kp, F.binds (ps := ["company", "kind"]) (fun _ _ _ _ _ _ us hl => match us, hl with | [_, _], _ => rfl), ?_⟩
  refine F.ok sc_need_kind (fun vs H Q E h => ?_) (fun cdv A outer s H vs Q E hr h => ?_)
  · obtain ⟨_, _, _, _, rfl, _⟩ := h
    rfl
  · have nd := sc_need_kind.nd
    obtain ⟨a, n, Fs, k, rfl, hc, hk, q⟩ := h
    refine ⟨_, (pss_one (ps_if (pt_not (pt_val (pe_call G_is_kind (hr.mono (j := 2) (by decide)) (by rfl) g_is_kind k_is_kind b_is_kind .nil pass0 (pa_cons (pv 0) (pa_cons (pv 1) pa_nil))))) (pss_one ps_never) pss_nil)), ?_⟩
    exact ⟨_, rfl, _, rfl, a, n, Fs, k, rfl, hc, hk, fun H' sm => ⟨true, rfl, iteF (q H' sm)⟩⟩
end
end OWP
end
section
namespace OWP
open PySem PySem.Spec PyProof.Rows L2 OWK
section
variable {P : Program} {w : World} {K : PySem.W.Frag} {mg : Str → Option Value} {base : Heap}
theorem sc_fits : FnScope ["near", "row", "letter", "sign", "at", "told"] ["near", "row", "letter", "sign"] (defScope sFits) := ⟨rfl, rfl, rfl, by decide +kernel, rfl, by decide +kernel, by decide +kernel⟩
theorem ok_fits (D : DefAt K mg "fits" sFits) (T : Free mg) :
    OkAt P w K mg base 1 "fits" ["near", "row", "letter", "sign"] sp_fits := by
  obtain ⟨f, fd, g, F⟩ := D
  obtain ⟨tA, hA⟩ := T.alpha
  obtain ⟨tM, hM⟩ := T.most
  refine ⟨f, fd, g, F.kp, F.binds (ps := ["near", "row", "letter", "sign"]) (fun _ _ _ _ _ _ us hl => match us, hl with | [_, _, _, _], _ => rfl), ?_⟩
  refine F.ok sc_fits (fun vs H Q E h => ?_) (fun cdv A outer s H vs Q E hr h => ?_)
  · obtain ⟨_, _, _, _, _, _, rfl, _⟩ := h
    rfl
  · have nd := sc_fits.nd
    obtain ⟨d, n, Fs, row, l, sgn, rfl, hd, hn7, hl, hs, hrow, q⟩ := h
    refine ⟨_, (pss_one (ps_ret (pe_callB (cr_all rfl) (by rfl) T.all (by decide +kernel) (pa_cons (pe_lc (own := [("at", 4), ("told", 5)]) (g := gTup K 2 (gCons (gName 4) (gCons (gName 5) (gNil)))) (tt := tYes) rfl nd (pi_enumS (by rfl) T.enumerate (pa_cons (pv 1) pa_nil)) (blkOk_by (own := [("at", 4), ("told", 5)]) (N := ["near", "row", "letter", "sign", "at", "told"]) (sc := defScope sFits) (by decide +kernel)) (fun _ _ _ _ _ => (pg_tup rfl (pgs_cons (pg_name (i := 4) nd rfl (Or.inl rfl)) (pgs_cons (pg_name (i := 5) nd rfl (Or.inl rfl)) pgs_nil)))) (fun _ _ _ _ _ => pts_nil) (fun _ _ _ _ _ => (pe_cmpR op_eq (pe_cmpR op_in_sign (pe_ix ix_str (pe_glob (v := .str "abcdefg") (by rfl) hA ⟨_, rfl⟩) (pv 4) (fun _ _ => rfl)) (pe_dget (hu_of hr) (pv 0) (pv 2) (fun _ _ => rfl)) (by rfl)) (pe_cmpR op_in_sign (pv 5) (pe_dget (hu_of hr) (pv 0) (pv 3) (fun _ _ => rfl)) (by rfl)) (nomark _)))) pa_nil)))), ?_⟩
    refine ⟨_, rfl, tx row, rfl, fun D hD => lc_gen (n := row.length) (fun j H' => Same H H' ∧ H' D = some (.lst ((List.range j).map fun i => V.bl (decide (i ∈ OW.fr Fs l) == decide (row.getD i 0 ∈ OW.fr Fs sgn))))) ⟨sameNew hD, upd_same⟩ (fun j H' hj _ => ?_) (fun H' _ => ?_) ?_ ?_⟩
    · show j < ((OWK.signs (tx row)).map V.str).length
      rw [signs_tx, List.length_map, List.length_map]; exact hj
    · show ((OWK.signs (tx row)).map V.str).length ≤ row.length
      rw [signs_tx, List.length_map, List.length_map]; exact Nat.le_refl _
    · rintro j x H1 H2 hj ⟨sm, hD1⟩ ⟨T1, y, rfl, nT, rfl, hy⟩
      rw [signs_tx, List.map_map, List.getElem?_map, List.getElem?_eq_getElem hj] at hy
      have hy' : V.str (tx [row[j]]) = y := Option.some.inj hy
      subst hy'
      have nD : D ≠ T1 := ne_of_none hD1 nT
      have sm2 : Same H (upd H1 T1 (.tup [.int (j : Nat), .str (tx [row[j]])])) := sm.trans (sameNew nT)
      refine ⟨T1, _, rfl, SqT.of upd_same, rfl, _, _, rfl, _, [], rfl, rfl, rfl, ?_⟩
      have hDT : (upd H1 T1 (.tup [.int (j : Nat), .str (tx [row[j]])])) D = some (.lst ((List.range j).map fun i => V.bl (decide (i ∈ OW.fr Fs l) == decide (row.getD i 0 ∈ OW.fr Fs sgn)))) := by rw [upd_ne nD]; exact hD1
      generalize upd H1 T1 (.tup [.int (j : Nat), .str (tx [row[j]])]) = H3 at sm2 hDT
      have hd3 := sm2 _ _ hd
      refine ⟨_, rfl, _, _, _, rfl, rfl, alpha_len, alpha_at (i := j) (by omega), _, rfl, _, rfl, d, _, rfl, .inl ⟨_, Sum.inr (tx [l]), .inl hd3, rfl, (valV_wd hl).symm⟩, j + 97, _, rfl, rfl, ?_⟩
      refine ⟨_, rfl, _, rfl, _, rfl, d, _, rfl, .inl ⟨_, Sum.inr (tx [sgn]), .inl hd3, rfl, (valV_wd hs).symm⟩, row[j] + 97, _, rfl, rfl, rfl, _, hDT, by rw [List.length_map, List.length_range]; exact lt_line (by omega), sameUp sm2 hD, ?_⟩
      rw [upd_same, List.range_succ, List.map_append, dec_mem, dec_mem]
      have e3 : row.getD j 0 = row[j] := OW.getD_at hj
      show some (HO.lst (_ ++ [V.bl (decide (V.bl (decide (j ∈ OW.fr Fs l)) = V.bl (decide (row[j] ∈ OW.fr Fs sgn))))])) = some (HO.lst (_ ++ [V.bl (decide (j ∈ OW.fr Fs l) == decide (row.getD j 0 ∈ OW.fr Fs sgn))]))
      rw [e3]
      have e4 : decide (V.bl (decide (j ∈ OW.fr Fs l)) = V.bl (decide (row[j] ∈ OW.fr Fs sgn))) = (decide (j ∈ OW.fr Fs l) == decide (row[j] ∈ OW.fr Fs sgn)) := by
        cases decide (j ∈ OW.fr Fs l) <;> cases decide (row[j] ∈ OW.fr Fs sgn) <;> rfl
      rw [e4]
    rintro H1 ⟨sm1, hD1⟩
    refine ⟨D, (List.range row.length).map fun i => (decide (i ∈ OW.fr Fs l) == decide (row.getD i 0 ∈ OW.fr Fs sgn)), rfl, SqL.of (by rw [hD1, List.map_map]; rfl), ?_⟩
    have e5 : (((List.range row.length).map fun i => (decide (i ∈ OW.fr Fs l) == decide (row.getD i 0 ∈ OW.fr Fs sgn))).all id) = OW.fits Fs row l sgn := by
      unfold OW.fits
      rw [List.all_map]
      rfl
    rw [e5]
    exact q H1 sm1
end
end OWP
end
section
namespace OWP
open PySem PySem.Spec PyProof.Rows L2 OWK
section
variable {P : Program} {w : World} {K : PySem.W.Frag} {mg : Str → Option Value} {base : Heap}
theorem sc_image_of : FnScope ["near", "told", "kind", "sign"] ["near", "told", "kind"] (defScope sImage) := ⟨rfl, rfl, rfl, by decide +kernel, rfl, by decide +kernel, by decide +kernel⟩
theorem ok_image_of (D : DefAt K mg "image_of" sImage) (T : Free mg) (O_least_order : OkAt P w K mg base 1 "least_order" ["told", "order"] sp_least_order) (O_first_stands : OkAt P w K mg base 1 "first_stands" ["word"] sp_first_stands) :
    OkAt P w K mg base 2 "image_of" ["near", "told", "kind"] sp_image_of := by
  obtain ⟨f, fd, g, F⟩ := D
  obtain ⟨f_least_order, fd_least_order, g_least_order, k_least_order, b_least_order, G_least_order⟩ := O_least_order
  obtain ⟨f_first_stands, fd_first_stands, g_first_stands, k_first_stands, b_first_stands, G_first_stands⟩ := O_first_stands
  obtain ⟨tA, hA⟩ := T.alpha
  obtain ⟨tM, hM⟩ := T.most
  refine ⟨f, fd, g, F.kp, F.binds (ps := ["near", "told", "kind"]) (fun _ _ _ _ _ _ us hl => match us, hl with | [_, _, _], _ => rfl), ?_⟩
  refine F.ok sc_image_of (fun vs H Q E h => ?_) (fun cdv A outer s H vs Q E hr h => ?_)
  · obtain ⟨_, _, _, _, _, rfl, _⟩ := h
    rfl
  · have nd := sc_image_of.nd
    obtain ⟨d, n, Fs, t, k, rfl, hd, hn7, ⟨ht1, ht2, ht3⟩, hk, hkl, q⟩ := h
    refine ⟨_, (pss_one (ps_ret (pe_call G_least_order (hr.mono (j := 1) (by decide)) (by rfl) g_least_order k_least_order b_least_order .nil pass0 (pa_cons (pv 0) (pa_cons (pe_call G_first_stands (hr.mono (j := 1) (by decide)) (by rfl) g_first_stands k_first_stands b_first_stands .nil pass0 (pa_cons (pe_join pe_str (pe_lc (own := [("sign", 3)]) (g := gName 3) (tt := tYes) rfl nd (pi_str (pv 2)) (blkOk_by (own := [("sign", 3)]) (N := ["near", "told", "kind", "sign"]) (sc := defScope sImage) (by decide +kernel)) (fun _ _ _ _ _ => (pg_name (i := 3) nd rfl (Or.inl rfl))) (fun _ _ _ _ _ => pts_nil) (fun _ _ _ _ _ => (pe_ix ix_str (pv 1) (pe_m1 PySem.F.slot_str_index PySem.F.type_str_index mt_sindex (pe_glob (v := .str "abcdefg") (by rfl) hA ⟨_, rfl⟩) (pv 3)) (fun _ _ => rfl))))) pa_nil)) pa_nil))))), ?_⟩
    refine ⟨_, rfl, ⟨_, rfl⟩, _, rfl, tx k, rfl, fun D hD => lc_gen (n := k.length) (fun j H' => Same H H' ∧ H' D = some (.lst ((k.take j).map fun i => V.str (tx [t.getD i 0])))) ⟨sameNew hD, upd_same⟩ (fun j H' hj _ => ?_) (fun H' _ => ?_) ?_ ?_⟩
    · show j < (tx k).cps.size
      rw [tx_size]; exact hj
    · show (tx k).cps.size ≤ k.length
      rw [tx_size]; exact Nat.le_refl _
    · rintro j x H1 H2 hj ⟨sm, hD1⟩ ⟨rfl, c, hcx, rfl⟩
      have hc' : c = k[j] + 97 := by
        rw [← Array.getElem?_toList, tx_list, List.getElem?_map, List.getElem?_eq_getElem hj] at hcx
        exact (Option.some.inj hcx).symm
      subst hc'
      have hkj := hk _ (List.getElem_mem hj)
      obtain ⟨r, hr2⟩ := index_alpha (i := k[j]) (by omega)
      have htl : k[j] < t.length := by omega
      refine ⟨rfl, _, rfl, ⟨_, rfl⟩, _, rfl, _, _, k[j], r, rfl, rfl, hr2, _, _, t[k[j]] + 97, rfl, rfl, tx_line (by omega), tx_at htl, _, hD1, by rw [List.length_map, List.length_take]; exact lt_line (by omega), sameUp sm hD, ?_⟩
      rw [upd_same, List.take_add_one, List.getElem?_eq_getElem hj, List.map_append]
      show _ = some (HO.lst (_ ++ [V.str (tx [t.getD k[j] 0])]))
      rw [OW.getD_at htl]
      rfl
    rintro H1 ⟨sm1, hD1⟩
    rw [List.take_length] at hD1
    have e1 : (k.map fun i => V.str (tx [t.getD i 0])) = ((OW.move t k).map fun i => tx [i]).map V.str := by
      unfold OW.move
      rw [List.map_map, List.map_map]
      rfl
    rw [e1] at hD1
    have hml : (OW.move t k).length = k.length := by unfold OW.move; rw [List.length_map]
    have hmlt : ∀ x ∈ OW.move t k, x < n := fun x hx => by
      obtain ⟨i, hi, rfl⟩ := List.mem_map.mp hx
      have hil : i < t.length := by have := hk i hi; omega
      rw [OW.getD_at hil]
      exact ht3 _ (List.getElem_mem hil)
    refine ⟨"", D, _, rfl, rfl, .inl (SqL.of hD1), by rw [sum_ones]; omega, ?_⟩
    rw [join_letters]
    refine ⟨OW.move t k, rfl, by omega, ?_⟩
    exact ⟨d, n, Fs, OW.firsts (OW.move t k), rfl, sm1 _ _ hd, hn7, OW.firsts_nodup _, fun x hx => hmlt x (OW.mem_firsts.mp hx), fun H2 sm2 => q H2 (sm1.trans sm2)⟩
end
end OWP
end
section
namespace OWP
open PySem PySem.Spec PyProof.Rows L2 OWK
section
variable {P : Program} {w : World} {K : PySem.W.Frag} {mg : Str → Option Value} {base : Heap}
theorem sc_need_names : FnScope ["company", "names"] ["company", "names"] (defScope sNeedNames) := ⟨rfl, rfl, rfl, by decide +kernel, rfl, by decide +kernel, by decide +kernel⟩
theorem ok_need_names (D : DefAt K mg "need_names" sNeedNames) (T : Free mg) :
    OkAt P w K mg base 1 "need_names" ["company", "names"] sp_need_names := by
  obtain ⟨f, fd, g, F⟩ := D
  obtain ⟨tA, hA⟩ := T.alpha
  obtain ⟨tM, hM⟩ := T.most
  refine ⟨f, fd, g, F.kp, F.binds (ps := ["company", "names"]) (fun _ _ _ _ _ _ us hl => match us, hl with | [_, _], _ => rfl), ?_⟩
  refine F.ok sc_need_names (fun vs H Q E h => ?_) (fun cdv A outer s H vs Q E hr h => ?_)
  · obtain ⟨_, _, _, _, rfl, _⟩ := h
    rfl
  · have nd := sc_need_names.nd
    obtain ⟨a, n, Fs, t, rfl, hc, hn, q⟩ := h
    refine ⟨_, (pss_one (ps_if (PW.pt (pw_or (pt_not (pt_val (pe_callB call_isi (by rfl) T.isinstance (by decide +kernel) (pa_cons (pv 1) (pa_cons (pe_bltn (v := .ty "str") (by rfl) T.str (by decide +kernel) rfl) pa_nil))))) (pw_or1 (pt_cmpR (op_neD hr.units) (pe_callB (cr_sortT1 rfl (ru hr 3 (by decide))) (by rfl) T.sorted (by decide +kernel) (pa_cons (pv 1) pa_nil)) (pe_callTy (cr_listT rfl) (by rfl) T.list (by decide +kernel) (pa_cons (pe_slice sl_str (pe_glob (v := .str "abcdefg") (by rfl) hA ⟨_, rfl⟩) po_none (po_some (pe_ix (ix_tupK (K := K) rfl) (pv 0) pe_int (fun _ _ => rfl)))) pa_nil)) (nomark _))))) (pss_one ps_never) pss_nil)), ?_⟩
    obtain ⟨b, ps, ha, hb, hp⟩ := hc.at_
    have h5 := hc.most
    have htl := hn.1
    refine ⟨_, rfl, _, _, _, _, true, rfl, .ty _, .base (.str _), kit_ty (by decide +kernel), true, rfl, iteF ?_⟩
    refine ⟨_, rfl, tx t, rfl, by rw [tx_size]; exact le_line (by omega), fun p hp0 => ?_⟩
    have sm1 : Same H (upd H p (.lst ((sortS (OWK.signs (tx t))).map V.str))) := sameNew hp0
    refine ⟨_, rfl, a, _, _, .int n, rfl, rfl, SqT.of (sm1 _ _ ha), atI_nat (j := 0) rfl, _, rfl, _, rfl, alpha_len, cutS "abcdefg" none (some (n : Int)), rfl, by rw [alpha_cut (by omega), tx_size, List.length_range]; exact le_line (by omega), fun p2 hp2 => ?_⟩
    have nd2 : p ≠ p2 := fun e => by subst e; rw [upd_same] at hp2; cases hp2
    have eA : (OWK.signs (cutS "abcdefg" none (some (n : Int)))).map V.str = ((List.range n).map fun i => [i]).map wv := by
      rw [alpha_cut (by omega), signs_tx, List.map_map, List.map_map]; rfl
    have eB : (sortS (OWK.signs (tx t))).map V.str = ((List.range n).map fun i => [i]).map wv := by
      rw [sorted_signs, sw_range hn, List.map_map, List.map_map]; rfl
    have hsh : SeqAt.shaped (.list (((List.range n).map fun i => [i]).map sD)) = true := shaped_strs fun r hr c hc2 => by
      obtain ⟨i, hi, rfl⟩ := List.mem_map.mp hr
      have h1 := List.mem_range.mp hi
      have h2 : c = i := by simpa using hc2
      omega
    refine ⟨_, _, .lst (SqL.of (by rw [upd_ne nd2, upd_same, eB])) (dp_strs _), .lst (SqL.of (by rw [upd_same, eA])) (dp_strs _), hsh, hsh, false, ?_, iteF ?_⟩
    · rw [eqv_self hsh]; rfl
    · exact q _ (sameUp sm1 (Same.free sm1 hp2))
end
end OWP
end
section
namespace OWP
open PySem PySem.Spec PyProof.Rows L2 OWK
section
variable {P : Program} {w : World} {K : PySem.W.Frag} {mg : Str → Option Value} {base : Heap}
theorem sc_renamed_of : FnScope ["company", "names", "places", "sign", "one", "other"] ["company", "names"] (defScope sRenamedOf) := ⟨rfl, rfl, rfl, by decide +kernel, rfl, by decide +kernel, by decide +kernel⟩
theorem ok_renamed_of (D : DefAt K mg "renamed_of" sRenamedOf) (T : Free mg) :
    OkAt P w K mg base 1 "renamed_of" ["company", "names"] sp_renamed_of := by
  obtain ⟨f, fd, g, F⟩ := D
  obtain ⟨tA, hA⟩ := T.alpha
  obtain ⟨tM, hM⟩ := T.most
  refine ⟨f, fd, g, F.kp, F.binds (ps := ["company", "names"]) (fun _ _ _ _ _ _ us hl => match us, hl with | [_, _], _ => rfl), ?_⟩
  refine F.ok sc_renamed_of (fun vs H Q E h => ?_) (fun cdv A outer s H vs Q E hr h => ?_)
  · obtain ⟨_, _, _, _, rfl, _⟩ := h
    rfl
  · have nd := sc_renamed_of.nd
    obtain ⟨a, n, Fs, t, rfl, hc, ⟨ht1, ht2, ht3⟩, q⟩ := h
    refine ⟨_, (pss_cons (ps_set (i := 2) nd rfl (Or.inr rfl) (pe_lc (own := [("sign", 3)]) (g := gName 3) (tt := tYes) rfl nd (pi_str (pv 1)) (blkOk_by (own := [("sign", 3)]) (N := ["company", "names", "places", "sign", "one", "other"]) (sc := defScope sRenamedOf) (by decide +kernel)) (fun _ _ _ _ _ => (pg_name (i := 3) nd rfl (Or.inl rfl))) (fun _ _ _ _ _ => pts_nil) (fun _ _ _ _ _ => (pe_m1 PySem.F.slot_str_index PySem.F.type_str_index mt_sindex (pe_glob (v := .str "abcdefg") (by rfl) hA ⟨_, rfl⟩) (pv 3)))))
          (pss_one (ps_ret (pe_tup (pa_cons (pe_ix (ix_tupK (K := K) rfl) (pv 0) pe_int (fun _ _ => rfl)) (pa_cons (pe_callTy (call_tuple_ofK (K := K) rfl) (by rfl) T.tuple (by decide +kernel) (pa_cons (pe_callB cr_sortedPO (by rfl) T.sorted (by decide +kernel) (pa_cons (pe_lc (own := [("one", 4), ("other", 5)]) (g := gTup K 2 (gCons (gName 4) (gCons (gName 5) (gNil)))) (tt := tYes) rfl nd (pi_tup (pe_ix (ix_tupK (K := K) rfl) (pv 0) pe_int (fun _ _ => rfl))) (blkOk_by (own := [("one", 4), ("other", 5)]) (N := ["company", "names", "places", "sign", "one", "other"]) (sc := defScope sRenamedOf) (by decide +kernel)) (fun _ _ _ _ _ => (pg_tup rfl (pgs_cons (pg_name (i := 4) nd rfl (Or.inl rfl)) (pgs_cons (pg_name (i := 5) nd rfl (Or.inl rfl)) pgs_nil)))) (fun _ _ _ _ _ => pts_nil) (fun _ _ _ _ _ => (pe_callTy (call_tuple_ofK (K := K) rfl) (by rfl) T.tuple (by decide +kernel) (pa_cons (pe_callB (cr_sortedK (K := K) rfl) (by rfl) T.sorted (by decide +kernel) (pa_cons (pe_lst (pa_cons (pe_ix (ix_listK (K := K) rfl) (pv 2) (pv 4) (fun _ _ => rfl)) (pa_cons (pe_ix (ix_listK (K := K) rfl) (pv 2) (pv 5) (fun _ _ => rfl)) pa_nil))) pa_nil)) pa_nil)))) pa_nil)) pa_nil)) pa_nil)))))), ?_⟩
    obtain ⟨b, ps, ha, hb, hp⟩ := hc.at_
    have hl := hp.len
    have h5 := hc.most
    have hF := hc.few
    refine ⟨_, rfl, tx t, rfl, fun D hD => lc_gen (n := t.length) (fun j H' => Same H H' ∧ H' D = some (.lst (placeV (t.take j)))) ⟨sameNew hD, upd_same⟩ (fun j H' hj _ => ?_) (fun H' _ => ?_) ?_ ?_⟩
    · show j < (tx t).cps.size
      rw [tx_size]; exact hj
    · show (tx t).cps.size ≤ t.length
      rw [tx_size]; exact Nat.le_refl _
    · rintro j x H1 H2 hj ⟨sm, hD1⟩ ⟨rfl, c, hcx, rfl⟩
      have hc' : c = t[j] + 97 := by
        rw [← Array.getElem?_toList, tx_list, List.getElem?_map, List.getElem?_eq_getElem hj] at hcx
        exact (Option.some.inj hcx).symm
      subst hc'
      have htj := ht3 _ (List.getElem_mem hj)
      obtain ⟨r, hr2⟩ := index_alpha (i := t[j]) (by omega)
      refine ⟨rfl, ⟨_, rfl⟩, _, rfl, _, _, t[j], r, rfl, rfl, hr2, _, hD1, ?_, sameUp sm hD, ?_⟩
      · unfold placeV; rw [List.length_map, List.length_take]; exact lt_line (by omega)
      · rw [upd_same]; unfold placeV; rw [take_map_succ hj]
    rintro H1 ⟨sm1, hD1⟩
    rw [List.take_length] at hD1
    have hb1 := sm1 _ _ hb
    have ha1 := sm1 _ _ ha
    refine ⟨_, rfl, a, _, _, .int n, rfl, rfl, SqT.of ha1, atI_nat (j := 0) rfl, ?_⟩
    refine ⟨_, rfl, a, _, _, .ref b, rfl, rfl, SqT.of ha1, atI_nat (j := 1) rfl, b, rfl, ⟨_, SqT.of hb1⟩, fun E hE => lc_gen (n := Fs.length) (fun j H' => Same H1 H' ∧ ∃ qs, H' E = some (.lst (qs.map V.ref)) ∧ PairsAt H' qs ((Fs.take j).map (OW.nm t)) ∧ H1 E = none)
      ⟨sameNew hE, [], upd_same, .nil, hE⟩ (fun j H' hj h => ?_) (fun H' h => ?_) ?_ ?_⟩
    · exact ⟨_, .ref (ps[j]'(by omega)), SqT.of (h.1 _ _ hb1), by rw [List.getElem?_map, List.getElem?_eq_getElem (show j < ps.length by omega)]; rfl⟩
    · exact ⟨_, SqT.of (h.1 _ _ hb1), by rw [List.length_map]; omega⟩
    · rintro j x H2 H3 hj ⟨sm, qs, hE2, hqs, hE0⟩ ⟨rfl, fx⟩
      have ex := fx _ (SqT.of (sm _ _ hb1))
      obtain ⟨p, hp1, hp2⟩ := hp.get j Fs[j] (List.getElem?_eq_getElem hj)
      rw [List.getElem?_map, hp1] at ex
      have ex1 : V.ref p = x := Option.some.inj ex
      subst ex1
      have hpp := sm _ _ (sm1 _ _ hp2)
      have hD3 := sm _ _ hD1
      obtain ⟨hlt, hn2⟩ := hc.co.lt _ (List.getElem_mem hj)
      refine ⟨p, _, rfl, SqT.of hpp, rfl, _, _, rfl, _, [], rfl, rfl, rfl, ?_⟩
      refine ⟨_, rfl, _, rfl, D, _, _, _, rfl, rfl, SqL.of hD3, atI_nat (place_at (by omega)), _, rfl, _, rfl, D, _, _, _, rfl, rfl, SqL.of hD3, atI_nat (place_at (by omega)), ?_⟩
      refine ⟨two_line, fun l hl0 => ?_⟩
      refine ⟨l, [((t.getD Fs[j].1 0 : Nat) : Int), ((t.getD Fs[j].2 0 : Nat) : Int)], rfl, SqL.of upd_same, two_64, fun ns' p2 pm srt np => ?_⟩
      rw [sort_two pm srt]
      refine ⟨p2, _, rfl, .inl ⟨SqL.of upd_same, fun c hcn => ?_⟩⟩
      rw [take_map_succ hj]
      exact pair_step (f := OW.nm t Fs[j]) sm (sameUp (sameUp (sameNew hl0) (up_none np)) (up_none (up_none hcn))) hE0 hE2 hqs upd_same (by rw [List.length_map, List.length_take]; omega)
    rintro H2 ⟨sm, qs, hE2, hqs, hE0⟩
    rw [List.take_of_length_le (Nat.le_refl _)] at hqs
    refine ⟨E, qs.map V.ref, kH H2, rfl, SqL.of hE2, hqs.ks, fun ys p srt stb np => ?_⟩
    obtain ⟨qs', G', rfl, hG, pmG, srtG⟩ := sorted_pairs hqs srt stb.perm
    have eG := OW.rn_one pmG srtG
    subst eG
    refine ⟨p, _, rfl, .inl ⟨SqL.of upd_same, fun c hcn => ?_⟩⟩
    refine ⟨two_line, fun r hr => ?_⟩
    exact q _ _ ((sm1.trans sm).trans (sameUp (sameUp (sameNew np) (up_none hcn)) (up_none (up_none hr)))) (co_made hG (sameNew np) hcn hr)
end
end OWP
end
section
namespace OWP
open PySem PySem.Spec PyProof.Rows L2 OWK
section
variable {P : Program} {w : World} {K : PySem.W.Frag} {mg : Str → Option Value} {base : Heap}
theorem sc_renamed : FnScope ["company", "names"] ["company", "names"] (defScope sRenamed) := ⟨rfl, rfl, rfl, by decide +kernel, rfl, by decide +kernel, by decide +kernel⟩
theorem ok_renamed (D : DefAt K mg "renamed" sRenamed) (T : Free mg) (O_need_company : OkAt P w K mg base 3 "need_company" ["company"] sp_need_company) (O_need_names : OkAt P w K mg base 1 "need_names" ["company", "names"] sp_need_names) (O_renamed_of : OkAt P w K mg base 1 "renamed_of" ["company", "names"] sp_renamed_of) :
    OkAt P w K mg base 4 "renamed" ["company", "names"] sp_renamed := by
  obtain ⟨f, fd, g, F⟩ := D
  obtain ⟨f_need_company, fd_need_company, g_need_company, k_need_company, b_need_company, G_need_company⟩ := O_need_company
  obtain ⟨f_need_names, fd_need_names, g_need_names, k_need_names, b_need_names, G_need_names⟩ := O_need_names
  obtain ⟨f_renamed_of, fd_renamed_of, g_renamed_of, k_renamed_of, b_renamed_of, G_renamed_of⟩ := O_renamed_of
  obtain ⟨tA, hA⟩ := T.alpha
  obtain ⟨tM, hM⟩ := T.most
  refine ⟨f, fd, g, F.kp, F.binds (ps := ["company", "names"]) (fun _ _ _ _ _ _ us hl => match us, hl with | [_, _], _ => rfl), ?_⟩
  refine F.ok sc_renamed (fun vs H Q E h => ?_) (fun cdv A outer s H vs Q E hr h => ?_)
  · obtain ⟨_, _, _, _, rfl, _⟩ := h
    rfl
  · have nd := sc_renamed.nd
    obtain ⟨a, n, Fs, t, rfl, hc, hn, q⟩ := h
    refine ⟨_, (pss_cons (ps_expr (pe_call G_need_company (hr.mono (j := 3) (by decide)) (by rfl) g_need_company k_need_company b_need_company .nil pass0 (pa_cons (pv 0) pa_nil)))
          (pss_cons (ps_expr (pe_call G_need_names (hr.mono (j := 1) (by decide)) (by rfl) g_need_names k_need_names b_need_names .nil pass0 (pa_cons (pv 0) (pa_cons (pv 1) pa_nil))))
          (pss_one (ps_ret (pe_call G_renamed_of (hr.mono (j := 1) (by decide)) (by rfl) g_renamed_of k_renamed_of b_renamed_of .nil pass0 (pa_cons (pv 0) (pa_cons (pv 1) pa_nil))))))), ?_⟩
    exact ⟨_, rfl, a, n, Fs, rfl, hc, fun H1 sm1 => ⟨_, rfl, _, rfl, a, n, Fs, t, rfl, hc.keep sm1, hn, fun H2 sm2 => ⟨_, rfl, _, rfl, a, n, Fs, t, rfl, hc.keep (sm1.trans sm2), hn, fun H3 c sm3 h3 => q H3 c ((sm1.trans sm2).trans sm3) h3⟩⟩⟩
end
end OWP
end
section
namespace OWP
open PySem PySem.Spec PyProof.Rows L2 OWK
/-- the rows that the inner loops have put behind `later`: j rows whole, of the next one the letters below i -/
def ownPart (n : Nat) (F : OW.Fs) (k : Nat) (r : OW.Wd) (i : Nat) : List OW.Wd := ((List.range i).filter fun s => decide (s ∉ r) && OW.fits F r k s).map fun s => r ++ [s]
theorem ownPart_succ {n : Nat} {F : OW.Fs} {k : Nat} {r : OW.Wd} {i : Nat} : ownPart n F k r (i + 1) = ownPart n F k r i ++ (if (decide (i ∉ r) && OW.fits F r k i) = true then [r ++ [i]] else []) := by
  unfold ownPart
  rw [List.range_succ, List.filter_append, List.map_append]
  congr 1
  rw [List.filter_cons]
  split <;> rfl
theorem ownStep_take {n : Nat} {F : OW.Fs} {k j : Nat} {rows : List OW.Wd} (h : j < rows.length) : OW.ownStep n F k (rows.take (j + 1)) = OW.ownStep n F k (rows.take j) ++ ownPart n F k rows[j] n := by
  rw [List.take_add_one, List.getElem?_eq_getElem h]
  unfold OW.ownStep
  rw [List.flatMap_append]
  show _ ++ List.flatMap _ [rows[j]] = _
  rw [List.flatMap_cons, List.flatMap_nil, List.append_nil]
  rfl
theorem own_mem {n : Nat} {F : OW.Fs} {k : Nat} {r : OW.Wd} (h : r ∈ OW.own n F k) : r ∈ OW.ord n k := by
  rw [OW.own_filter] at h
  exact (List.mem_filter.mp h).1
theorem own_len {n : Nat} {F : OW.Fs} (k : Nat) (h : n ≤ 5) (hk : k ≤ n) : (OW.own n F k).length ≤ 3125 := by
  rw [OW.own_filter]
  have h1 := List.length_filter_le (OW.good F) (OW.ord n k)
  have h2 := OW.ord_len n k
  have h3 : n ^ k ≤ 5 ^ 5 := Nat.le_trans (Nat.pow_le_pow_left h k) (Nat.pow_le_pow_right (by omega) (by omega))
  have h4 : (5 : Nat) ^ 5 = 3125 := by decide
  omega
theorem step_len {n : Nat} {F : OW.Fs} {k : Nat} (rows : List OW.Wd) (h : n ≤ 5) (hr : rows.length ≤ 3125) : (OW.ownStep n F k rows).length ≤ 20000 := by
  have h1 : (OW.ownStep n F k rows).length ≤ rows.length * n := by
    unfold OW.ownStep
    clear hr
    induction rows with
    | nil => simp
    | cons r rs ih =>
      rw [List.flatMap_cons, List.length_append, List.length_cons, Nat.succ_mul, List.length_map]
      have := List.length_filter_le (fun s => decide (s ∉ r) && OW.fits F r k s) (List.range n)
      rw [List.length_range] at this
      omega
  have h2 : rows.length * n ≤ 3125 * 5 := Nat.mul_le_mul hr h
  omega
theorem part_len {n : Nat} {F : OW.Fs} {k : Nat} {r : OW.Wd} {i : Nat} : (ownPart n F k r i).length ≤ i := by
  unfold ownPart
  rw [List.length_map]
  have := List.length_filter_le (fun s => decide (s ∉ r) && OW.fits F r k s) (List.range i)
  rwa [List.length_range] at this
section
variable {P : Program} {w : World} {K : PySem.W.Frag} {mg : Str → Option Value} {base : Heap}
theorem sc_own_names_of : FnScope ["company", "near", "rows", "at", "later", "row", "sign"] ["company"] (defScope sOwnOf) := ⟨rfl, rfl, rfl, by decide +kernel, rfl, by decide +kernel, by decide +kernel⟩
theorem ok_own_names_of (D : DefAt K mg "own_names_of" sOwnOf) (T : Free mg) (O_friends_of_all : OkAt P w K mg base 1 "friends_of_all" ["company"] sp_friends_of_all) (O_fits : OkAt P w K mg base 1 "fits" ["near", "row", "letter", "sign"] sp_fits) :
    OkAt P w K mg base 2 "own_names_of" ["company"] sp_own_names_of := by
  obtain ⟨f, fd, g, F⟩ := D
  obtain ⟨f_friends_of_all, fd_friends_of_all, g_friends_of_all, k_friends_of_all, b_friends_of_all, G_friends_of_all⟩ := O_friends_of_all
  obtain ⟨f_fits, fd_fits, g_fits, k_fits, b_fits, G_fits⟩ := O_fits
  obtain ⟨tA, hA⟩ := T.alpha
  obtain ⟨tM, hM⟩ := T.most
  refine ⟨f, fd, g, F.kp, F.binds (ps := ["company"]) (fun _ _ _ _ _ _ us hl => match us, hl with | [_], _ => rfl), ?_⟩
  refine F.ok sc_own_names_of (fun vs H Q E h => ?_) (fun cdv A outer s H vs Q E hr h => ?_)
  · obtain ⟨_, _, _, rfl, _⟩ := h
    rfl
  · have nd := sc_own_names_of.nd
    obtain ⟨a, n, Fs, rfl, hc, q⟩ := h
    refine ⟨_, (pss_cons (ps_par (i := 1) (j := 2) rfl nd rfl rfl (by decide) rfl rfl (pa_cons (pe_call G_friends_of_all (hr.mono (j := 1) (by decide)) (by rfl) g_friends_of_all k_friends_of_all b_friends_of_all .nil pass0 (pa_cons (pv 0) pa_nil)) (pa_cons (pe_lst (pa_cons pe_str pa_nil)) pa_nil)) (by rfl))
          (pss_cons (ps_for PassesOwn.never rfl (pi_range1 (by rfl) T.range (pa_cons (pe_ix (ix_tupK (K := K) rfl) (pv 0) pe_int (fun _ _ => rfl)) pa_nil)) (pg_name (i := 3) nd rfl (Or.inl rfl)) (pss_cons (ps_set (i := 4) nd rfl (Or.inl rfl) (pe_lst pa_nil))
          (pss_cons (ps_for PassesOwn.never rfl (pi_list (pv 2)) (pg_name (i := 5) nd rfl (Or.inl rfl)) (pss_one (ps_for PassesOwn.never rfl (pi_str (pe_slice sl_str (pe_glob (v := .str "abcdefg") (by rfl) hA ⟨_, rfl⟩) po_none (po_some (pe_ix (ix_tupK (K := K) rfl) (pv 0) pe_int (fun _ _ => rfl))))) (pg_name (i := 6) nd rfl (Or.inl rfl)) (pss_one (ps_if (PW.pt (pw_and (pt_cmpR op_notIn_sign (pv 6) (pv 5) (by rfl)) (pw_and1 (pt_val (pe_call G_fits (hr.mono (j := 1) (by decide)) (by rfl) g_fits k_fits b_fits .nil pass0 (pa_cons (pv 1) (pa_cons (pv 5) (pa_cons (pe_ix ix_str (pe_glob (v := .str "abcdefg") (by rfl) hA ⟨_, rfl⟩) (pv 3) (fun _ _ => rfl)) (pa_cons (pv 6) pa_nil))))))))) (pss_one (ps_expr (pe_bm PySem.F.plainAttrs_list PySem.F.slot_list_append PySem.F.type_list_append mt_append (pv 4) (pa_cons (pe_op op_add_str (pv 5) (pv 6)) pa_nil)))) pss_nil)))))
          (pss_one (ps_set (i := 2) nd rfl (Or.inl rfl) (pv 4))))))
          (pss_one (ps_ret (pv 2))))), ?_⟩
    obtain ⟨b, ps, ha, hb, hp⟩ := hc.at_
    have h5 := hc.most
    refine ⟨_, rfl, a, n, Fs, rfl, hc, fun H1 d sm1 hd1 near1 => ⟨le_line (by decide), fun p hp0 => ⟨_, _, rfl, ?_⟩⟩⟩
    have hpH : H p = none := Same.free sm1 hp0
    have sm2 : Same H (upd H1 p (.lst [wv []])) := sameUp sm1 hpH
    have hd2 : (upd H1 p (.lst [wv []])) d = some (.dK (nearK n Fs)) := by rw [upd_ne (ne_of_none near1 hp0)]; exact near1
    have hp2 : (upd H1 p (.lst [wv []])) p = some (.lst [wv []]) := upd_same
    have ehp : upd H1 p (.lst [V.str ""]) = upd H1 p (.lst [wv []]) := rfl
    rw [ehp]
    generalize upd H1 p (.lst [wv []]) = H2 at sm2 hd2 hp2
    refine ⟨_, rfl, a, _, _, .int n, rfl, rfl, SqT.of (sm2 _ _ ha), atI_nat (j := 0) rfl, n, rfl, by omega, by omega, for_gen (n := n) (fun k σ H' => ∃ pr y3 y4 y5 y6, σ = [some (.ref a), some (.ref d), some (.ref pr), y3, y4, y5, y6] ∧ Same H H' ∧ H' d = some (.dK (nearK n Fs)) ∧ H pr = none ∧ H' pr = some (.lst ((OW.own n Fs k).map wv)))
      ⟨p, none, none, none, none, rfl, sm2, hd2, hpH, hp2⟩ (fun k σ H' hk _ => hk) (fun σ H' _ => Nat.le_refl _) ?_ ?_⟩
    · rintro k x σ H3 H4 hk ⟨pr, y3, y4, y5, y6, rfl, sm, hd, hpr0, hpr⟩ ⟨rfl, rfl⟩
      have hol := own_len (n := n) (F := Fs) k h5 (by omega)
      refine ⟨Nat.zero_le _, fun pl hpl => ?_⟩
      have nrl : pr ≠ pl := ne_of_none hpr hpl
      have ndl : d ≠ pl := ne_of_none hd hpl
      have hplH : H pl = none := Same.free sm hpl
      have smA : Same H (upd H4 pl (.lst [])) := sameUp sm hplH
      have hdA : (upd H4 pl (.lst [])) d = some (.dK (nearK n Fs)) := by rw [upd_ne ndl]; exact hd
      have hprA : (upd H4 pl (.lst [])) pr = some (.lst ((OW.own n Fs k).map wv)) := by rw [upd_ne nrl]; exact hpr
      refine ⟨_, rfl, pr, rfl, ⟨_, SqL.of hprA⟩, for_gen (n := (OW.own n Fs k).length) (fun j σ H' => ∃ y5 y6, σ = [some (.ref a), some (.ref d), some (.ref pr), some (.int (0 + (k : Nat))), some (.ref pl), y5, y6] ∧ Same H H' ∧ H' d = some (.dK (nearK n Fs)) ∧ H' pr = some (.lst ((OW.own n Fs k).map wv)) ∧
        H' pl = some (.lst ((OW.ownStep n Fs k ((OW.own n Fs k).take j)).map wv))) ⟨y5, y6, rfl, smA, hdA, hprA, upd_same⟩ (fun j σ H' hj h => ?_) (fun σ H' h => ?_) ?_ ?_⟩
      · obtain ⟨_, _, _, _, _, h1, _⟩ := h
        exact ⟨_, wv (OW.own n Fs k)[j], SqL.of h1, by rw [List.getElem?_map, List.getElem?_eq_getElem hj]; rfl⟩
      · obtain ⟨_, _, _, _, _, h1, _⟩ := h
        exact ⟨_, SqL.of h1, by rw [List.length_map]; exact Nat.le_refl _⟩
      · rintro j x σ H5 H6 hj ⟨y5, y6, rfl, sm, hd, hpr, hpl⟩ ⟨rfl, fx⟩
        have ex := fx _ (SqL.of hpr)
        rw [List.getElem?_map, List.getElem?_eq_getElem hj] at ex
        have ex1 : wv (OW.own n Fs k)[j] = x := Option.some.inj ex
        subst ex1
        have hrm := OW.ord_mem (own_mem (List.getElem_mem hj))
        have hsl := step_len (n := n) (F := Fs) (k := k) ((OW.own n Fs k).take j) h5 (by rw [List.length_take]; omega)
        generalize hr0 : (OW.own n Fs k)[j] = r at hrm
        refine ⟨_, rfl, a, _, _, .int n, rfl, rfl, SqT.of (sm _ _ ha), atI_nat (j := 0) rfl, _, rfl, _, rfl, alpha_len, tx (List.range n), str_eq (alpha_cut (by omega)), for_gen (n := n) (fun i σ H' => ∃ y6, σ = [some (.ref a), some (.ref d), some (.ref pr), some (.int (0 + (k : Nat))), some (.ref pl), some (wv r), y6] ∧ Same H H' ∧ H' d = some (.dK (nearK n Fs)) ∧ H' pr = some (.lst ((OW.own n Fs k).map wv)) ∧
          H' pl = some (.lst ((OW.ownStep n Fs k ((OW.own n Fs k).take j) ++ ownPart n Fs k r i).map wv))) ⟨y6, rfl, sm, hd, hpr, by rw [hpl]; unfold ownPart; rw [List.range_zero, List.filter_nil, List.map_nil, List.append_nil]⟩ (fun i σ H' hi _ => ?_) (fun σ H' _ => ?_) ?_ ?_⟩
        · show i < (tx (List.range n)).cps.size
          rw [tx_size, List.length_range]; exact hi
        · show (tx (List.range n)).cps.size ≤ n
          rw [tx_size, List.length_range]; exact Nat.le_refl _
        · rintro i x σ H7 H8 hi ⟨y6, rfl, sm, hd, hpr, hpl⟩ ⟨rfl, c, hcx, rfl⟩
          have hc' : c = i + 97 := by
            rw [← Array.getElem?_toList, tx_list, List.getElem?_map, List.getElem?_range hi] at hcx
            exact (Option.some.inj hcx).symm
          subst hc'
          refine ⟨_, rfl, _, rfl, i + 97, tx r, rfl, rfl, _, rfl, ?_⟩
          rw [dec_mem]
          by_cases hm : i ∈ r
          · rw [decide_eq_true hm]
            refine iteF (iteF ⟨some (wv [i]), rfl, sm, hd, hpr, ?_⟩)
            rw [hpl, ownPart_succ, if_neg (by simp [hm]), List.append_nil]
          · rw [decide_eq_false hm]
            refine iteT ⟨_, rfl, _, rfl, _, rfl, _, _, _, rfl, rfl, alpha_len, by rw [Int.zero_add]; exact alpha_at (i := k) (by omega), _, rfl, d, n, Fs, r, k, i, rfl, hd, by omega, hk, hi, by omega, fun H9 sm9 => ⟨_, rfl, ?_⟩⟩
            cases hf : OW.fits Fs r k i with
            | false =>
              refine iteF ⟨some (wv [i]), rfl, sm.trans sm9, sm9 _ _ hd, sm9 _ _ hpr, ?_⟩
              rw [sm9 _ _ hpl, ownPart_succ, if_neg (by simp [hf]), List.append_nil]
            | true =>
              have hpl9 := sm9 _ _ hpl
              have hprl : pr ≠ pl := nrl
              refine iteT ⟨_, rfl, .inl ⟨rfl, _, SqL.of hpl9⟩, _, rfl, _, rfl, _, _, rfl, rfl, ?_, pl, _, _, rfl, rfl, hpl9, ?_, ?_⟩
              · show (tx r).length + (tx [i]).length ≤ sizeLine
                rw [tx_len, tx_len]; exact le_line (by show _ + 1 ≤ _; omega)
              · rw [List.length_map, List.length_append]
                have := part_len (n := n) (F := Fs) (k := k) (r := r) (i := i)
                exact lt_line (by omega)
              · refine ⟨some (wv [i]), rfl, sameUp (sm.trans sm9) hplH, by rw [upd_ne ndl]; exact sm9 _ _ hd, by rw [upd_ne nrl]; exact sm9 _ _ hpr, ?_⟩
                rw [upd_same, ownPart_succ, if_pos (by simp [hf, hm]), ← List.append_assoc, List.map_append (l₂ := [r ++ [i]])]
                show some (HO.lst (_ ++ [V.str (tx r ++ tx [i])])) = _
                rw [tx_append]; rfl
        · rintro σ H7 ⟨y6, rfl, sm, hd, hpr, hpl⟩
          refine ⟨some (wv r), y6, rfl, sm, hd, hpr, ?_⟩
          rw [hpl, ownStep_take hj, hr0]
      · rintro σ H5 ⟨y5, y6, rfl, sm, hd, hpr, hpl⟩
        refine ⟨_, rfl, pl, _, _, y5, y6, rfl, sm, hd, hplH, ?_⟩
        rw [hpl, List.take_length]
        rfl
    · rintro σ H3 ⟨pr, y3, y4, y5, y6, rfl, sm, hd, hpr0, hpr⟩
      exact ⟨_, rfl, q H3 pr sm hpr0 hpr⟩
end
end OWP
end
section
namespace OWP
open PySem PySem.Spec PyProof.Rows L2 OWK
section
variable {P : Program} {w : World} {K : PySem.W.Frag} {mg : Str → Option Value} {base : Heap}
theorem sc_own_names : FnScope ["company"] ["company"] (defScope sOwn) := ⟨rfl, rfl, rfl, by decide +kernel, rfl, by decide +kernel, by decide +kernel⟩
theorem ok_own_names (D : DefAt K mg "own_names" sOwn) (T : Free mg) (O_need_company : OkAt P w K mg base 3 "need_company" ["company"] sp_need_company) (O_own_names_of : OkAt P w K mg base 2 "own_names_of" ["company"] sp_own_names_of) :
    OkAt P w K mg base 4 "own_names" ["company"] sp_own_names := by
  obtain ⟨f, fd, g, F⟩ := D
  obtain ⟨f_need_company, fd_need_company, g_need_company, k_need_company, b_need_company, G_need_company⟩ := O_need_company
  obtain ⟨f_own_names_of, fd_own_names_of, g_own_names_of, k_own_names_of, b_own_names_of, G_own_names_of⟩ := O_own_names_of
  obtain ⟨tA, hA⟩ := T.alpha
  obtain ⟨tM, hM⟩ := T.most
  refine ⟨f, fd, g, F.kp, F.binds (ps := ["company"]) (fun _ _ _ _ _ _ us hl => match us, hl with | [_], _ => rfl), ?_⟩
  refine F.ok sc_own_names (fun vs H Q E h => ?_) (fun cdv A outer s H vs Q E hr h => ?_)
  · obtain ⟨_, _, _, rfl, _⟩ := h
    rfl
  · have nd := sc_own_names.nd
    obtain ⟨a, n, Fs, rfl, hc, q⟩ := h
    refine ⟨_, (pss_cons (ps_expr (pe_call G_need_company (hr.mono (j := 3) (by decide)) (by rfl) g_need_company k_need_company b_need_company .nil pass0 (pa_cons (pv 0) pa_nil)))
          (pss_one (ps_ret (pe_call G_own_names_of (hr.mono (j := 2) (by decide)) (by rfl) g_own_names_of k_own_names_of b_own_names_of .nil pass0 (pa_cons (pv 0) pa_nil))))), ?_⟩
    exact ⟨_, rfl, a, n, Fs, rfl, hc, fun H1 sm1 => ⟨_, rfl, a, n, Fs, rfl, hc.keep sm1, fun H2 p sm2 hp h2 => q H2 p (sm1.trans sm2) (Same.free sm1 hp) h2⟩⟩
end
end OWP
end
section
namespace OWP
open PySem PySem.Spec PyProof.Rows L2 OWK
section
variable {P : Program} {w : World} {K : PySem.W.Frag} {mg : Str → Option Value} {base : Heap}
theorem sc_alike : FnScope ["company", "kind", "near", "names"] ["company", "kind"] (defScope sAlike) := ⟨rfl, rfl, rfl, by decide +kernel, rfl, by decide +kernel, by decide +kernel⟩
theorem ok_alike (D : DefAt K mg "alike" sAlike) (T : Free mg) (O_need_company : OkAt P w K mg base 3 "need_company" ["company"] sp_need_company) (O_need_kind : OkAt P w K mg base 3 "need_kind" ["company", "kind"] sp_need_kind) (O_friends_of_all : OkAt P w K mg base 1 "friends_of_all" ["company"] sp_friends_of_all) (O_image_of : OkAt P w K mg base 2 "image_of" ["near", "told", "kind"] sp_image_of) (O_own_names_of : OkAt P w K mg base 2 "own_names_of" ["company"] sp_own_names_of) :
    OkAt P w K mg base 4 "alike" ["company", "kind"] sp_alike := by
  obtain ⟨f, fd, g, F⟩ := D
  obtain ⟨f_need_company, fd_need_company, g_need_company, k_need_company, b_need_company, G_need_company⟩ := O_need_company
  obtain ⟨f_need_kind, fd_need_kind, g_need_kind, k_need_kind, b_need_kind, G_need_kind⟩ := O_need_kind
  obtain ⟨f_friends_of_all, fd_friends_of_all, g_friends_of_all, k_friends_of_all, b_friends_of_all, G_friends_of_all⟩ := O_friends_of_all
  obtain ⟨f_image_of, fd_image_of, g_image_of, k_image_of, b_image_of, G_image_of⟩ := O_image_of
  obtain ⟨f_own_names_of, fd_own_names_of, g_own_names_of, k_own_names_of, b_own_names_of, G_own_names_of⟩ := O_own_names_of
  obtain ⟨tA, hA⟩ := T.alpha
  obtain ⟨tM, hM⟩ := T.most
  refine ⟨f, fd, g, F.kp, F.binds (ps := ["company", "kind"]) (fun _ _ _ _ _ _ us hl => match us, hl with | [_, _], _ => rfl), ?_⟩
  refine F.ok sc_alike (fun vs H Q E h => ?_) (fun cdv A outer s H vs Q E hr h => ?_)
  · obtain ⟨_, _, _, _, rfl, _⟩ := h
    rfl
  · have nd := sc_alike.nd
    obtain ⟨a, n, Fs, k, rfl, hc, hk, q⟩ := h
    refine ⟨_, (pss_cons (ps_expr (pe_call G_need_company (hr.mono (j := 3) (by decide)) (by rfl) g_need_company k_need_company b_need_company .nil pass0 (pa_cons (pv 0) pa_nil)))
          (pss_cons (ps_expr (pe_call G_need_kind (hr.mono (j := 3) (by decide)) (by rfl) g_need_kind k_need_kind b_need_kind .nil pass0 (pa_cons (pv 0) (pa_cons (pv 1) pa_nil))))
          (pss_cons (ps_set (i := 2) nd rfl (Or.inr rfl) (pe_call G_friends_of_all (hr.mono (j := 1) (by decide)) (by rfl) g_friends_of_all k_friends_of_all b_friends_of_all .nil pass0 (pa_cons (pv 0) pa_nil)))
          (pss_one (ps_ret (pe_callB (cr_sortDk rfl (ru hr 3 (by decide))) (by rfl) T.sorted (by decide +kernel) (pa_cons (pe_dc (own := [("names", 3)]) (g := gName 3) (tt := tYes) rfl nd (pi_list (pe_call G_own_names_of (hr.mono (j := 2) (by decide)) (by rfl) g_own_names_of k_own_names_of b_own_names_of .nil pass0 (pa_cons (pv 0) pa_nil))) (blkOk_by (own := [("names", 3)]) (N := ["company", "kind", "near", "names"]) (sc := defScope sAlike) (by decide +kernel)) (fun _ _ _ _ _ => (pg_name (i := 3) nd rfl (Or.inl rfl))) (fun _ _ _ _ _ => pts_nil) (fun _ _ _ _ _ => (pe_call G_image_of (hr.mono (j := 2) (by decide)) (by rfl) g_image_of k_image_of b_image_of .nil pass0 (pa_cons (pv 2) (pa_cons (pv 3) (pa_cons (pv 1) pa_nil))))) (fun _ _ _ _ _ => pe_bl)) pa_nil))))))), ?_⟩
    have h5 := hc.most
    have hkl : k.length ≤ n := by
      have := OW.sub_len hk.1 (m := List.range n) (fun x hx => List.mem_range.mpr (hk.2.1 x hx))
      rwa [List.length_range] at this
    refine ⟨_, rfl, a, n, Fs, rfl, hc, fun H1 sm1 => ?_⟩
    refine ⟨_, rfl, _, rfl, a, n, Fs, k, rfl, hc.keep sm1, hk, fun H2 sm2 => ?_⟩
    refine ⟨_, rfl, a, n, Fs, rfl, (hc.keep sm1).keep sm2, fun H3 d sm3 hd0 near => ?_⟩
    have sm13 := (sm1.trans sm2).trans sm3
    refine ⟨_, rfl, a, n, Fs, rfl, hc.keep sm13, fun H4 p sm4 hp0 hp => ?_⟩
    have hol := own_small (n := n) (F := Fs) n h5 (Nat.le_refl _)
    refine ⟨p, rfl, ⟨_, SqL.of hp⟩, fun D hD => dc_gen (n := (OW.own n Fs n).length) (fun j H' => Same H4 H' ∧ H' D = some (.dK (tD (once (((OW.own n Fs n).take j).map fun t => tx (OW.kindOf Fs (OW.move t k))))))) ⟨sameNew hD, upd_same⟩ (fun j H' hj h => ?_) (fun H' h => ?_) ?_ ?_⟩
    · exact ⟨_, wv (OW.own n Fs n)[j], SqL.of (h.1 _ _ hp), by rw [List.getElem?_map, List.getElem?_eq_getElem hj]; rfl⟩
    · exact ⟨_, SqL.of (h.1 _ _ hp), by rw [List.length_map]; exact Nat.le_refl _⟩
    · rintro j x H5 H6 hj ⟨sm, hD5⟩ ⟨rfl, fx⟩
      have ex := fx _ (SqL.of (sm _ _ hp))
      rw [List.getElem?_map, List.getElem?_eq_getElem hj] at ex
      have ex1 : wv (OW.own n Fs n)[j] = x := Option.some.inj ex
      subst ex1
      have hrm := OW.ord_mem (own_in (List.getElem_mem hj))
      refine ⟨rfl, _, rfl, _, rfl, _, rfl, d, n, Fs, (OW.own n Fs n)[j], k, rfl, (near.keep sm4).keep sm, by omega, hrm, hk.2.1, by omega, fun H7 sm7 => ?_⟩
      have hon := (once_ok (((OW.own n Fs n).take j).map fun t => tx (OW.kindOf Fs (OW.move t k)))).2.2
      rw [List.length_map, List.length_take] at hon
      refine ⟨_, Sum.inr _, rfl, sm7 _ _ hD5, by rw [tD_len]; exact lt_line (by omega), sameUp (sm.trans sm7) hD, ?_⟩
      rw [upd_same, putK_tD, take_map_succ hj, once_snoc]
    rintro H5 ⟨sm, hD5⟩
    rw [List.take_length] at hD5
    obtain ⟨o1, o2, o3⟩ := once_ok ((OW.own n Fs n).map fun t => tx (OW.kindOf Fs (OW.move t k)))
    refine ⟨D, _, _, rfl, .inl hD5, tD_keys _, fun p2 hp2 => ?_⟩
    exact q _ _ _ (sm13.trans (sm4.trans (sameUp sm (Same.free sm hp2)))) o1 o2 upd_same
end
end OWP
end
section
namespace OWP
open PySem PySem.Spec PyProof.Rows L2 OWK
section
variable {P : Program} {w : World} {K : PySem.W.Frag} {mg : Str → Option Value} {base : Heap}
theorem sc_least_name : FnScope ["company", "rows", "at", "row", "sign", "names"] ["company"] (defScope sLeastName) := ⟨rfl, rfl, rfl, by decide +kernel, rfl, by decide +kernel, by decide +kernel⟩
theorem ok_least_name (D : DefAt K mg "least_name" sLeastName) (T : Free mg) (O_need_company : OkAt P w K mg base 3 "need_company" ["company"] sp_need_company) (O_renamed_of : OkAt P w K mg base 1 "renamed_of" ["company", "names"] sp_renamed_of) :
    OkAt P w K mg base 4 "least_name" ["company"] sp_least_name := by
  obtain ⟨f, fd, g, F⟩ := D
  obtain ⟨f_need_company, fd_need_company, g_need_company, k_need_company, b_need_company, G_need_company⟩ := O_need_company
  obtain ⟨f_renamed_of, fd_renamed_of, g_renamed_of, k_renamed_of, b_renamed_of, G_renamed_of⟩ := O_renamed_of
  obtain ⟨tA, hA⟩ := T.alpha
  obtain ⟨tM, hM⟩ := T.most
  refine ⟨f, fd, g, F.kp, F.binds (ps := ["company"]) (fun _ _ _ _ _ _ us hl => match us, hl with | [_], _ => rfl), ?_⟩
  refine F.ok sc_least_name (fun vs H Q E h => ?_) (fun cdv A outer s H vs Q E hr h => ?_)
  · obtain ⟨_, _, _, rfl, _⟩ := h
    rfl
  · have nd := sc_least_name.nd
    obtain ⟨a, n, Fs, rfl, hc, q⟩ := h
    refine ⟨_, (pss_cons (ps_expr (pe_call G_need_company (hr.mono (j := 3) (by decide)) (by rfl) g_need_company k_need_company b_need_company .nil pass0 (pa_cons (pv 0) pa_nil)))
          (pss_cons (ps_if (pt_cmpR op_gt (pe_ix (ix_tupK (K := K) rfl) (pv 0) pe_int (fun _ _ => rfl)) pe_int (nomark _)) (pss_one ps_never) pss_nil)
          (pss_cons (ps_set (i := 1) nd rfl (Or.inl rfl) (pe_lst (pa_cons pe_str pa_nil)))
          (pss_cons (ps_for PassesOwn.never rfl (pi_range1 (by rfl) T.range (pa_cons (pe_ix (ix_tupK (K := K) rfl) (pv 0) pe_int (fun _ _ => rfl)) pa_nil)) (pg_name (i := 2) nd rfl (Or.inl rfl)) (pss_one (ps_setLc2 (i := 1) (own := [("row", 3), ("sign", 4)]) (g := gName 3) (tt := tYes) (vs1 := [4]) rfl nd rfl rfl (sw_true rfl rfl rfl (by decide +kernel)) (pi_list (pv 1)) (blkOk_by (own := [("row", 3), ("sign", 4)]) (N := ["company", "rows", "at", "row", "sign", "names"]) (sc := defScope sLeastName) (by decide +kernel)) (by decide) (fun _ _ _ _ _ => (pg_name (i := 3) nd rfl (Or.inl rfl))) (fun _ _ _ _ _ => pts_nil) (fun _ _ _ _ _ => (pi_str (pe_slice sl_str (pe_glob (v := .str "abcdefg") (by rfl) hA ⟨_, rfl⟩) po_none (po_some (pe_ix (ix_tupK (K := K) rfl) (pv 0) pe_int (fun _ _ => rfl)))))) (fun _ _ _ _ _ => (pg_name (i := 4) nd rfl (Or.inl rfl))) (fun _ _ _ _ _ => (pts_one (pt_cmpR op_notIn_sign (pv 4) (pv 3) (by rfl)))) (fun _ _ _ _ _ => (pe_op op_add_str (pv 3) (pv 4))))))
          (pss_one (ps_ret (pe_callB (cr_minDat rfl (ru hr 42 (by decide))) (by rfl) T.min (by decide +kernel) (pa_cons (pe_lc (own := [("names", 5)]) (g := gName 5) (tt := tYes) rfl nd (pi_list (pv 1)) (blkOk_by (own := [("names", 5)]) (N := ["company", "rows", "at", "row", "sign", "names"]) (sc := defScope sLeastName) (by decide +kernel)) (fun _ _ _ _ _ => (pg_name (i := 5) nd rfl (Or.inl rfl))) (fun _ _ _ _ _ => pts_nil) (fun _ _ _ _ _ => (pe_call G_renamed_of (hr.mono (j := 1) (by decide)) (by rfl) g_renamed_of k_renamed_of b_renamed_of .nil pass0 (pa_cons (pv 0) (pa_cons (pv 5) pa_nil))))) pa_nil)))))))), ?_⟩
    obtain ⟨b, ps, ha, hb, hp⟩ := hc.at_
    have h5 := hc.most
    have hn1 := hc.one
    refine ⟨_, rfl, a, n, Fs, rfl, hc, fun H1 sm1 => ?_⟩
    refine ⟨_, rfl, a, _, _, .int n, rfl, rfl, SqT.of (sm1 _ _ ha), atI_nat (j := 0) rfl, _, _, rfl, rfl, false, ?_, iteF ?_⟩
    · show V.bl (decide ((n : Int) > 6)) = V.bl false
      rw [decide_eq_false (by omega)]
    refine ⟨le_line (by decide), fun p0 hp0 => ?_⟩
    have sm0 : Same H (upd H1 p0 (.lst [wv []])) := sm1.trans (sameNew hp0)
    have hp2 : (upd H1 p0 (.lst [wv []])) p0 = some (.lst [wv []]) := upd_same
    have ehp : upd H1 p0 (.lst [V.str ""]) = upd H1 p0 (.lst [wv []]) := rfl
    rw [ehp]
    generalize upd H1 p0 (.lst [wv []]) = H0 at sm0 hp2
    refine ⟨_, rfl, a, _, _, .int n, rfl, rfl, SqT.of (sm0 _ _ ha), atI_nat (j := 0) rfl, n, rfl, by omega, by omega, for_gen (n := n) (fun k σ H' => ∃ pr y2 y3 y4 y5, σ = [some (.ref a), some (.ref pr), y2, y3, y4, y5] ∧ Same H H' ∧ H' pr = some (.lst ((OW.ord n k).map wv)))
      ⟨p0, none, none, none, none, rfl, sm0, hp2⟩ (fun k σ H' hk _ => hk) (fun σ H' _ => Nat.le_refl _) ?_ ?_⟩
    · rintro k x σ H2 H3 hk ⟨pr, y2, y3, y4, y5, rfl, sm, hpr⟩ ⟨rfl, rfl⟩
      have hol := ord_small (n := n) k h5 (by omega)
      refine ⟨_, rfl, pr, rfl, ⟨_, SqL.of hpr⟩, fun D hD => any_gen (n := (OW.ord n k).length) (fun j H' => Same H3 H' ∧ H' D = some (.lst ((OW.ordStep n ((OW.ord n k).take j)).map wv))) ⟨sameNew hD, upd_same⟩ (fun j H' hj h => ?_) (fun H' h => ?_) ?_ ?_⟩
      · exact ⟨_, wv (OW.ord n k)[j], SqL.of (h.1 _ _ hpr), by rw [List.getElem?_map, List.getElem?_eq_getElem hj]; rfl⟩
      · exact ⟨_, SqL.of (h.1 _ _ hpr), by rw [List.length_map]; exact Nat.le_refl _⟩
      · rintro j x H4 H5 hj ⟨sm4, hD4⟩ ⟨rfl, fx⟩
        have ex := fx _ (SqL.of (sm4 _ _ hpr))
        rw [List.getElem?_map, List.getElem?_eq_getElem hj] at ex
        have ex1 : wv (OW.ord n k)[j] = x := Option.some.inj ex
        subst ex1
        have hrm := OW.ord_mem (List.getElem_mem hj)
        have hsl := ordStep_small (n := n) (rows := (OW.ord n k).take j) h5 (by rw [List.length_take]; omega)
        have hos := ordStep_take (n := n) hj
        generalize hr0 : (OW.ord n k)[j] = r at hrm hos
        refine ⟨rfl, _, rfl, a, _, _, .int n, rfl, rfl, SqT.of (sm4 _ _ (sm _ _ ha)), atI_nat (j := 0) rfl, _, rfl, _, rfl, alpha_len, tx (List.range n), str_eq (alpha_cut (by omega)), any_gen (n := n) (fun i H' => Same H3 H' ∧ H' D = some (.lst ((OW.ordStep n ((OW.ord n k).take j) ++ ordPart r i).map wv)))
          ⟨sm4, by rw [hD4]; unfold ordPart; rw [List.range_zero, List.filter_nil, List.map_nil, List.append_nil]⟩ (fun i H' hi _ => ?_) (fun H' _ => ?_) ?_ ?_⟩
        · show i < (tx (List.range n)).cps.size
          rw [tx_size, List.length_range]; exact hi
        · show (tx (List.range n)).cps.size ≤ n
          rw [tx_size, List.length_range]; exact Nat.le_refl _
        · rintro i x H6 H7 hi ⟨sm6, hD6⟩ ⟨rfl, c, hcx, rfl⟩
          have hc' : c = i + 97 := by
            rw [← Array.getElem?_toList, tx_list, List.getElem?_map, List.getElem?_range hi] at hcx
            exact (Option.some.inj hcx).symm
          subst hc'
          refine ⟨rfl, _, rfl, _, rfl, i + 97, tx r, rfl, rfl, _, rfl, ?_⟩
          rw [dec_mem]
          by_cases hm : i ∈ r
          · rw [decide_eq_true hm]
            refine iteF ⟨sm6, ?_⟩
            rw [hD6, ordPart_succ, if_neg (by simp [hm]), List.append_nil]
          · rw [decide_eq_false hm]
            have hpl6 := ordPart_len (r := r) (i := i)
            refine iteT ⟨_, rfl, _, rfl, _, _, rfl, rfl, ?_, _, hD6, by rw [List.length_map, List.length_append]; exact lt_line (by omega), sameUp sm6 hD, ?_⟩
            · show (tx r).length + (tx [i]).length ≤ sizeLine
              rw [tx_len, tx_len]; exact le_line (by show _ + 1 ≤ _; omega)
            · rw [upd_same, ordPart_succ, if_pos (decide_eq_true hm), ← List.append_assoc, List.map_append (l₂ := [r ++ [i]])]
              show some (HO.lst (_ ++ [V.str (tx r ++ tx [i])])) = _
              rw [tx_append]; rfl
        · rintro H6 ⟨sm6, hD6⟩
          exact ⟨sm6, by rw [hD6, hos]⟩
      · rintro H4 ⟨sm4, hD4⟩
        refine ⟨D, _, _, _, _, rfl, sm.trans sm4, ?_⟩
        rw [hD4, List.take_length]
        rfl
    rintro σ H2 ⟨pr, y2, y3, y4, y5, rfl, sm, hpr⟩
    have hol := ord_small (n := n) n h5 (Nat.le_refl _)
    refine ⟨_, rfl, pr, rfl, ⟨_, SqL.of hpr⟩, fun D hD => lc_gen (n := (OW.ord n n).length) (fun j H' => Same H2 H' ∧ ∃ cs, H' D = some (.lst (cs.map V.ref)) ∧ CosAt H' n Fs cs ((OW.ord n n).take j)) ⟨sameNew hD, [], upd_same, .nil⟩ (fun j H' hj h => ?_) (fun H' h => ?_) ?_ ?_⟩
    · exact ⟨_, wv (OW.ord n n)[j], SqL.of (h.1 _ _ hpr), by rw [List.getElem?_map, List.getElem?_eq_getElem hj]; rfl⟩
    · exact ⟨_, SqL.of (h.1 _ _ hpr), by rw [List.length_map]; exact Nat.le_refl _⟩
    · rintro j x H4 H5 hj ⟨sm4, cs, hD4, hcs⟩ ⟨rfl, fx⟩
      have ex := fx _ (SqL.of (sm4 _ _ hpr))
      rw [List.getElem?_map, List.getElem?_eq_getElem hj] at ex
      have ex1 : wv (OW.ord n n)[j] = x := Option.some.inj ex
      subst ex1
      have hrm := OW.ord_mem (List.getElem_mem hj)
      refine ⟨rfl, _, rfl, _, rfl, a, n, Fs, (OW.ord n n)[j], rfl, (hc.keep sm).keep sm4, hrm, fun H6 c sm6 hco => ?_⟩
      rw [List.take_add_one, List.getElem?_eq_getElem hj]
      exact cos_step sm4 sm6 hD hD4 hcs hco (by rw [List.length_take]; omega)
    rintro H4 ⟨sm4, cs, hD4, hcs⟩
    rw [List.take_length] at hcs
    obtain ⟨d, ds, h1, h2, h3, h4⟩ := min_read (K := K) hcs
    refine ⟨D, _, d, ds, rfl, SqL.of hD4, h1, h2, h3, fun i v e1 e2 => ?_⟩
    obtain ⟨c, G, rfl, hco, hm, _⟩ := h4 i v e1 e2
    exact q _ c G (sm.trans sm4) hco hm
end
end OWP
end
section
namespace OWP
open PySem PySem.Spec PyProof.Rows L2 OWK
section
variable {P : Program} {w : World} {K : PySem.W.Frag} {mg : Str → Option Value} {base : Heap}
theorem sc__law_taken : FnScope ["_law_row", "_law_many", "_law_found", "_law_cell"] ["_law_row", "_law_many"] (defScope lTaken) := ⟨rfl, rfl, rfl, by decide +kernel, rfl, by decide +kernel, by decide +kernel⟩
theorem ok__law_taken (D : DefAt K mg "_law_taken" lTaken) (T : Free mg) :
    OkAt P w K mg base 1 "_law_taken" ["_law_row", "_law_many"] (sp_taken K) := by
  obtain ⟨f, fd, g, F⟩ := D
  obtain ⟨tA, hA⟩ := T.alpha
  obtain ⟨tM, hM⟩ := T.most
  refine ⟨f, fd, g, F.kp, F.binds (ps := ["_law_row", "_law_many"]) (fun _ _ _ _ _ _ us hl => match us, hl with | [_, _], _ => rfl), ?_⟩
  refine F.ok sc__law_taken (fun vs H Q E h => ?_) (fun cdv A outer s H vs Q E hr h => ?_)
  · obtain ⟨_, _, _, rfl, _⟩ := h
    rfl
  · have nd := sc__law_taken.nd
    obtain ⟨r, sc, m, rfl, ⟨i, j, k, hi, hr0⟩, ⟨ns, hns, hsc, hor⟩, h1, hm, q⟩ := h
    refine ⟨_, (pss_cons (ps_if (pt_cmpR op_gt (pe_ix (ix_listK (K := K) rfl) (pv 0) pe_int (fun _ _ => rfl)) pe_int (nomark _)) (pss_cons (ps_set (i := 2) nd rfl (Or.inl rfl) (pe_op op_modN (pe_callTy call_int1 (by rfl) T.int (by decide +kernel) (pa_cons (pe_ix (ix_listK (K := K) rfl) (pv 0) pe_int (fun _ _ => rfl)) pa_nil)) (pv 1)))
          (pss_cons (ps_asg (pe_op op_fdivN (pe_ix (ix_listK (K := K) rfl) (pv 0) pe_int (fun _ _ => rfl)) (pv 1)) (pg_sub (pv 0) pe_int set_list))
          (pss_one (ps_ret (pv 2))))) pss_nil)
          (pss_cons (ps_asg (pe_op op_add (pe_ix (ix_listK (K := K) rfl) (pv 0) pe_int (fun _ _ => rfl)) pe_int) (pg_sub (pv 0) pe_int set_list))
          (pss_cons (ps_if (pt_cmpR op_gt (pe_ix (ix_listK (K := K) rfl) (pv 0) pe_int (fun _ _ => rfl)) (pe_callB call_len_seq (by rfl) T.len PySem.boot_len (pa_cons (pe_ix (ix_listK (K := K) rfl) (pv 0) pe_int (fun _ _ => rfl)) pa_nil)) (nomark _)) (pss_cons (ps_asg (pe_op op_modN (pe_callTy call_int1 (by rfl) T.int (by decide +kernel) (pa_cons (pe_op op_add (pe_op op_mul (pe_ix (ix_listK (K := K) rfl) (pv 0) pe_int (fun _ _ => rfl)) pe_int) pe_int) pa_nil)) pe_int) (pg_sub (pv 0) pe_int set_list))
          (pss_one (ps_ret (pe_op op_modN (pe_callTy call_int1 (by rfl) T.int (by decide +kernel) (pa_cons (pe_op op_fdivN (pe_ix (ix_listK (K := K) rfl) (pv 0) pe_int (fun _ _ => rfl)) pe_int) pa_nil)) (pv 1))))) pss_nil)
          (pss_cons (ps_set (i := 3) nd rfl (Or.inl rfl) (pe_ix (ix_listK (K := K) rfl) (pe_ix (ix_listK (K := K) rfl) (pv 0) pe_int (fun _ _ => rfl)) (pe_op op_sub (pe_ix (ix_listK (K := K) rfl) (pv 0) pe_int (fun _ _ => rfl)) pe_int) (fun _ _ => rfl)))
          (pss_cons (ps_asg (pe_op op_modN (pe_callTy call_int1 (by rfl) T.int (by decide +kernel) (pa_cons (pe_op op_add (pe_op op_add (pe_op op_mul (pe_ix (ix_listK (K := K) rfl) (pv 0) pe_int (fun _ _ => rfl)) pe_int) (pv 3)) pe_int) pa_nil)) pe_int) (pg_sub (pv 0) pe_int set_list))
          (pss_cons (ps_if (pt_cmpR op_ge (pv 3) (pe_op op_pow pe_int pe_int) (nomark _)) (pss_one (ps_asg (pe_op op_fdivN (pv 3) (pv 1)) (pg_sub (pv 0) pe_int set_list))) pss_nil)
          (pss_one (ps_ret (pe_op op_modN (pe_callTy call_int1 (by rfl) T.int (by decide +kernel) (pa_cons (pv 3) pa_nil)) (pv 1)))))))))), ?_⟩
    have qf : ∀ (z : Int) H', SameB r H H' → RowAt H' r sc → Q (.int (z.fmod m)) H' := fun z H' a b => by
      obtain ⟨x, ex, hx⟩ := fmod_nat z h1
      rw [ex]
      exact q H' x a b hx
    refine ⟨_, rfl, r, _, _, .int k, rfl, rfl, SqL.of hr0, atI_nat (j := 3) rfl, _, _, rfl, rfl, _, rfl, iteC (fun hk => ?_) (fun hk => ?_)⟩
    all_goals have hm0 : (m : Int) ≠ 0 := by omega
    all_goals have hmB : (m : Int) ≠ 0 ∧ ((m : Int)).natAbs < 1073741824 := ⟨by omega, by omega⟩
    · obtain ⟨x, ex, hx⟩ := fmod_nat k h1
      refine ⟨_, rfl, r, _, _, .int k, rfl, rfl, SqL.of hr0, atI_nat (j := 3) rfl, .inl ⟨k, rfl, ?_⟩⟩
      refine ⟨_, rfl, _, _, rfl, rfl, hm0, ?_⟩
      refine ⟨_, rfl, r, _, _, .int k, rfl, rfl, SqL.of hr0, atI_nat (j := 3) rfl, _, rfl, _, _, rfl, rfl, hmB, _, rfl, r, _, 3, 3, rfl, rfl, hr0, rfl, ?_⟩
      exact ⟨_, rfl, qf _ _ (SameB.refl r H).at ⟨i, j, _, hi, upd_same⟩⟩
    · refine ⟨_, rfl, r, _, _, .int i, rfl, rfl, SqL.of hr0, atI_nat (j := 1) rfl, _, _, rfl, rfl, _, rfl, r, _, 1, 1, rfl, rfl, hr0, rfl, ?_⟩
      have hr1 : (upd H r (.lst [.ref sc, .int (i + 1), .int j, .int k])) r = some (.lst [.ref sc, .int (i + 1), .int j, .int k]) := upd_same
      have sb1 : SameB r H (upd H r (.lst [.ref sc, .int (i + 1), .int j, .int k])) := (SameB.refl r H).at
      have eu : upd H r (.lst ([V.ref sc, .int i, .int j, .int k].set 1 (.int (i + 1)))) = upd H r (.lst [.ref sc, .int (i + 1), .int j, .int k]) := rfl
      rw [eu]
      generalize upd H r (.lst [.ref sc, .int (i + 1), .int j, .int k]) = H1 at hr1 sb1
      have hsc1 : SqL K H1 sc (ns.map V.int) := hor.elim (fun hne => sqlB sb1 (fun e => hne e.symm) hsc) (fun h => h H1)
      refine ⟨_, rfl, r, _, _, .int (i + 1), rfl, rfl, SqL.of hr1, atI_nat (j := 1) rfl, _, rfl, r, _, _, .ref sc, rfl, rfl, SqL.of hr1, atI_nat (j := 0) rfl, sc, _, rfl, .inl hsc1, _, _, rfl, rfl, _, rfl, iteC (fun hin => ?_) (fun hin => ?_)⟩
      all_goals rw [List.length_map] at hin
      · refine ⟨_, rfl, r, _, _, .int j, rfl, rfl, SqL.of hr1, atI_nat (j := 2) rfl, _, _, rfl, rfl, .inr (by decide), _, _, rfl, rfl, .inl ⟨_, rfl, ?_⟩⟩
        refine ⟨_, _, rfl, rfl, (show (2147483647 : Int) ≠ 0 by decide), _, rfl, r, _, 2, 2, rfl, rfl, hr1, rfl, ?_⟩
        have hr2 : (upd H1 r (.lst [.ref sc, .int (i + 1), .int ((j * 48271 + 11).fmod 2147483647), .int k])) r = some (.lst [.ref sc, .int (i + 1), .int ((j * 48271 + 11).fmod 2147483647), .int k]) := upd_same
        have sb2 : SameB r H (upd H1 r (.lst [.ref sc, .int (i + 1), .int ((j * 48271 + 11).fmod 2147483647), .int k])) := sb1.at
        have eu2 : upd H1 r (.lst ([V.ref sc, .int (i + 1), .int j, .int k].set 2 (.int ((j * 48271 + 11).fmod 2147483647)))) = upd H1 r (.lst [.ref sc, .int (i + 1), .int ((j * 48271 + 11).fmod 2147483647), .int k]) := rfl
        rw [eu2]
        generalize upd H1 r (.lst [.ref sc, .int (i + 1), .int ((j * 48271 + 11).fmod 2147483647), .int k]) = H2 at hr2 sb2
        refine ⟨_, rfl, r, _, _, .int ((j * 48271 + 11).fmod 2147483647), rfl, rfl, SqL.of hr2, atI_nat (j := 2) rfl, _, _, rfl, rfl, (show (7 : Int) ≠ 0 ∧ (7 : Int).natAbs < 1073741824 by decide), .inl ⟨_, rfl, ?_⟩⟩
        refine ⟨_, rfl, _, _, rfl, rfl, hm0, ?_⟩
        exact qf _ _ sb2 ⟨_, _, _, by omega, hr2⟩
      · have hcell : atI (ns.map V.int) (i + 1 - 1) = some (.int (ns.getD i.toNat 0)) := by
          have e : i + 1 - 1 = (i.toNat : Int) := by omega
          rw [e]
          refine atI_nat ?_
          have hl : i.toNat < ns.length := by omega
          rw [List.getElem?_map, List.getElem?_eq_getElem hl, OW.getD_at hl]
          rfl
        generalize ns.getD i.toNat 0 = c at hcell
        refine ⟨_, rfl, r, _, _, .ref sc, rfl, rfl, SqL.of hr1, atI_nat (j := 0) rfl, _, rfl, r, _, _, .int (i + 1), rfl, rfl, SqL.of hr1, atI_nat (j := 1) rfl, _, _, rfl, rfl, sc, _, _, _, rfl, rfl, hsc1, hcell, ?_⟩
        refine ⟨_, rfl, r, _, _, .int j, rfl, rfl, SqL.of hr1, atI_nat (j := 2) rfl, _, _, rfl, rfl, .inr (by decide), _, rfl, _, _, rfl, rfl, _, _, rfl, rfl, .inl ⟨_, rfl, ?_⟩⟩
        refine ⟨_, _, rfl, rfl, (show (2147483647 : Int) ≠ 0 by decide), _, rfl, r, _, 2, 2, rfl, rfl, hr1, rfl, ?_⟩
        have hr2 : (upd H1 r (.lst [.ref sc, .int (i + 1), .int ((j * 48271 + c + 11).fmod 2147483647), .int k])) r = some (.lst [.ref sc, .int (i + 1), .int ((j * 48271 + c + 11).fmod 2147483647), .int k]) := upd_same
        have sb2 : SameB r H (upd H1 r (.lst [.ref sc, .int (i + 1), .int ((j * 48271 + c + 11).fmod 2147483647), .int k])) := sb1.at
        have eu2 : upd H1 r (.lst ([V.ref sc, .int (i + 1), .int j, .int k].set 2 (.int ((j * 48271 + c + 11).fmod 2147483647)))) = upd H1 r (.lst [.ref sc, .int (i + 1), .int ((j * 48271 + c + 11).fmod 2147483647), .int k]) := rfl
        rw [eu2]
        generalize upd H1 r (.lst [.ref sc, .int (i + 1), .int ((j * 48271 + c + 11).fmod 2147483647), .int k]) = H2 at hr2 sb2
        refine ⟨_, rfl, _, _, rfl, rfl, ⟨by decide, by decide, by decide⟩, _, _, rfl, rfl, _, rfl, iteC (fun hg => ?_) (fun hg => ?_)⟩
        · refine ⟨_, rfl, _, rfl, _, _, rfl, rfl, hmB, _, rfl, r, _, 3, 3, rfl, rfl, hr2, rfl, ?_⟩
          refine ⟨_, rfl, .inl ⟨_, rfl, ?_⟩⟩
          refine ⟨_, rfl, _, _, rfl, rfl, hm0, ?_⟩
          exact qf _ _ sb2.at ⟨_, _, _, by omega, upd_same⟩
        · refine ⟨_, rfl, .inl ⟨_, rfl, ?_⟩⟩
          refine ⟨_, rfl, _, _, rfl, rfl, hm0, ?_⟩
          exact qf _ _ sb2 ⟨_, _, _, by omega, hr2⟩
end
end OWP
end
section
namespace OWP
open PySem PySem.Spec PyProof.Rows L2 OWK
section
variable {P : Program} {w : World} {K : PySem.W.Frag} {mg : Str → Option Value} {base : Heap}
theorem sc__law_pairs : FnScope ["_law_many", "_law_found", "_law_one", "_law_other"] ["_law_many"] (defScope lPairs) := ⟨rfl, rfl, rfl, by decide +kernel, rfl, by decide +kernel, by decide +kernel⟩
theorem ok__law_pairs (D : DefAt K mg "_law_pairs" lPairs) (T : Free mg) :
    OkAt P w K mg base 1 "_law_pairs" ["_law_many"] sp_pairs := by
  obtain ⟨f, fd, g, F⟩ := D
  obtain ⟨tA, hA⟩ := T.alpha
  obtain ⟨tM, hM⟩ := T.most
  refine ⟨f, fd, g, F.kp, F.binds (ps := ["_law_many"]) (fun _ _ _ _ _ _ us hl => match us, hl with | [_], _ => rfl), ?_⟩
  refine F.ok sc__law_pairs (fun vs H Q E h => ?_) (fun cdv A outer s H vs Q E hr h => ?_)
  · obtain ⟨_, rfl, _⟩ := h
    rfl
  · have nd := sc__law_pairs.nd
    obtain ⟨n, rfl, hn, q⟩ := h
    refine ⟨_, (pss_cons (ps_set (i := 1) nd rfl (Or.inl rfl) (pe_lst pa_nil))
          (pss_cons (ps_for PassesOwn.never rfl (pi_range1 (by rfl) T.range (pa_cons (pv 0) pa_nil)) (pg_name (i := 2) nd rfl (Or.inr rfl)) (pss_one (ps_set (i := 1) nd rfl (Or.inl rfl) (pe_op op_cat (pv 1) (pe_lc (own := [("_law_other", 3)]) (g := gName 3) (tt := tYes) rfl nd (pi_range2 (by rfl) T.range (pa_cons (pe_op op_add (pv 2) pe_int) (pa_cons (pv 0) pa_nil))) (blkOk_by (own := [("_law_other", 3)]) (N := ["_law_many", "_law_found", "_law_one", "_law_other"]) (sc := defScope lPairs) (by decide +kernel)) (fun _ _ _ _ _ => (pg_name (i := 3) nd rfl (Or.inl rfl))) (fun _ _ _ _ _ => pts_nil) (fun _ _ _ _ _ => (pe_tup (pa_cons (pv 2) (pa_cons (pv 3) pa_nil)))))))))
          (pss_one (ps_ret (pv 1))))), ?_⟩
    refine ⟨Nat.zero_le _, fun p0 hp0 => ⟨_, rfl, n, rfl, by omega, by omega, for_gen (n := n) (fun k σ H' => ∃ pr ps y2 y3, σ = [some (.int n), some (.ref pr), y2, y3] ∧ Same H H' ∧ H pr = none ∧ H' pr = some (.lst (ps.map V.ref)) ∧
      PairsAt H' ps ((List.range k).flatMap fun i => (List.range (n - (i + 1))).map fun j => (i, i + 1 + j))) ⟨p0, [], none, none, rfl, sameNew hp0, hp0, upd_same, .nil⟩ (fun k σ H' hk _ => hk) (fun σ H' _ => Nat.le_refl _) ?_ ?_⟩⟩
    · rintro k x σ H1 H2 hk ⟨pr, ps, y2, y3, rfl, sm, hpr0, hpr, hps⟩ ⟨rfl, rfl⟩
      have hkn := pairs_few n k
      have hk2 : k * n ≤ 7 * 7 := Nat.mul_le_mul (by omega) hn
      rw [Int.zero_add]
      refine ⟨_, rfl, _, rfl, _, _, rfl, rfl, _, rfl, (k : Int) + 1, n, rfl, ⟨by omega, by omega, by omega, by omega⟩, fun D hD => lc_gen (n := n - (k + 1)) (fun j H' => Same H2 H' ∧ ∃ qs, H' D = some (.lst (qs.map V.ref)) ∧ PairsAt H' qs ((List.range j).map fun j => (k, k + 1 + j)) ∧ H2 D = none)
        ⟨sameNew hD, [], upd_same, .nil, hD⟩ (fun j H' hj _ => ?_) (fun H' _ => ?_) ?_ ?_⟩
      · show j < ((n : Int) - ((k : Int) + 1)).toNat
        omega
      · show ((n : Int) - ((k : Int) + 1)).toNat ≤ n - (k + 1)
        omega
      · rintro j x H3 H4 hj ⟨sm3, qs, hD3, hqs, hD0⟩ ⟨rfl, rfl⟩
        refine ⟨rfl, _, rfl, _, rfl, two_line, fun c hcn => ?_⟩
        rw [List.range_succ, List.map_append]
        refine pair_step (f := (k, k + 1 + j)) sm3 (sameNew hcn) hD0 hD3 hqs ?_ (by rw [List.length_map, List.length_range]; omega)
        rw [upd_same]
        rfl
      · rintro H3 ⟨sm3, qs, hD3, hqs, hD0⟩
        have hps3 := hps.keep sm3
        refine ⟨pr, D, _, _, rfl, rfl, sm3 _ _ hpr, hD3, ?_, fun l hl => ?_⟩
        · rw [List.length_map, List.length_map, hps.len, hqs.len, List.length_map, List.length_range]
          exact le_line (by omega)
        · refine ⟨l, ps ++ qs, _, _, rfl, sameUp (sm.trans sm3) (Same.free (sm.trans sm3) hl), Same.free (sm.trans sm3) hl, ?_, ?_⟩
          · rw [upd_same, List.map_append]
          · rw [pairs_succ]
            exact (hps3.append hqs).keep (sameNew hl)
    rintro σ H1 ⟨pr, ps, y2, y3, rfl, sm, hpr0, hpr, hps⟩
    exact ⟨_, rfl, q _ _ _ sm hpr0 hpr hps⟩
end
end OWP
end
section
namespace OWP
open PySem PySem.Spec PyProof.Rows L2 OWK
section
variable {P : Program} {w : World} {K : PySem.W.Frag} {mg : Str → Option Value} {base : Heap}
theorem sc__law_company : FnScope ["_law_row", "_law_most", "_law_many", "_law_ways", "_law_pairs_here", "_law_pair"] ["_law_row", "_law_most"] (defScope lCompany) := ⟨rfl, rfl, rfl, by decide +kernel, rfl, by decide +kernel, by decide +kernel⟩
theorem ok__law_company (D : DefAt K mg "_law_company" lCompany) (T : Free mg) (O__law_taken : OkAt P w K mg base 1 "_law_taken" ["_law_row", "_law_many"] (sp_taken K)) (O__law_pairs : OkAt P w K mg base 1 "_law_pairs" ["_law_many"] sp_pairs) :
    OkAt P w K mg base 2 "_law_company" ["_law_row", "_law_most"] (sp_company K) := by
  obtain ⟨f, fd, g, F⟩ := D
  obtain ⟨f__law_taken, fd__law_taken, g__law_taken, k__law_taken, b__law_taken, G__law_taken⟩ := O__law_taken
  obtain ⟨f__law_pairs, fd__law_pairs, g__law_pairs, k__law_pairs, b__law_pairs, G__law_pairs⟩ := O__law_pairs
  obtain ⟨tA, hA⟩ := T.alpha
  obtain ⟨tM, hM⟩ := T.most
  refine ⟨f, fd, g, F.kp, F.binds (ps := ["_law_row", "_law_most"]) (fun _ _ _ _ _ _ us hl => match us, hl with | [_, _], _ => rfl), ?_⟩
  refine F.ok sc__law_company (fun vs H Q E h => ?_) (fun cdv A outer s H vs Q E hr h => ?_)
  · obtain ⟨_, _, rfl, _⟩ := h
    rfl
  · have nd := sc__law_company.nd
    obtain ⟨r, sc, rfl, hro, hs, q⟩ := h
    refine ⟨_, (pss_cons (ps_asg (pe_tup (pa_cons (pe_op op_add pe_int (pe_call G__law_taken (hr.mono (j := 1) (by decide)) (by rfl) g__law_taken k__law_taken b__law_taken .nil pass0 (pa_cons (pv 0) (pa_cons (pv 1) pa_nil)))) (pa_cons (pe_ix (ix_listK (K := K) rfl) (pe_lst (pa_cons pe_int (pa_cons pe_int (pa_cons pe_int pa_nil)))) (pe_call G__law_taken (hr.mono (j := 1) (by decide)) (by rfl) g__law_taken k__law_taken b__law_taken .nil pass0 (pa_cons (pv 0) (pa_cons pe_int pa_nil))) (fun _ _ => rfl)) pa_nil))) (pg_tup rfl (pgs_cons (pg_name (i := 2) nd rfl (Or.inl rfl)) (pgs_cons (pg_name (i := 3) nd rfl (Or.inr rfl)) pgs_nil))))
          (pss_cons (ps_setLc (i := 4) (own := [("_law_pair", 5)]) (g := gName 5) rfl nd rfl rfl (sw_true rfl rfl rfl (by decide +kernel)) (pi_list (pe_call G__law_pairs (hr.mono (j := 1) (by decide)) (by rfl) g__law_pairs k__law_pairs b__law_pairs .nil pass0 (pa_cons (pv 2) pa_nil))) (blkOk_by (own := [("_law_pair", 5)]) (N := ["_law_row", "_law_most", "_law_many", "_law_ways", "_law_pairs_here", "_law_pair"]) (sc := defScope lCompany) (by decide +kernel)) (fun _ _ _ _ _ => (pg_name (i := 5) nd rfl (Or.inl rfl))) (fun _ _ _ _ _ => (pts_one (pt_cmpR op_gt (pe_call G__law_taken (hr.mono (j := 1) (by decide)) (by rfl) g__law_taken k__law_taken b__law_taken .nil pass0 (pa_cons (pv 0) (pa_cons (pv 3) pa_nil))) pe_int (nomark _)))) (fun _ _ _ _ _ => (pv 5)))
          (pss_cons (ps_if (pt_cmpR op_eq (pe_call G__law_taken (hr.mono (j := 1) (by decide)) (by rfl) g__law_taken k__law_taken b__law_taken .nil pass0 (pa_cons (pv 0) (pa_cons pe_int pa_nil))) pe_int (nomark _)) (pss_one (ps_setLc (i := 4) (own := [("_law_pair", 5)]) (g := gName 5) rfl nd rfl rfl (sw_true rfl rfl rfl (by decide +kernel)) (pi_list (pv 4)) (blkOk_by (own := [("_law_pair", 5)]) (N := ["_law_row", "_law_most", "_law_many", "_law_ways", "_law_pairs_here", "_law_pair"]) (sc := defScope lCompany) (by decide +kernel)) (fun _ _ _ _ _ => (pg_name (i := 5) nd rfl (Or.inl rfl))) (fun _ _ _ _ _ => (pts_one (pt_cmpR op_lt (pe_op op_sub (pe_ix (ix_tupK (K := K) rfl) (pv 5) pe_int (fun _ _ => rfl)) (pe_ix (ix_tupK (K := K) rfl) (pv 5) pe_int (fun _ _ => rfl))) pe_int (nomark _)))) (fun _ _ _ _ _ => (pv 5)))) pss_nil)
          (pss_one (ps_ret (pe_tup (pa_cons (pv 2) (pa_cons (pe_callTy (call_tuple_ofK (K := K) rfl) (by rfl) T.tuple (by decide +kernel) (pa_cons (pv 4) pa_nil)) pa_nil)))))))), ?_⟩
    refine ⟨_, rfl, _, rfl, r, sc, 5, rfl, hro, hs, by decide, by decide, fun H1 x sb1 ra1 hx => ?_⟩
    have hs1 := hs.keepB sb1 hro
    refine ⟨_, _, rfl, rfl, le_line (by decide), fun l hl => ?_⟩
    have ral := ra1.up (o := .lst [.int 2, .int 3, .int 5]) (ra1.ne hl)
    have sbl := (SameB.refl r H1).up (o := .lst [.int 2, .int 3, .int 5]) hl
    have hsl := hs1.keepB sbl ra1
    refine ⟨_, rfl, r, sc, 3, rfl, ral, hsl, by decide, by decide, fun H2 y sb2 ra2 hy => ?_⟩
    have hl2 := sb2 _ _ (fun e => (ra1.ne hl) e.symm) upd_same
    have hs2 := hsl.keepB sb2 ral
    have sbA := (sb1.trans sbl).trans sb2
    obtain ⟨ways, hw, hw1, hw2⟩ : ∃ ways : Nat, atI ([.int 2, .int 3, .int 5] : List V) (y : Int) = some (.int ways) ∧ 1 ≤ ways ∧ ways ≤ 5 := by
      have hh : y = 0 ∨ y = 1 ∨ y = 2 := by omega
      rcases hh with rfl | rfl | rfl
      · exact ⟨2, rfl, by decide, by decide⟩
      · exact ⟨3, rfl, by decide, by decide⟩
      · exact ⟨5, rfl, by decide, by decide⟩
    obtain ⟨n, hn, hn1, hn5⟩ : ∃ n : Nat, (1 : Int) + (x : Int) = n ∧ 1 ≤ n ∧ n ≤ 5 := ⟨1 + x, by omega, by omega, by omega⟩
    refine ⟨l, _, _, .int ways, rfl, rfl, SqL.of hl2, hw, two_line, fun p hp => ?_⟩
    have ra2p := ra2.up (o := .tup [.int ((1 : Int) + (x : Int)), .int (ways : Nat)]) (ra2.ne hp)
    have sbp := (SameB.refl r H2).up (o := .tup [.int ((1 : Int) + (x : Int)), .int (ways : Nat)]) hp
    have hsp := hs2.keepB sbp ra2
    refine ⟨p, _, rfl, SqT.of upd_same, rfl, _, _, rfl, _, [], rfl, rfl, ?_⟩
    have sbB := sbA.trans sbp
    refine ⟨_, rfl, n, congrArg (fun z => [V.int z]) hn, by omega, fun H3 pl ps sm3 hpl0 hpl hps => ?_⟩
    have ra3 := ra2p.keep sm3
    have hs3 := hsp.keep sm3
    have sbC := sbB.trans (sameB_of sm3)
    have hpl0' := ra2p.ne hpl0
    have hAll := (pairs_all hn5).2.2
    have hpsl := hps.len
    have fin : ∀ (H5 : Hp) (D : Addr) (qs : List Addr) (G : OW.Fs), SameB r H H5 → RowAt H5 r sc → H5 D = some (.lst (qs.map V.ref)) → PairsAt H5 qs G → G.Sublist (allPairs n) →
        ∀ l, H5 l = none → ∀ r2, (upd H5 l (.tup (qs.map V.ref))) r2 = none → Q (.ref r2) (upd (upd H5 l (.tup (qs.map V.ref))) r2 (.tup [.int ((1 : Int) + (x : Int)), .ref l])) := by
      intro H5 D qs G sb ra hD hG hsub c hcn r2 hr2
      rw [hn]
      obtain ⟨hco, hfew⟩ := pairs_co hn5 hsub
      have sm5 : Same H5 (upd (upd H5 c (.tup (qs.map V.ref))) r2 (.tup [.int n, .ref c])) := sameUp (sameNew hcn) (up_none hr2)
      exact q _ r2 n G (sb.trans (sameB_of sm5)) (ra.keep sm5) ⟨co_made hG (Same.refl H5) hcn hr2, hco, hn1, hn5, hfew⟩
    refine ⟨pl, rfl, ⟨_, SqL.of hpl⟩, fun D hD => lc_gen (n := ps.length) (fun j H' => SameB r H3 H' ∧ RowAt H' r sc ∧ ∃ qs G, H' D = some (.lst (qs.map V.ref)) ∧ PairsAt H' qs G ∧ G.Sublist ((allPairs n).take j))
      ⟨(SameB.refl r H3).up hD, ra3.up (ra3.ne hD), [], [], upd_same, .nil, List.nil_sublist _⟩ (fun j H' hj h => ?_) (fun H' h => ?_) ?_ ?_⟩
    · exact ⟨_, .ref ps[j], SqL.of (h.1 _ _ (fun e => hpl0' e.symm) hpl), by rw [List.getElem?_map, List.getElem?_eq_getElem hj]; rfl⟩
    · exact ⟨_, SqL.of (h.1 _ _ (fun e => hpl0' e.symm) hpl), by rw [List.length_map]; exact Nat.le_refl _⟩
    · rintro j w H4 H5 hj ⟨sb, ra, qs, G, hD4, hG, hsub⟩ ⟨rfl, fx⟩
      have ex := fx _ (SqL.of (sb _ _ (fun e => hpl0' e.symm) hpl))
      rw [List.getElem?_map, List.getElem?_eq_getElem hj] at ex
      have ex1 : V.ref ps[j] = w := Option.some.inj ex
      subst ex1
      have hDr : D ≠ r := fun e => (ra3.ne hD) e.symm
      refine ⟨rfl, _, rfl, _, rfl, r, sc, ways, rfl, ra, hs3.keepB sb ra3, hw1, by omega, fun H6 z sb6 ra6 hz => ⟨_, _, rfl, rfl, _, rfl, iteC (fun hg => ?_) (fun hg => ?_)⟩⟩
      · have hjA : j < (allPairs n).length := by omega
        obtain ⟨p', hp1, hp2⟩ := hps.get j (allPairs n)[j] (List.getElem?_eq_getElem hjA)
        rw [List.getElem?_eq_getElem hj] at hp1
        have ep : ps[j] = p' := Option.some.inj hp1
        rw [← ep] at hp2
        have hp6 := sb6 _ _ (fun e => by
          obtain ⟨_, _, _, _, e2⟩ := ra3
          rw [e, e2] at hp2; cases hp2) (sb _ _ (fun e => by
          obtain ⟨_, _, _, _, e2⟩ := ra3
          rw [e, e2] at hp2; cases hp2) hp2)
        have hGl := hsub.length_le
        rw [List.length_take] at hGl
        have hD6 := sb6 _ _ hDr hD4
        refine ⟨_, rfl, _, hD6, by rw [List.length_map, hG.len]; exact lt_line (by omega), (sb.trans sb6).up hD, ra6.up (ra3.ne hD), qs ++ [ps[j]], G ++ [(allPairs n)[j]], ?_, ?_, ?_⟩
        · rw [upd_same, List.map_append]; rfl
        · exact ((hG.keepB sb6 ra).snoc hp6).up hD6
        · rw [List.take_add_one, List.getElem?_eq_getElem hjA]
          exact hsub.append (List.Sublist.refl _)
      · refine ⟨sb.trans sb6, ra6, qs, G, sb6 _ _ hDr hD4, hG.keepB sb6 ra, hsub.trans ?_⟩
        rw [List.take_add_one]
        exact List.sublist_append_left _ _
    rintro H5 ⟨sb, ra, qs, G, hD5, hG, hsub⟩
    have hsub2 := hsub.trans (List.take_sublist _ _)
    have hDr : D ≠ r := fun e => (ra3.ne hD) e.symm
    refine ⟨_, rfl, r, sc, 4, rfl, ra, hs3.keepB sb ra3, by decide, by decide, fun H6 z sb6 ra6 hz => ?_⟩
    have hD6 := sb6 _ _ hDr hD5
    have hG6 := hG.keepB sb6 ra
    have sbE := (sbC.trans sb).trans sb6
    refine ⟨rfl, _, rfl, iteC (fun hg => ?_) (fun hg => ?_)⟩
    · refine ⟨_, rfl, D, rfl, ⟨_, SqL.of hD6⟩, fun D2 hD2 => lc_gen (n := qs.length) (fun j H' => Same H6 H' ∧ ∃ qs2 G2, H' D2 = some (.lst (qs2.map V.ref)) ∧ PairsAt H' qs2 G2 ∧ G2.Sublist (G.take j))
        ⟨sameNew hD2, [], [], upd_same, .nil, List.nil_sublist _⟩ (fun j H' hj h => ?_) (fun H' h => ?_) ?_ ?_⟩
      · exact ⟨_, .ref qs[j], SqL.of (h.1 _ _ hD6), by rw [List.getElem?_map, List.getElem?_eq_getElem hj]; rfl⟩
      · exact ⟨_, SqL.of (h.1 _ _ hD6), by rw [List.length_map]; exact Nat.le_refl _⟩
      · rintro j w H7 H8 hj ⟨sm, qs2, G2, hD7, hG7, hsub7⟩ ⟨rfl, fx⟩
        have ex := fx _ (SqL.of (sm _ _ hD6))
        rw [List.getElem?_map, List.getElem?_eq_getElem hj] at ex
        have ex1 : V.ref qs[j] = w := Option.some.inj ex
        subst ex1
        have hjG : j < G.length := by have := hG6.len; omega
        obtain ⟨p', hp1, hp2⟩ := hG6.get j G[j] (List.getElem?_eq_getElem hjG)
        rw [List.getElem?_eq_getElem hj] at hp1
        have ep : qs[j] = p' := Option.some.inj hp1
        rw [← ep] at hp2
        have hp7 := sm _ _ hp2
        have hGl := hsub7.length_le
        rw [List.length_take] at hGl
        have hGa := hsub2.length_le
        refine ⟨rfl, _, rfl, qs[j], _, _, _, rfl, rfl, SqT.of hp7, atI_nat (j := 1) rfl, _, rfl, qs[j], _, _, _, rfl, rfl, SqT.of hp7, atI_nat (j := 0) rfl, _, _, rfl, rfl, _, _, rfl, rfl, _, rfl, iteC (fun hg => ?_) (fun hg => ?_)⟩
        · refine ⟨_, rfl, _, hD7, by rw [List.length_map, hG7.len]; exact lt_line (by omega), sameUp sm hD2, qs2 ++ [qs[j]], G2 ++ [G[j]], ?_, ?_, ?_⟩
          · rw [upd_same, List.map_append]; rfl
          · exact (hG7.snoc hp7).up hD7
          · rw [List.take_add_one, List.getElem?_eq_getElem hjG]
            exact hsub7.append (List.Sublist.refl _)
        · refine ⟨sm, qs2, G2, hD7, hG7, hsub7.trans ?_⟩
          rw [List.take_add_one]
          exact List.sublist_append_left _ _
      rintro H7 ⟨sm, qs2, G2, hD7, hG7, hsub7⟩
      refine ⟨_, rfl, _, rfl, D2, _, rfl, .inl ⟨SqL.of hD7, fun c hcn => ⟨two_line, fun r2 hr2 => ?_⟩⟩⟩
      exact fin H7 D2 qs2 G2 (sbE.trans (sameB_of sm)) (ra6.keep sm) hD7 hG7 ((hsub7.trans (List.take_sublist _ _)).trans hsub2) c hcn r2 hr2
    · refine ⟨_, rfl, _, rfl, D, _, rfl, .inl ⟨SqL.of hD6, fun c hcn => ⟨two_line, fun r2 hr2 => ?_⟩⟩⟩
      exact fin H6 D qs G sbE ra6 hD6 hG6 hsub2 c hcn r2 hr2
end
end OWP
end
section
namespace OWP
open PySem PySem.Spec PyProof.Rows L2 OWK
section
variable {P : Program} {w : World} {K : PySem.W.Frag} {mg : Str → Option Value} {base : Heap}
theorem sc__law_orders : FnScope ["_law_letters", "_law_rows", "_law_turn", "_law_longer", "_law_told", "_law_sign"] ["_law_letters"] (defScope lOrders) := ⟨rfl, rfl, rfl, by decide +kernel, rfl, by decide +kernel, by decide +kernel⟩
theorem ok__law_orders (D : DefAt K mg "_law_orders" lOrders) (T : Free mg) :
    OkAt P w K mg base 1 "_law_orders" ["_law_letters"] sp_orders := by
  obtain ⟨f, fd, g, F⟩ := D
  obtain ⟨tA, hA⟩ := T.alpha
  obtain ⟨tM, hM⟩ := T.most
  refine ⟨f, fd, g, F.kp, F.binds (ps := ["_law_letters"]) (fun _ _ _ _ _ _ us hl => match us, hl with | [_], _ => rfl), ?_⟩
  refine F.ok sc__law_orders (fun vs H Q E h => ?_) (fun cdv A outer s H vs Q E hr h => ?_)
  · obtain ⟨_, rfl, _⟩ := h
    rfl
  · have nd := sc__law_orders.nd
    obtain ⟨n, rfl, hn, q⟩ := h
    refine ⟨_, (pss_cons (ps_set (i := 1) nd rfl (Or.inl rfl) (pe_lst (pa_cons pe_str pa_nil)))
          (pss_cons (ps_for PassesOwn.never rfl (pi_range1 (by rfl) T.range (pa_cons (pe_callB call_len_str (by rfl) T.len PySem.boot_len (pa_cons (pv 0) pa_nil)) pa_nil)) (pg_name (i := 2) nd rfl (Or.inl rfl)) (pss_cons (ps_set (i := 3) nd rfl (Or.inl rfl) (pe_lst pa_nil))
          (pss_cons (ps_for PassesOwn.never rfl (pi_list (pv 1)) (pg_name (i := 4) nd rfl (Or.inr rfl)) (pss_one (ps_set (i := 3) nd rfl (Or.inl rfl) (pe_op op_cat (pv 3) (pe_lc (own := [("_law_sign", 5)]) (g := gName 5) rfl nd (pi_list (pe_callB (cr_sortT1 rfl (ru hr 3 (by decide))) (by rfl) T.sorted (by decide +kernel) (pa_cons (pv 0) pa_nil))) (blkOk_by (own := [("_law_sign", 5)]) (N := ["_law_letters", "_law_rows", "_law_turn", "_law_longer", "_law_told", "_law_sign"]) (sc := defScope lOrders) (by decide +kernel)) (fun _ _ _ _ _ => (pg_name (i := 5) nd rfl (Or.inl rfl))) (fun _ _ _ _ _ => (pts_one (pt_cmpR op_notIn_sign (pv 5) (pv 4) (by rfl)))) (fun _ _ _ _ _ => (pe_op op_add_str (pv 4) (pv 5))))))))
          (pss_one (ps_set (i := 1) nd rfl (Or.inl rfl) (pv 3))))))
          (pss_one (ps_ret (pv 1))))), ?_⟩
    refine ⟨le_line (by decide), fun p0 hp0 => ?_⟩
    have sm0 : Same H (upd H p0 (.lst [wv []])) := sameNew hp0
    have hp2 : (upd H p0 (.lst [wv []])) p0 = some (.lst [wv []]) := upd_same
    have ehp : upd H p0 (.lst [V.str ""]) = upd H p0 (.lst [wv []]) := rfl
    rw [ehp]
    generalize upd H p0 (.lst [wv []]) = H0 at sm0 hp2
    refine ⟨_, rfl, tx (List.range n), rfl, tx_line (by rw [List.length_range]; omega), n, by rw [tx_len, List.length_range], by omega, by omega, for_gen (n := n) (fun k σ H' => ∃ pr y2 y3 y4 y5, σ = [some (.str (tx (List.range n))), some (.ref pr), y2, y3, y4, y5] ∧ Same H H' ∧ H pr = none ∧ H' pr = some (.lst ((OW.ord n k).map wv)))
      ⟨p0, none, none, none, none, rfl, sm0, hp0, hp2⟩ (fun k σ H' hk _ => hk) (fun σ H' _ => Nat.le_refl _) ?_ ?_⟩
    · rintro k x σ H1 H2 hk ⟨pr, y2, y3, y4, y5, rfl, sm, hpr0, hpr⟩ ⟨rfl, rfl⟩
      have hol := ord_small (n := n) k hn (by omega)
      refine ⟨Nat.zero_le _, fun pl hpl => ?_⟩
      have nrl : pr ≠ pl := ne_of_none hpr hpl
      have hprA : (upd H2 pl (.lst [])) pr = some (.lst ((OW.ord n k).map wv)) := by rw [upd_ne nrl]; exact hpr
      refine ⟨_, rfl, pr, rfl, ⟨_, SqL.of hprA⟩, for_gen (n := (OW.ord n k).length) (fun j σ H' => ∃ pl y4 y5, σ = [some (.str (tx (List.range n))), some (.ref pr), some (.int (0 + (k : Nat))), some (.ref pl), y4, y5] ∧ Same H H' ∧ H pl = none ∧ H' pr = some (.lst ((OW.ord n k).map wv)) ∧
        H' pl = some (.lst ((OW.ordStep n ((OW.ord n k).take j)).map wv))) ⟨pl, y4, y5, rfl, sameUp sm (Same.free sm hpl), Same.free sm hpl, hprA, upd_same⟩ (fun j σ H' hj h => ?_) (fun σ H' h => ?_) ?_ ?_⟩
      · obtain ⟨_, _, _, _, _, _, h1, _⟩ := h
        exact ⟨_, wv (OW.ord n k)[j], SqL.of h1, by rw [List.getElem?_map, List.getElem?_eq_getElem hj]; rfl⟩
      · obtain ⟨_, _, _, _, _, _, h1, _⟩ := h
        exact ⟨_, SqL.of h1, by rw [List.length_map]; exact Nat.le_refl _⟩
      · rintro j x σ H3 H4 hj ⟨pl, y4, y5, rfl, sm, hpl0, hpr, hpl⟩ ⟨rfl, fx⟩
        have ex := fx _ (SqL.of hpr)
        rw [List.getElem?_map, List.getElem?_eq_getElem hj] at ex
        have ex1 : wv (OW.ord n k)[j] = x := Option.some.inj ex
        subst ex1
        have hrm := OW.ord_mem (List.getElem_mem hj)
        have hsl := ordStep_small (n := n) (rows := (OW.ord n k).take j) hn (by rw [List.length_take]; omega)
        have hos := ordStep_take (n := n) hj
        generalize hr0 : (OW.ord n k)[j] = r at hrm hos
        refine ⟨_, rfl, _, rfl, tx (List.range n), rfl, by rw [tx_size, List.length_range]; exact le_line (by omega), fun ps hps => ?_⟩
        have sm4 : Same H4 (upd H4 ps (.lst ((sortS (OWK.signs (tx (List.range n)))).map V.str))) := sameNew hps
        have hps4 : (upd H4 ps (.lst ((sortS (OWK.signs (tx (List.range n)))).map V.str))) ps = some (.lst ((List.range n).map fun i => V.str (tx [i]))) := by
          rw [upd_same, sorted_signs, sw_range ⟨List.length_range, List.nodup_range, fun x hx => List.mem_range.mp hx⟩, List.map_map]
          rfl
        generalize upd H4 ps (.lst ((sortS (OWK.signs (tx (List.range n)))).map V.str)) = H5 at sm4 hps4
        refine ⟨ps, rfl, ⟨_, SqL.of hps4⟩, fun D hD => lc_gen (n := n) (fun i H' => Same H5 H' ∧ H' D = some (.lst ((ordPart r i).map wv))) ⟨sameNew hD, upd_same⟩ (fun i H' hi h => ?_) (fun H' h => ?_) ?_ ?_⟩
        · exact ⟨_, V.str (tx [i]), SqL.of (h.1 _ _ hps4), by rw [List.getElem?_map, List.getElem?_range hi]; rfl⟩
        · exact ⟨_, SqL.of (h.1 _ _ hps4), by rw [List.length_map, List.length_range]; exact Nat.le_refl _⟩
        · rintro i x H6 H7 hi ⟨sm6, hD6⟩ ⟨rfl, fx⟩
          have ex := fx _ (SqL.of (sm6 _ _ hps4))
          rw [List.getElem?_map, List.getElem?_range hi] at ex
          have ex1 : V.str (tx [i]) = x := Option.some.inj ex
          subst ex1
          refine ⟨rfl, _, rfl, _, rfl, i + 97, tx r, rfl, rfl, _, rfl, ?_⟩
          rw [dec_mem]
          by_cases hm : i ∈ r
          · rw [decide_eq_true hm]
            refine iteF ⟨sm6, ?_⟩
            rw [hD6, ordPart_succ, if_neg (by simp [hm]), List.append_nil]
          · rw [decide_eq_false hm]
            have hpl6 := ordPart_len (r := r) (i := i)
            refine iteT ⟨_, rfl, _, rfl, _, _, rfl, rfl, ?_, _, hD6, by rw [List.length_map]; exact lt_line (by omega), sameUp sm6 hD, ?_⟩
            · rw [tx_len, tx_len]; exact le_line (by show _ + 1 ≤ _; omega)
            · rw [upd_same, ordPart_succ, if_pos (decide_eq_true hm), List.map_append (l₂ := [r ++ [i]])]
              show some (HO.lst (_ ++ [V.str (tx r ++ tx [i])])) = _
              rw [tx_append]; rfl
        · rintro H6 ⟨sm6, hD6⟩
          have hpl6 := sm6 _ _ (sm4 _ _ hpl)
          have hpn := ordPart_len (r := r) (i := n)
          have smA : Same H H6 := (sm.trans sm4).trans sm6
          refine ⟨pl, D, _, _, rfl, rfl, hpl6, hD6, by rw [List.length_map, List.length_map]; exact le_line (by omega), fun l hl => ?_⟩
          refine ⟨l, _, _, rfl, sameUp smA (Same.free smA hl), Same.free smA hl, ?_, ?_⟩
          · rw [upd_ne (ne_of_none (sm6 _ _ (sm4 _ _ hpr)) hl)]
            exact sm6 _ _ (sm4 _ _ hpr)
          · rw [upd_same, hos, List.map_append]
      · rintro σ H3 ⟨pl, y4, y5, rfl, sm, hpl0, hpr, hpl⟩
        refine ⟨_, rfl, pl, _, _, _, _, rfl, sm, hpl0, ?_⟩
        rw [hpl, List.take_length]
        rfl
    rintro σ H3 ⟨pr, y2, y3, y4, y5, rfl, sm, hpr0, hpr⟩
    exact ⟨_, rfl, q _ _ sm hpr0 hpr⟩
end
end OWP
end
section
namespace OWP
open PySem PySem.Spec PyProof.Rows L2 OWK
section
variable {P : Program} {w : World} {K : PySem.W.Frag} {mg : Str → Option Value} {base : Heap}
theorem sc__law_firsts : FnScope ["_law_word_here", "_law_at"] ["_law_word_here"] (defScope lFirsts) := ⟨rfl, rfl, rfl, by decide +kernel, rfl, by decide +kernel, by decide +kernel⟩
theorem ok__law_firsts (D : DefAt K mg "_law_firsts" lFirsts) (T : Free mg) :
    OkAt P w K mg base 1 "_law_firsts" ["_law_word_here"] sp_firsts := by
  obtain ⟨f, fd, g, F⟩ := D
  obtain ⟨tA, hA⟩ := T.alpha
  obtain ⟨tM, hM⟩ := T.most
  refine ⟨f, fd, g, F.kp, F.binds (ps := ["_law_word_here"]) (fun _ _ _ _ _ _ us hl => match us, hl with | [_], _ => rfl), ?_⟩
  refine F.ok sc__law_firsts (fun vs H Q E h => ?_) (fun cdv A outer s H vs Q E hr h => ?_)
  · obtain ⟨_, rfl, _⟩ := h
    rfl
  · have nd := sc__law_firsts.nd
    obtain ⟨v, rfl, hv, q⟩ := h
    refine ⟨_, (pss_one (ps_ret (pe_join pe_str (pe_lc (own := [("_law_at", 1)]) (g := gName 1) rfl nd (pi_range1 (by rfl) T.range (pa_cons (pe_callB call_len_str (by rfl) T.len PySem.boot_len (pa_cons (pv 0) pa_nil)) pa_nil)) (blkOk_by (own := [("_law_at", 1)]) (N := ["_law_word_here", "_law_at"]) (sc := defScope lFirsts) (by decide +kernel)) (fun _ _ _ _ _ => (pg_name (i := 1) nd rfl (Or.inl rfl))) (fun _ _ _ _ _ => (pts_one (pt_cmpR op_notIn_sign (pe_ix ix_str (pv 0) (pv 1) (fun _ _ => rfl)) (pe_slice sl_str (pv 0) po_none (po_some (pv 1))) (by rfl)))) (fun _ _ _ _ _ => (pe_ix ix_str (pv 0) (pv 1) (fun _ _ => rfl))))))), ?_⟩
    refine ⟨⟨_, rfl⟩, _, rfl, tx v, rfl, tx_line (by omega), v.length, ?_, by omega, by omega, fun D hD => lc_gen (n := v.length) (fun j H' => Same H H' ∧ H' D = some (.lst (((OW.firsts (v.take j)).map fun i => tx [i]).map V.str))) ⟨sameNew hD, upd_same⟩ (fun j H' hj _ => hj) (fun H' _ => Nat.le_refl _) ?_ ?_⟩
    · rw [tx_len]
    · rintro j x H1 H2 hj ⟨sm, hD1⟩ ⟨rfl, rfl⟩
      have e1 : v.take (j + 1) = v.take j ++ [v[j]] := by rw [List.take_add_one, List.getElem?_eq_getElem hj]; rfl
      have e2 : OW.firsts (v.take (j + 1)) = OW.fstep (OW.firsts (v.take j)) v[j] := by rw [e1, OW.firsts_snoc]
      rw [Int.zero_add]
      refine ⟨rfl, _, rfl, _, rfl, _, _, v[j] + 97, rfl, rfl, tx_line (by omega), tx_at hj, _, rfl, _, rfl, _, rfl, _, rfl, tx_line (by omega), ?_⟩
      rw [cut_pre]
      refine ⟨v[j] + 97, tx (v.take j), rfl, rfl, _, rfl, ?_⟩
      rw [dec_mem]
      by_cases hm : v[j] ∈ v.take j
      · rw [decide_eq_true hm]
        refine iteF ⟨sm, ?_⟩
        rw [hD1, e2]; unfold OW.fstep; rw [if_pos (OW.mem_firsts.mpr hm)]
      · rw [decide_eq_false hm]
        have h1 := OW.firsts_len_go (v.take j) []
        rw [List.length_take] at h1
        have h2 : (OW.firsts (v.take j)).length ≤ 0 + min j v.length := h1
        refine iteT ⟨_, rfl, _, rfl, _, _, v[j] + 97, rfl, rfl, tx_line (by omega), tx_at hj, _, hD1, by rw [List.length_map, List.length_map]; exact lt_line (by omega), sameUp sm hD, ?_⟩
        rw [upd_same, e2]; unfold OW.fstep; rw [if_neg (fun z => hm (OW.mem_firsts.mp z)), List.map_append, List.map_append]
        rfl
    rintro H1 ⟨sm1, hD1⟩
    rw [List.take_length] at hD1
    have h1 := OW.firsts_len_go v []
    have h2 : (OW.firsts v).length ≤ 0 + v.length := h1
    refine ⟨"", D, _, rfl, rfl, .inl (SqL.of hD1), by rw [sum_ones]; exact le_line (by omega), ?_⟩
    rw [join_letters]
    exact q _ sm1
end
end OWP
end
section
namespace OWP
open PySem PySem.Spec PyProof.Rows L2 OWK
section
variable {P : Program} {w : World} {K : PySem.W.Frag} {mg : Str → Option Value} {base : Heap}
theorem sc__law_friend : FnScope ["_law_company_here", "_law_one", "_law_other", "_law_signs"] ["_law_company_here", "_law_one", "_law_other"] (defScope lFriend) := ⟨rfl, rfl, rfl, by decide +kernel, rfl, by decide +kernel, by decide +kernel⟩
theorem ok__law_friend (D : DefAt K mg "_law_friend" lFriend) (T : Free mg) :
    OkAt P w K mg base 1 "_law_friend" ["_law_company_here", "_law_one", "_law_other"] sp_friend := by
  obtain ⟨f, fd, g, F⟩ := D
  obtain ⟨tA, hA⟩ := T.alpha
  obtain ⟨tM, hM⟩ := T.most
  refine ⟨f, fd, g, F.kp, F.binds (ps := ["_law_company_here", "_law_one", "_law_other"]) (fun _ _ _ _ _ _ us hl => match us, hl with | [_, _, _], _ => rfl), ?_⟩
  refine F.ok sc__law_friend (fun vs H Q E h => ?_) (fun cdv A outer s H vs Q E hr h => ?_)
  · obtain ⟨_, _, _, _, _, rfl, _⟩ := h
    rfl
  · have nd := sc__law_friend.nd
    obtain ⟨a, n, Fs, i, j, rfl, hc, hi, hj, hne, q⟩ := h
    refine ⟨_, (pss_cons (ps_set (i := 3) nd rfl (Or.inl rfl) pe_str)
          (pss_one (ps_ret (pe_cmpR (op_inDT (ru hr 65 (by decide))) (pe_tup (pa_cons (pe_m1 PySem.F.slot_str_index PySem.F.type_str_index mt_sindex (pv 3) (pe_callB (cr_min2S rfl (ru hr 1 (by decide))) (by rfl) T.min (by decide +kernel) (pa_cons (pv 1) (pa_cons (pv 2) pa_nil)))) (pa_cons (pe_m1 PySem.F.slot_str_index PySem.F.type_str_index mt_sindex (pv 3) (pe_callB (cr_max2S rfl (ru hr 1 (by decide))) (by rfl) T.max (by decide +kernel) (pa_cons (pv 1) (pa_cons (pv 2) pa_nil)))) pa_nil))) (pe_ix (ix_tupK (K := K) rfl) (pv 0) pe_int (fun _ _ => rfl)) (by rfl))))), ?_⟩
    obtain ⟨b, ps, ha, hb, hp⟩ := hc.at_
    obtain ⟨r1, e1⟩ := index_alpha (i := min i j) (by omega)
    obtain ⟨r2, e2⟩ := index_alpha (i := max i j) (by omega)
    refine ⟨_, rfl, ⟨_, rfl⟩, _, rfl, _, rfl, tx [i], tx [j], rfl, ?_⟩
    rw [min_sign]
    refine ⟨_, _, min i j, r1, rfl, rfl, e1, _, rfl, ⟨_, rfl⟩, _, rfl, _, rfl, tx [i], tx [j], rfl, ?_⟩
    rw [max_sign]
    refine ⟨_, _, max i j, r2, rfl, rfl, e2, two_line, fun p hp0 => ?_⟩
    have sm := sameNew (o := .tup [.int ((min i j : Nat) : Int), .int ((max i j : Nat) : Int)]) hp0
    refine ⟨_, rfl, a, _, _, .ref b, rfl, rfl, SqT.of (sm _ _ ha), atI_nat (j := 1) rfl, ?_⟩
    refine ⟨pD (min i j, max i j), Fs.map pD, .tup (SqT.of upd_same) (.cons (.int _) (.cons (.int _) .nil)), .tup (SqT.of (sm _ _ hb)) (dp_pairs (hp.keep sm)), shaped_pair _, shaped_pairs _, ?_⟩
    rw [any_pairs]
    have e : decide ((min i j, max i j) ∈ Fs) = decide (i ∈ OW.fr Fs j) := by
      rw [decide_eq_decide]
      exact OW.nm_adj hc.co hne
    rw [e]
    exact q _ sm
end
end OWP
end
section
namespace OWP
open PySem PySem.Spec PyProof.Rows L2 OWK
section
variable {P : Program} {w : World} {K : PySem.W.Frag} {mg : Str → Option Value} {base : Heap}
theorem sc__law_word : FnScope ["_law_row", "_law_company_here", "_law_most", "_law_at"] ["_law_row", "_law_company_here", "_law_most"] (defScope lWord) := ⟨rfl, rfl, rfl, by decide +kernel, rfl, by decide +kernel, by decide +kernel⟩
theorem ok__law_word (D : DefAt K mg "_law_word" lWord) (T : Free mg) (O__law_taken : OkAt P w K mg base 1 "_law_taken" ["_law_row", "_law_many"] (sp_taken K)) :
    OkAt P w K mg base 2 "_law_word" ["_law_row", "_law_company_here", "_law_most"] (sp_word K) := by
  obtain ⟨f, fd, g, F⟩ := D
  obtain ⟨f__law_taken, fd__law_taken, g__law_taken, k__law_taken, b__law_taken, G__law_taken⟩ := O__law_taken
  obtain ⟨tA, hA⟩ := T.alpha
  obtain ⟨tM, hM⟩ := T.most
  refine ⟨f, fd, g, F.kp, F.binds (ps := ["_law_row", "_law_company_here", "_law_most"]) (fun _ _ _ _ _ _ us hl => match us, hl with | [_, _, _], _ => rfl), ?_⟩
  refine F.ok sc__law_word (fun vs H Q E h => ?_) (fun cdv A outer s H vs Q E hr h => ?_)
  · obtain ⟨_, _, _, _, _, _, rfl, _⟩ := h
    rfl
  · have nd := sc__law_word.nd
    obtain ⟨r, sc, a, n, m, Fs, rfl, hro, hs, hc, h1, hm, q⟩ := h
    refine ⟨_, (pss_one (ps_ret (pe_join pe_str (pe_lc (own := [("_law_at", 3)]) (g := gName 3) (tt := tYes) rfl nd (pi_range1 (by rfl) T.range (pa_cons (pe_op op_add pe_int (pe_call G__law_taken (hr.mono (j := 1) (by decide)) (by rfl) g__law_taken k__law_taken b__law_taken .nil pass0 (pa_cons (pv 0) (pa_cons (pv 2) pa_nil)))) pa_nil)) (blkOk_by (own := [("_law_at", 3)]) (N := ["_law_row", "_law_company_here", "_law_most", "_law_at"]) (sc := defScope lWord) (by decide +kernel)) (fun _ _ _ _ _ => (pg_name (i := 3) nd rfl (Or.inl rfl))) (fun _ _ _ _ _ => pts_nil) (fun _ _ _ _ _ => (pe_ix ix_str pe_str (pe_call G__law_taken (hr.mono (j := 1) (by decide)) (by rfl) g__law_taken k__law_taken b__law_taken .nil pass0 (pa_cons (pv 0) (pa_cons (pe_ix (ix_tupK (K := K) rfl) (pv 1) pe_int (fun _ _ => rfl)) pa_nil))) (fun _ _ => rfl))))))), ?_⟩
    have hn1 := hc.one
    have hn5 := hc.most
    refine ⟨⟨_, rfl⟩, _, rfl, _, rfl, r, sc, m, rfl, hro, hs, h1, by omega, fun H1 x sb1 ra1 hx => ?_⟩
    have hc1 := hc.keepB sb1 hro
    have hs1 := hs.keepB sb1 hro
    refine ⟨_, _, rfl, rfl, 1 + (x : Int), rfl, by omega, by omega, fun D hD => lc_gen (n := 1 + x) (fun j H' => SameB r H1 H' ∧ RowAt H' r sc ∧ ∃ v : OW.Wd, v.length = j ∧ (∀ y ∈ v, y < n) ∧ H' D = some (.lst ((v.map fun i => tx [i]).map V.str)))
      ⟨(SameB.refl r H1).up hD, ra1.up (ra1.ne hD), [], rfl, (fun _ y => nomatch y), upd_same⟩ (fun j H' hj _ => ?_) (fun H' _ => ?_) ?_ ?_⟩
    · show j < (1 + (x : Int)).toNat
      omega
    · show (1 + (x : Int)).toNat ≤ 1 + x
      omega
    · rintro j y H2 H3 hj ⟨sb, ra, v, hv, hvn, hD2⟩ ⟨rfl, rfl⟩
      obtain ⟨b, ps, ha, hb, hp⟩ := (hc1.keepB sb ra1).at_
      refine ⟨rfl, _, rfl, _, rfl, a, _, _, .int n, rfl, rfl, SqT.of ha, atI_nat (j := 0) rfl, r, sc, n, rfl, ra, hs1.keepB sb ra1, by omega, by omega, fun H4 z sb4 ra4 hz => ?_⟩
      have hDr : D ≠ r := fun e => (ra1.ne hD) e.symm
      refine ⟨_, _, z + 97, rfl, rfl, alpha_len, alpha_at (by omega), _, sb4 _ _ hDr hD2, by rw [List.length_map, List.length_map]; exact lt_line (by omega), (sb.trans sb4).up hD, ra4.up (ra1.ne hD), v ++ [z], by rw [List.length_append, hv]; rfl, ?_, ?_⟩
      · intro y hy
        rcases List.mem_append.mp hy with hy | hy
        · exact hvn y hy
        · rw [List.mem_singleton.mp hy]; exact hz
      · rw [upd_same, List.map_append, List.map_append]
        rfl
    rintro H2 ⟨sb, ra, v, hv, hvn, hD2⟩
    refine ⟨"", D, _, rfl, rfl, .inl (SqL.of hD2), by rw [sum_ones]; omega, ?_⟩
    rw [join_letters]
    exact q _ v (sb1.trans sb) ra hvn (by omega)
end
end OWP
end
section
namespace OWP
open PySem PySem.Spec PyProof.Rows L2 OWK
section
variable {P : Program} {w : World} {K : PySem.W.Frag} {mg : Str → Option Value} {base : Heap}
theorem sc__law_drawn_kind : FnScope ["_law_row", "_law_company_here"] ["_law_row", "_law_company_here"] (defScope lDrawn) := ⟨rfl, rfl, rfl, by decide +kernel, rfl, by decide +kernel, by decide +kernel⟩
theorem ok__law_drawn_kind (D : DefAt K mg "_law_drawn_kind" lDrawn) (T : Free mg) (O__law_kind : OkAt P w K mg base 2 "_law_kind" ["_law_company_here", "_law_word_here"] sp_kind) (O__law_word : OkAt P w K mg base 2 "_law_word" ["_law_row", "_law_company_here", "_law_most"] (sp_word K)) (O__law_taken : OkAt P w K mg base 1 "_law_taken" ["_law_row", "_law_many"] (sp_taken K)) :
    OkAt P w K mg base 3 "_law_drawn_kind" ["_law_row", "_law_company_here"] (sp_drawn K) := by
  obtain ⟨f, fd, g, F⟩ := D
  obtain ⟨f__law_kind, fd__law_kind, g__law_kind, k__law_kind, b__law_kind, G__law_kind⟩ := O__law_kind
  obtain ⟨f__law_word, fd__law_word, g__law_word, k__law_word, b__law_word, G__law_word⟩ := O__law_word
  obtain ⟨f__law_taken, fd__law_taken, g__law_taken, k__law_taken, b__law_taken, G__law_taken⟩ := O__law_taken
  obtain ⟨tA, hA⟩ := T.alpha
  obtain ⟨tM, hM⟩ := T.most
  refine ⟨f, fd, g, F.kp, F.binds (ps := ["_law_row", "_law_company_here"]) (fun _ _ _ _ _ _ us hl => match us, hl with | [_, _], _ => rfl), ?_⟩
  refine F.ok sc__law_drawn_kind (fun vs H Q E h => ?_) (fun cdv A outer s H vs Q E hr h => ?_)
  · obtain ⟨_, _, _, _, _, rfl, _⟩ := h
    rfl
  · have nd := sc__law_drawn_kind.nd
    obtain ⟨r, sc, a, n, Fs, rfl, hro, hs, hc, q⟩ := h
    refine ⟨_, (pss_one (ps_ret (pe_call G__law_kind (hr.mono (j := 2) (by decide)) (by rfl) g__law_kind k__law_kind b__law_kind .nil pass0 (pa_cons (pv 1) (pa_cons (pe_m1 PySem.F.slot_str_join PySem.F.type_str_join (mt_joinT rfl) pe_str (pe_ix (ix_listK (K := K) rfl) (pe_lst (pa_cons pe_str (pa_cons (pe_call G__law_word (hr.mono (j := 2) (by decide)) (by rfl) g__law_word k__law_word b__law_word .nil pass0 (pa_cons (pv 0) (pa_cons (pv 1) (pa_cons (pe_op op_mul pe_int (pe_ix (ix_tupK (K := K) rfl) (pv 1) pe_int (fun _ _ => rfl))) pa_nil)))) pa_nil))) (pe_callTy call_int1 (by rfl) T.int (by decide +kernel) (pa_cons (pe_cmpR op_gt (pe_call G__law_taken (hr.mono (j := 1) (by decide)) (by rfl) g__law_taken k__law_taken b__law_taken .nil pass0 (pa_cons (pv 0) (pa_cons pe_int pa_nil))) pe_int (nomark _)) pa_nil)) (fun _ _ => rfl))) pa_nil))))), ?_⟩
    obtain ⟨b, ps, ha, hb, hp⟩ := hc.at_
    have hn1 := hc.one
    have hn5 := hc.most
    refine ⟨_, rfl, ⟨_, rfl⟩, _, rfl, _, rfl, _, rfl, a, _, _, .int n, rfl, rfl, SqT.of ha, atI_nat (j := 0) rfl, _, _, rfl, rfl, .inl (by decide), r, sc, a, n, 2 * n, Fs, rfl, hro, hs, hc, by omega, by omega, fun H1 v sb1 ra1 hv hvl => ?_⟩
    refine ⟨two_line, fun l hl => ?_⟩
    have ral := ra1.up (o := .lst [.str "", .str (tx v)]) (ra1.ne hl)
    have sbl := (SameB.refl r H1).up (o := .lst [.str "", .str (tx v)]) hl
    refine ⟨_, rfl, r, sc, 9, rfl, ral, (hs.keepB sb1 hro).keepB sbl ra1, by decide, by decide, fun H2 x sb2 ra2 hx => ⟨_, _, rfl, rfl, .inr ⟨_, rfl, ?_⟩⟩⟩
    have hl2 := sb2 _ _ (fun e => (ra1.ne hl) e.symm) upd_same
    have sb := (sb1.trans sbl).trans sb2
    have fin : ∀ v : OW.Wd, (∀ y ∈ v, y < n) → v.length ≤ 1000 → ∃ v2, ([.str (tx v)] : List V) = [.str (tx v2)] ∧ v2.length ≤ 1000000 ∧ sp_kind [.ref a, .str (tx v2)] H2 Q E := fun v hv hvl =>
      ⟨v, rfl, by omega, a, n, Fs, v, rfl, hc.keepB sb hro, hv, hvl, fun H3 sm3 => q H3 _ (sb.trans (sameB_of sm3)) (ra2.keep sm3) ⟨OW.kindOf_nodup _ _, fun y hy => hv y (OW.mem_kindOf.mp hy), OW.kd_idem hc.co.irr (OW.firsts_nodup v)⟩⟩
    by_cases hx0 : (x : Int) > 0
    · refine ⟨l, _, _, .str (tx v), rfl, rfl, SqL.of hl2, by rw [decide_eq_true hx0]; rfl, ?_⟩
      obtain ⟨v2, e, h2, h3⟩ := fin v hv hvl
      exact ⟨v2, rfl, e, h2, h3⟩
    · refine ⟨l, _, _, .str (tx []), rfl, rfl, SqL.of hl2, by rw [decide_eq_false hx0]; rfl, ?_⟩
      obtain ⟨v2, e, h2, h3⟩ := fin [] (fun _ h => nomatch h) (by decide)
      exact ⟨v2, rfl, e, h2, h3⟩
end
end OWP
end
section
namespace OWP
open PySem PySem.Spec PyProof.Rows L2 OWK
section
variable {P : Program} {w : World} {K : PySem.W.Frag} {mg : Str → Option Value} {base : Heap}
theorem sc__law_pick : FnScope ["_law_row", "_law_things"] ["_law_row", "_law_things"] (defScope lPick) := ⟨rfl, rfl, rfl, by decide +kernel, rfl, by decide +kernel, by decide +kernel⟩
theorem ok__law_pick (D : DefAt K mg "_law_pick" lPick) (T : Free mg) (O__law_taken : OkAt P w K mg base 1 "_law_taken" ["_law_row", "_law_many"] (sp_taken K)) :
    OkAt P w K mg base 2 "_law_pick" ["_law_row", "_law_things"] (sp_pick K) := by
  obtain ⟨f, fd, g, F⟩ := D
  obtain ⟨f__law_taken, fd__law_taken, g__law_taken, k__law_taken, b__law_taken, G__law_taken⟩ := O__law_taken
  obtain ⟨tA, hA⟩ := T.alpha
  obtain ⟨tM, hM⟩ := T.most
  refine ⟨f, fd, g, F.kp, F.binds (ps := ["_law_row", "_law_things"]) (fun _ _ _ _ _ _ us hl => match us, hl with | [_, _], _ => rfl), ?_⟩
  refine F.ok sc__law_pick (fun vs H Q E h => ?_) (fun cdv A outer s H vs Q E hr h => ?_)
  · obtain ⟨_, _, _, _, rfl, _⟩ := h
    rfl
  · have nd := sc__law_pick.nd
    obtain ⟨r, sc, p, xs, rfl, hro, hs, hp, hpr, h1, hl, q⟩ := h
    refine ⟨_, (pss_one (ps_ret (pe_ix (ix_listK (K := K) rfl) (pv 1) (pe_call G__law_taken (hr.mono (j := 1) (by decide)) (by rfl) g__law_taken k__law_taken b__law_taken .nil pass0 (pa_cons (pv 0) (pa_cons (pe_callB call_len_seq (by rfl) T.len PySem.boot_len (pa_cons (pv 1) pa_nil)) pa_nil))) (fun _ _ => rfl)))), ?_⟩
    refine ⟨_, rfl, _, rfl, _, rfl, p, xs, rfl, .inl (SqL.of hp), r, sc, xs.length, rfl, hro, hs, h1, hl, fun H1 x sb ra hx => ?_⟩
    exact ⟨p, xs, x, xs[x], rfl, rfl, SqL.of (sb _ _ hpr hp), atI_nat (List.getElem?_eq_getElem hx), q _ _ sb ra (List.getElem_mem hx)⟩
end
end OWP
end
section
namespace OWP
open PySem PySem.Spec PyProof.Rows L2 OWK
section
variable {P : Program} {w : World} {K : PySem.W.Frag} {mg : Str → Option Value} {base : Heap}
theorem sc__law_renamed : FnScope ["_law_company_here", "_law_names", "_law_places", "_law_pairs_here", "_law_sign", "_law_one", "_law_other"] ["_law_company_here", "_law_names"] (defScope lRenamed) := ⟨rfl, rfl, rfl, by decide +kernel, rfl, by decide +kernel, by decide +kernel⟩
theorem ok__law_renamed (D : DefAt K mg "_law_renamed" lRenamed) (T : Free mg) :
    OkAt P w K mg base 1 "_law_renamed" ["_law_company_here", "_law_names"] sp_lrenamed := by
  obtain ⟨f, fd, g, F⟩ := D
  obtain ⟨tA, hA⟩ := T.alpha
  obtain ⟨tM, hM⟩ := T.most
  refine ⟨f, fd, g, F.kp, F.binds (ps := ["_law_company_here", "_law_names"]) (fun _ _ _ _ _ _ us hl => match us, hl with | [_, _], _ => rfl), ?_⟩
  refine F.ok sc__law_renamed (fun vs H Q E h => ?_) (fun cdv A outer s H vs Q E hr h => ?_)
  · obtain ⟨_, _, _, _, rfl, _⟩ := h
    rfl
  · have nd := sc__law_renamed.nd
    obtain ⟨a, n, Fs, t, rfl, hc, ⟨ht1, ht2, ht3⟩, q⟩ := h
    refine ⟨_, (pss_cons (ps_set (i := 2) nd rfl (Or.inr rfl) (pe_lc (own := [("_law_sign", 4)]) (g := gName 4) (tt := tYes) rfl nd (pi_str (pv 1)) (blkOk_by (own := [("_law_sign", 4)]) (N := ["_law_company_here", "_law_names", "_law_places", "_law_pairs_here", "_law_sign", "_law_one", "_law_other"]) (sc := defScope lRenamed) (by decide +kernel)) (fun _ _ _ _ _ => (pg_name (i := 4) nd rfl (Or.inl rfl))) (fun _ _ _ _ _ => pts_nil) (fun _ _ _ _ _ => (pe_m1 PySem.F.slot_str_index PySem.F.type_str_index mt_sindex pe_str (pv 4)))))
          (pss_cons (ps_setLc (i := 3) (own := [("_law_one", 5), ("_law_other", 6)]) (g := gTup K 2 (gCons (gName 5) (gCons (gName 6) (gNil)))) (tt := tYes) rfl nd rfl rfl (sw_true rfl rfl rfl (by decide +kernel)) (pi_tup (pe_ix (ix_tupK (K := K) rfl) (pv 0) pe_int (fun _ _ => rfl))) (blkOk_by (own := [("_law_one", 5), ("_law_other", 6)]) (N := ["_law_company_here", "_law_names", "_law_places", "_law_pairs_here", "_law_sign", "_law_one", "_law_other"]) (sc := defScope lRenamed) (by decide +kernel)) (fun _ _ _ _ _ => (pg_tup rfl (pgs_cons (pg_name (i := 5) nd rfl (Or.inl rfl)) (pgs_cons (pg_name (i := 6) nd rfl (Or.inl rfl)) pgs_nil)))) (fun _ _ _ _ _ => pts_nil) (fun _ _ _ _ _ => (pe_tup (pa_cons (pe_callB (call_min2 rfl) (by rfl) T.min (by decide +kernel) (pa_cons (pe_ix (ix_listK (K := K) rfl) (pv 2) (pv 5) (fun _ _ => rfl)) (pa_cons (pe_ix (ix_listK (K := K) rfl) (pv 2) (pv 6) (fun _ _ => rfl)) pa_nil))) (pa_cons (pe_callB (call_max2 rfl) (by rfl) T.max (by decide +kernel) (pa_cons (pe_ix (ix_listK (K := K) rfl) (pv 2) (pv 5) (fun _ _ => rfl)) (pa_cons (pe_ix (ix_listK (K := K) rfl) (pv 2) (pv 6) (fun _ _ => rfl)) pa_nil))) pa_nil)))))
          (pss_one (ps_ret (pe_tup (pa_cons (pe_ix (ix_tupK (K := K) rfl) (pv 0) pe_int (fun _ _ => rfl)) (pa_cons (pe_callTy (call_tuple_ofK (K := K) rfl) (by rfl) T.tuple (by decide +kernel) (pa_cons (pe_callB cr_sortedPO (by rfl) T.sorted (by decide +kernel) (pa_cons (pv 3) pa_nil)) pa_nil)) pa_nil))))))), ?_⟩
    obtain ⟨b, ps, ha, hb, hp⟩ := hc.at_
    have hl := hp.len
    have h5 := hc.most
    have hF := hc.few
    refine ⟨_, rfl, tx t, rfl, fun D hD => lc_gen (n := t.length) (fun j H' => Same H H' ∧ H' D = some (.lst (placeV (t.take j)))) ⟨sameNew hD, upd_same⟩ (fun j H' hj _ => ?_) (fun H' _ => ?_) ?_ ?_⟩
    · show j < (tx t).cps.size
      rw [tx_size]; exact hj
    · show (tx t).cps.size ≤ t.length
      rw [tx_size]; exact Nat.le_refl _
    · rintro j x H1 H2 hj ⟨sm, hD1⟩ ⟨rfl, c, hcx, rfl⟩
      have hc' : c = t[j] + 97 := by
        rw [← Array.getElem?_toList, tx_list, List.getElem?_map, List.getElem?_eq_getElem hj] at hcx
        exact (Option.some.inj hcx).symm
      subst hc'
      have htj := ht3 _ (List.getElem_mem hj)
      obtain ⟨r, hr2⟩ := index_alpha (i := t[j]) (by omega)
      refine ⟨rfl, ⟨_, rfl⟩, _, rfl, _, _, t[j], r, rfl, rfl, hr2, _, hD1, ?_, sameUp sm hD, ?_⟩
      · unfold placeV; rw [List.length_map, List.length_take]; exact lt_line (by omega)
      · rw [upd_same]; unfold placeV; rw [take_map_succ hj]
    rintro H1 ⟨sm1, hD1⟩
    rw [List.take_length] at hD1
    have hb1 := sm1 _ _ hb
    have ha1 := sm1 _ _ ha
    refine ⟨_, rfl, a, _, _, .ref b, rfl, rfl, SqT.of ha1, atI_nat (j := 1) rfl, b, rfl, ⟨_, SqT.of hb1⟩, fun E hE => lc_gen (n := Fs.length) (fun j H' => Same H1 H' ∧ ∃ qs, H' E = some (.lst (qs.map V.ref)) ∧ PairsAt H' qs ((Fs.take j).map (OW.nm t)) ∧ H1 E = none)
      ⟨sameNew hE, [], upd_same, .nil, hE⟩ (fun j H' hj h => ?_) (fun H' h => ?_) ?_ ?_⟩
    · exact ⟨_, .ref (ps[j]'(by omega)), SqT.of (h.1 _ _ hb1), by rw [List.getElem?_map, List.getElem?_eq_getElem (show j < ps.length by omega)]; rfl⟩
    · exact ⟨_, SqT.of (h.1 _ _ hb1), by rw [List.length_map]; omega⟩
    · rintro j x H2 H3 hj ⟨sm, qs, hE2, hqs, hE0⟩ ⟨rfl, fx⟩
      have ex := fx _ (SqT.of (sm _ _ hb1))
      obtain ⟨p, hp1, hp2⟩ := hp.get j Fs[j] (List.getElem?_eq_getElem hj)
      rw [List.getElem?_map, hp1] at ex
      have ex1 : V.ref p = x := Option.some.inj ex
      subst ex1
      have hpp := sm _ _ (sm1 _ _ hp2)
      have hD3 := sm _ _ hD1
      obtain ⟨hlt, hn2⟩ := hc.co.lt _ (List.getElem_mem hj)
      refine ⟨p, _, rfl, SqT.of hpp, rfl, _, _, rfl, _, [], rfl, rfl, rfl, ?_⟩
      refine ⟨_, rfl, _, rfl, D, _, _, _, rfl, rfl, SqL.of hD3, atI_nat (place_at (by omega)), _, rfl, _, rfl, D, _, _, _, rfl, rfl, SqL.of hD3, atI_nat (place_at (by omega)), _, _, rfl, ?_⟩
      refine ⟨_, rfl, _, rfl, D, _, _, _, rfl, rfl, SqL.of hD3, atI_nat (place_at (by omega)), _, rfl, _, rfl, D, _, _, _, rfl, rfl, SqL.of hD3, atI_nat (place_at (by omega)), _, _, rfl, ?_⟩
      rw [min_int, max_int]
      refine ⟨two_line, fun c hcn => ?_⟩
      rw [take_map_succ hj]
      exact pair_step (f := OW.nm t Fs[j]) sm (sameNew hcn) hE0 hE2 hqs upd_same (by rw [List.length_map, List.length_take]; omega)
    rintro H2 ⟨sm, qs, hE2, hqs, hE0⟩
    rw [List.take_of_length_le (Nat.le_refl _)] at hqs
    refine ⟨_, rfl, a, _, _, .int n, rfl, rfl, SqT.of (sm _ _ ha1), atI_nat (j := 0) rfl, ?_⟩
    refine ⟨_, rfl, E, qs.map V.ref, kH H2, rfl, SqL.of hE2, hqs.ks, fun ys p srt stb np => ?_⟩
    obtain ⟨qs', G', rfl, hG, pmG, srtG⟩ := sorted_pairs hqs srt stb.perm
    have eG := OW.rn_one pmG srtG
    subst eG
    refine ⟨p, _, rfl, .inl ⟨SqL.of upd_same, fun c hcn => ?_⟩⟩
    refine ⟨two_line, fun r hr => ?_⟩
    exact q _ _ ((sm1.trans sm).trans (sameUp (sameUp (sameNew np) (up_none hcn)) (up_none (up_none hr)))) (co_made hG (sameNew np) hcn hr)
end
end OWP
end
section
namespace OWP
open PySem PySem.Spec PyProof.Rows L2 OWK
section
variable {P : Program} {w : World} {K : PySem.W.Frag} {mg : Str → Option Value} {base : Heap}
theorem sc__law_moved : FnScope ["_law_company_here", "_law_names", "_law_kind_here", "_law_sign"] ["_law_company_here", "_law_names", "_law_kind_here"] (defScope lMoved) := ⟨rfl, rfl, rfl, by decide +kernel, rfl, by decide +kernel, by decide +kernel⟩
theorem ok__law_moved (D : DefAt K mg "_law_moved" lMoved) (T : Free mg) (O__law_kind : OkAt P w K mg base 2 "_law_kind" ["_law_company_here", "_law_word_here"] sp_kind) :
    OkAt P w K mg base 3 "_law_moved" ["_law_company_here", "_law_names", "_law_kind_here"] sp_moved := by
  obtain ⟨f, fd, g, F⟩ := D
  obtain ⟨f__law_kind, fd__law_kind, g__law_kind, k__law_kind, b__law_kind, G__law_kind⟩ := O__law_kind
  obtain ⟨tA, hA⟩ := T.alpha
  obtain ⟨tM, hM⟩ := T.most
  refine ⟨f, fd, g, F.kp, F.binds (ps := ["_law_company_here", "_law_names", "_law_kind_here"]) (fun _ _ _ _ _ _ us hl => match us, hl with | [_, _, _], _ => rfl), ?_⟩
  refine F.ok sc__law_moved (fun vs H Q E h => ?_) (fun cdv A outer s H vs Q E hr h => ?_)
  · obtain ⟨_, _, _, _, _, rfl, _⟩ := h
    rfl
  · have nd := sc__law_moved.nd
    obtain ⟨a, n, Fs, t, k, rfl, hc, ⟨ht1, ht2, ht3⟩, hk, hkl, q⟩ := h
    refine ⟨_, (pss_one (ps_ret (pe_call G__law_kind (hr.mono (j := 2) (by decide)) (by rfl) g__law_kind k__law_kind b__law_kind .nil pass0 (pa_cons (pv 0) (pa_cons (pe_join pe_str (pe_lc (own := [("_law_sign", 3)]) (g := gName 3) (tt := tYes) rfl nd (pi_str (pv 2)) (blkOk_by (own := [("_law_sign", 3)]) (N := ["_law_company_here", "_law_names", "_law_kind_here", "_law_sign"]) (sc := defScope lMoved) (by decide +kernel)) (fun _ _ _ _ _ => (pg_name (i := 3) nd rfl (Or.inl rfl))) (fun _ _ _ _ _ => pts_nil) (fun _ _ _ _ _ => (pe_ix ix_str (pv 1) (pe_m1 PySem.F.slot_str_index PySem.F.type_str_index mt_sindex pe_str (pv 3)) (fun _ _ => rfl))))) pa_nil))))), ?_⟩
    have hn7 := hc.most
    refine ⟨_, rfl, ⟨_, rfl⟩, _, rfl, tx k, rfl, fun D hD => lc_gen (n := k.length) (fun j H' => Same H H' ∧ H' D = some (.lst ((k.take j).map fun i => V.str (tx [t.getD i 0])))) ⟨sameNew hD, upd_same⟩ (fun j H' hj _ => ?_) (fun H' _ => ?_) ?_ ?_⟩
    · show j < (tx k).cps.size
      rw [tx_size]; exact hj
    · show (tx k).cps.size ≤ k.length
      rw [tx_size]; exact Nat.le_refl _
    · rintro j x H1 H2 hj ⟨sm, hD1⟩ ⟨rfl, c, hcx, rfl⟩
      have hc' : c = k[j] + 97 := by
        rw [← Array.getElem?_toList, tx_list, List.getElem?_map, List.getElem?_eq_getElem hj] at hcx
        exact (Option.some.inj hcx).symm
      subst hc'
      have hkj := hk _ (List.getElem_mem hj)
      obtain ⟨r, hr2⟩ := index_alpha (i := k[j]) (by omega)
      have htl : k[j] < t.length := by omega
      refine ⟨rfl, _, rfl, ⟨_, rfl⟩, _, rfl, _, _, k[j], r, rfl, rfl, hr2, _, _, t[k[j]] + 97, rfl, rfl, tx_line (by omega), tx_at htl, _, hD1, by rw [List.length_map, List.length_take]; exact lt_line (by omega), sameUp sm hD, ?_⟩
      rw [upd_same, List.take_add_one, List.getElem?_eq_getElem hj, List.map_append]
      show _ = some (HO.lst (_ ++ [V.str (tx [t.getD k[j] 0])]))
      rw [OW.getD_at htl]
      rfl
    rintro H1 ⟨sm1, hD1⟩
    rw [List.take_length] at hD1
    have e1 : (k.map fun i => V.str (tx [t.getD i 0])) = ((OW.move t k).map fun i => tx [i]).map V.str := by
      unfold OW.move
      rw [List.map_map, List.map_map]
      rfl
    rw [e1] at hD1
    have hml : (OW.move t k).length = k.length := by unfold OW.move; rw [List.length_map]
    have hmlt : ∀ x ∈ OW.move t k, x < n := fun x hx => by
      obtain ⟨i, hi, rfl⟩ := List.mem_map.mp hx
      have hil : i < t.length := by have := hk i hi; omega
      rw [OW.getD_at hil]
      exact ht3 _ (List.getElem_mem hil)
    refine ⟨"", D, _, rfl, rfl, .inl (SqL.of hD1), by rw [sum_ones]; omega, ?_⟩
    rw [join_letters]
    exact ⟨a, n, Fs, OW.move t k, rfl, hc.keep sm1, hmlt, by omega, fun H2 sm2 => q H2 (sm1.trans sm2)⟩
end
end OWP
end
section
namespace OWP
open PySem PySem.Spec PyProof.Rows L2 OWK
section
variable {P : Program} {w : World} {K : PySem.W.Frag} {mg : Str → Option Value} {base : Heap}
theorem sc_law : FnScope ["_law_script", "_law_row", "_law_company_here", "_law_orders_here", "_law_kind_here", "_law_names", "_law_own", "_law_told"] ["_law_script"] (defScope lLaw) := ⟨rfl, rfl, rfl, by decide +kernel, rfl, by decide +kernel, by decide +kernel⟩
theorem ok_law {f : Addr} {fd : FuncData} (F : Fun K "law" "law" lLaw f fd) (T : Free mg) (O__law_company : OkAt P w K mg base 2 "_law_company" ["_law_row", "_law_most"] (sp_company K)) (O__law_pick : OkAt P w K mg base 2 "_law_pick" ["_law_row", "_law_things"] (sp_pick K)) (O__law_alike : OkAt P w K mg base 4 "_law_alike" ["_law_found", "_law_due"] (sp_lalike K 3)) (O__law_orders : OkAt P w K mg base 1 "_law_orders" ["_law_letters"] sp_orders) (O__law_drawn_kind : OkAt P w K mg base 3 "_law_drawn_kind" ["_law_row", "_law_company_here"] (sp_drawn K)) (O_least_name : OkAt P w K mg base 4 "least_name" ["company"] sp_least_name) (O_renamed : OkAt P w K mg base 4 "renamed" ["company", "names"] sp_renamed) (O__law_renamed : OkAt P w K mg base 1 "_law_renamed" ["_law_company_here", "_law_names"] sp_lrenamed) (O_own_names : OkAt P w K mg base 4 "own_names" ["company"] sp_own_names) (O_alike : OkAt P w K mg base 4 "alike" ["company", "kind"] sp_alike) (O__law_moved : OkAt P w K mg base 3 "_law_moved" ["_law_company_here", "_law_names", "_law_kind_here"] sp_moved) :
    FnOk P w K mg base CX0 6 f fd ["_law_script"] (sp_law K) := by
  obtain ⟨f__law_company, fd__law_company, g__law_company, k__law_company, b__law_company, G__law_company⟩ := O__law_company
  obtain ⟨f__law_pick, fd__law_pick, g__law_pick, k__law_pick, b__law_pick, G__law_pick⟩ := O__law_pick
  obtain ⟨f__law_alike, fd__law_alike, g__law_alike, k__law_alike, b__law_alike, G__law_alike⟩ := O__law_alike
  obtain ⟨f__law_orders, fd__law_orders, g__law_orders, k__law_orders, b__law_orders, G__law_orders⟩ := O__law_orders
  obtain ⟨f__law_drawn_kind, fd__law_drawn_kind, g__law_drawn_kind, k__law_drawn_kind, b__law_drawn_kind, G__law_drawn_kind⟩ := O__law_drawn_kind
  obtain ⟨f_least_name, fd_least_name, g_least_name, k_least_name, b_least_name, G_least_name⟩ := O_least_name
  obtain ⟨f_renamed, fd_renamed, g_renamed, k_renamed, b_renamed, G_renamed⟩ := O_renamed
  obtain ⟨f__law_renamed, fd__law_renamed, g__law_renamed, k__law_renamed, b__law_renamed, G__law_renamed⟩ := O__law_renamed
  obtain ⟨f_own_names, fd_own_names, g_own_names, k_own_names, b_own_names, G_own_names⟩ := O_own_names
  obtain ⟨f_alike, fd_alike, g_alike, k_alike, b_alike, G_alike⟩ := O_alike
  obtain ⟨f__law_moved, fd__law_moved, g__law_moved, k__law_moved, b__law_moved, G__law_moved⟩ := O__law_moved
  obtain ⟨tA, hA⟩ := T.alpha
  obtain ⟨tM, hM⟩ := T.most
  refine F.ok sc_law (fun vs H Q E h => ?_) (fun cdv A outer s H vs Q E hr h => ?_)
  · obtain ⟨_, _, rfl, _⟩ := h
    rfl
  · have nd := sc_law.nd
    obtain ⟨sc, ns, rfl, hsc, hl63, q⟩ := h
    refine ⟨_, (pss_cons (ps_set (i := 1) nd rfl (Or.inl rfl) (pe_lst (pa_cons (pv 0) (pa_cons pe_int (pa_cons pe_int (pa_cons pe_int pa_nil))))))
          (pss_cons (ps_set (i := 2) nd rfl (Or.inr rfl) (pe_call G__law_company (hr.mono (j := 2) (by decide)) (by rfl) g__law_company k__law_company b__law_company .nil pass0 (pa_cons (pv 1) (pa_cons pe_int pa_nil))))
          (pss_cons (ps_asg (pe_tup (pa_cons (pe_call G__law_orders (hr.mono (j := 1) (by decide)) (by rfl) g__law_orders k__law_orders b__law_orders .nil pass0 (pa_cons (pe_slice sl_str pe_str po_none (po_some (pe_ix (ix_tupK (K := K) rfl) (pv 2) pe_int (fun _ _ => rfl)))) pa_nil)) (pa_cons (pe_call G__law_drawn_kind (hr.mono (j := 3) (by decide)) (by rfl) g__law_drawn_kind k__law_drawn_kind b__law_drawn_kind .nil pass0 (pa_cons (pv 1) (pa_cons (pv 2) pa_nil))) pa_nil))) (pg_tup rfl (pgs_cons (pg_name (i := 3) nd rfl (Or.inl rfl)) (pgs_cons (pg_name (i := 4) nd rfl (Or.inr rfl)) pgs_nil))))
          (pss_cons (ps_set (i := 5) nd rfl (Or.inl rfl) (pe_call G__law_pick (hr.mono (j := 2) (by decide)) (by rfl) g__law_pick k__law_pick b__law_pick .nil pass0 (pa_cons (pv 1) (pa_cons (pv 3) pa_nil))))
          (pss_cons (ps_if (pt_not (pt_val (pe_call G__law_alike (hr.mono (j := 4) (by decide)) (by rfl) g__law_alike k__law_alike b__law_alike .nil pass0 (pa_cons (pe_call G_renamed (hr.mono (j := 4) (by decide)) (by rfl) g_renamed k_renamed b_renamed .nil pass0 (pa_cons (pv 2) (pa_cons (pv 5) pa_nil))) (pa_cons (pe_call G__law_renamed (hr.mono (j := 1) (by decide)) (by rfl) g__law_renamed k__law_renamed b__law_renamed .nil pass0 (pa_cons (pv 2) (pa_cons (pv 5) pa_nil))) pa_nil))))) (pss_one (ps_ret pe_bl)) pss_nil)
          (pss_cons (ps_setLc (i := 6) (own := [("_law_told", 7)]) (g := gName 7) rfl nd rfl rfl (sw_true rfl rfl rfl (by decide +kernel)) (pi_list (pv 3)) (blkOk_by (own := [("_law_told", 7)]) (N := ["_law_script", "_law_row", "_law_company_here", "_law_orders_here", "_law_kind_here", "_law_names", "_law_own", "_law_told"]) (sc := defScope lLaw) (by decide +kernel)) (fun _ _ _ _ _ => (pg_name (i := 7) nd rfl (Or.inl rfl))) (fun _ _ _ _ _ => (pts_one (pt_cmpR (op_eqDK (K := K) rfl hr.units) (pe_call G__law_renamed (hr.mono (j := 1) (by decide)) (by rfl) g__law_renamed k__law_renamed b__law_renamed .nil pass0 (pa_cons (pv 2) (pa_cons (pv 7) pa_nil))) (pv 2) (nomark _)))) (fun _ _ _ _ _ => (pv 7)))
          (pss_cons (ps_if (pt_not (pt_val (pe_call G__law_alike (hr.mono (j := 4) (by decide)) (by rfl) g__law_alike k__law_alike b__law_alike .nil pass0 (pa_cons (pe_call G_own_names (hr.mono (j := 4) (by decide)) (by rfl) g_own_names k_own_names b_own_names .nil pass0 (pa_cons (pv 2) pa_nil)) (pa_cons (pv 6) pa_nil))))) (pss_one (ps_ret pe_bl)) pss_nil)
          (pss_cons (ps_if (pt_not (pt_val (pe_call G__law_alike (hr.mono (j := 4) (by decide)) (by rfl) g__law_alike k__law_alike b__law_alike .nil pass0 (pa_cons (pe_call G_alike (hr.mono (j := 4) (by decide)) (by rfl) g_alike k_alike b_alike .nil pass0 (pa_cons (pv 2) (pa_cons (pv 4) pa_nil))) (pa_cons (pe_callB (cr_sortSet rfl (ru hr 3 (by decide))) (by rfl) T.sorted (by decide +kernel) (pa_cons (pe_callTy (cr_setS rfl) (by rfl) T.set (by decide +kernel) (pa_cons (pe_lc (own := [("_law_told", 7)]) (g := gName 7) (tt := tYes) rfl nd (pi_list (pv 6)) (blkOk_by (own := [("_law_told", 7)]) (N := ["_law_script", "_law_row", "_law_company_here", "_law_orders_here", "_law_kind_here", "_law_names", "_law_own", "_law_told"]) (sc := defScope lLaw) (by decide +kernel)) (fun _ _ _ _ _ => (pg_name (i := 7) nd rfl (Or.inl rfl))) (fun _ _ _ _ _ => pts_nil) (fun _ _ _ _ _ => (pe_call G__law_moved (hr.mono (j := 3) (by decide)) (by rfl) g__law_moved k__law_moved b__law_moved .nil pass0 (pa_cons (pv 2) (pa_cons (pv 7) (pa_cons (pv 4) pa_nil)))))) pa_nil)) pa_nil)) pa_nil))))) (pss_one (ps_ret pe_bl)) pss_nil)
          (pss_one (ps_ret (pe_call G__law_alike (hr.mono (j := 4) (by decide)) (by rfl) g__law_alike k__law_alike b__law_alike .nil pass0 (pa_cons (pe_call G_least_name (hr.mono (j := 4) (by decide)) (by rfl) g_least_name k_least_name b_least_name .nil pass0 (pa_cons (pv 2) pa_nil)) (pa_cons (pe_callB (cr_minDat rfl (ru hr 42 (by decide))) (by rfl) T.min (by decide +kernel) (pa_cons (pe_lc (own := [("_law_told", 7)]) (g := gName 7) (tt := tYes) rfl nd (pi_list (pv 3)) (blkOk_by (own := [("_law_told", 7)]) (N := ["_law_script", "_law_row", "_law_company_here", "_law_orders_here", "_law_kind_here", "_law_names", "_law_own", "_law_told"]) (sc := defScope lLaw) (by decide +kernel)) (fun _ _ _ _ _ => (pg_name (i := 7) nd rfl (Or.inl rfl))) (fun _ _ _ _ _ => pts_nil) (fun _ _ _ _ _ => (pe_call G__law_renamed (hr.mono (j := 1) (by decide)) (by rfl) g__law_renamed k__law_renamed b__law_renamed .nil pass0 (pa_cons (pv 2) (pa_cons (pv 7) pa_nil))))) pa_nil)) pa_nil))))))))))))), ?_⟩
    refine ⟨_, rfl, le_line (show 4 ≤ 100000 by decide), fun r hr0 => ?_⟩
    have ra1 : RowAt (upd H r (.lst [.ref sc, .int 0, .int 7948, .int 0])) r sc := ⟨0, 7948, 0, by decide, upd_same⟩
    have hs1 : ScrAt K (upd H r (.lst [.ref sc, .int 0, .int 7948, .int 0])) r sc := by
      have sm : Same H (upd H r (.lst [.ref sc, .int 0, .int 7948, .int 0])) := sameNew hr0
      rcases hsc with (h | ⟨o, h⟩) | h
      · exact ⟨ns, hl63, .inl (.inl (sm _ _ h)), .inl (fun e => ne_of_none h hr0 e.symm)⟩
      · exact ⟨ns, hl63, .inl (.inr ⟨o, sm _ _ h⟩), .inl (fun e => ne_of_none h hr0 e.symm)⟩
      · exact ⟨ns, hl63, .inr h, .inr fun H' => .inr h⟩
    generalize upd H r (.lst [.ref sc, .int 0, .int 7948, .int 0]) = H1 at ra1 hs1
    refine ⟨_, rfl, r, sc, rfl, ra1, hs1, fun H2 c n Fs sb2 ra2 hc2 => ?_⟩
    have hs2 := hs1.keepB sb2 ra1
    obtain ⟨b, ps, ha, hb, hp⟩ := hc2.at_
    have h5 := hc2.most
    have hn1 := hc2.one
    refine ⟨_, rfl, c, _, _, .int n, rfl, rfl, SqT.of ha, atI_nat (j := 0) rfl, _, rfl, _, rfl, alpha_len, n, congrArg (fun z => [V.str z]) (alpha_cut (by omega)), h5, fun H3 po sm3 hpo0 hpo => ?_⟩
    have ra3 := ra2.keep sm3
    have hs3 := hs2.keep sm3
    have hc3 := hc2.keep sm3
    have hpor : po ≠ r := fun e => ra2.ne hpo0 e.symm
    refine ⟨_, rfl, _, rfl, r, sc, c, n, Fs, rfl, ra3, hs3, hc3, fun H4 k sb4 ra4 hk => ⟨two_line, fun p hp => ?_⟩⟩
    have hs4 := hs3.keepB sb4 ra3
    have hc4 := hc3.keepB sb4 ra3
    have hpo4 := sb4 _ _ hpor hpo
    have sm5 : Same H4 (upd H4 p (.tup [.ref po, .str (tx k)])) := sameNew hp
    refine ⟨p, _, rfl, SqT.of upd_same, rfl, _, _, rfl, _, [], rfl, rfl, ?_⟩
    generalize upd H4 p (.tup [.ref po, .str (tx k)]) = H5 at sm5
    have hlen := ord_120 h5
    have hne : 1 ≤ (OW.ord n n).length := List.length_pos_iff.mpr (OW.ord_ne n n (Nat.le_refl _))
    refine ⟨_, rfl, _, rfl, r, sc, po, _, rfl, ra4.keep sm5, hs4.keep sm5, sm5 _ _ hpo4, hpor, by rw [List.length_map]; exact hne, by rw [List.length_map]; omega, fun H6 x sb6 ra6 hx => ?_⟩
    have hc6 := (hc4.keep sm5).keepB sb6 (ra4.keep sm5)
    have hpo6 := sb6 _ _ hpor (sm5 _ _ hpo4)
    obtain ⟨t, ht, rfl⟩ := List.mem_map.mp hx
    have hnt : NamesOk n t := OW.ord_mem ht
    have hfew := hc6.few
    have rl : ∀ t, (OW.rn Fs t).length ≤ 10000 := fun t => by rw [(OW.rn_perm Fs t).length_eq, List.length_map]; omega
    have hkl : k.length ≤ n := by
      have := OW.sub_len hk.1 (m := List.range n) (fun x hx => List.mem_range.mpr (hk.2.1 x hx))
      rwa [List.length_range] at this
    refine ⟨_, rfl, _, rfl, c, n, Fs, t, rfl, hc6, hnt, fun H7 c1 sm7 hco1 => ?_⟩
    refine ⟨_, rfl, _, rfl, c, n, Fs, t, rfl, hc6.keep sm7, hnt, fun H8 c2 sm8 hco2 => ?_⟩
    refine ⟨_, _, rfl, thru_co (hco1.keep sm8) hco2 (rl t), fun H9 sm9 => ⟨true, rfl, iteF ?_⟩⟩
    have hc9 := ((hc6.keep sm7).keep sm8).keep sm9
    have hpo9 := sm9 _ _ (sm8 _ _ (sm7 _ _ hpo6))
    refine ⟨_, rfl, po, rfl, ⟨_, SqL.of hpo9⟩, fun D hD => lc_gen (n := (OW.ord n n).length) (fun j H' => Same H9 H' ∧ H' D = some (.lst ((((OW.ord n n).take j).filter fun t => decide (OW.rn Fs t = Fs)).map wv))) ⟨sameNew hD, upd_same⟩ (fun j H' hj h => ?_) (fun H' h => ?_) ?_ ?_⟩
    · exact ⟨_, wv (OW.ord n n)[j], SqL.of (h.1 _ _ hpo9), by rw [List.getElem?_map, List.getElem?_eq_getElem hj]; rfl⟩
    · exact ⟨_, SqL.of (h.1 _ _ hpo9), by rw [List.length_map]; exact Nat.le_refl _⟩
    · rintro j x H10 H11 hj ⟨sm10, hD10⟩ ⟨rfl, fx⟩
      have ex := fx _ (SqL.of (sm10 _ _ hpo9))
      rw [List.getElem?_map, List.getElem?_eq_getElem hj] at ex
      have ex1 : wv (OW.ord n n)[j] = x := Option.some.inj ex
      subst ex1
      have hrm := OW.ord_mem (List.getElem_mem hj)
      refine ⟨rfl, _, rfl, _, rfl, c, n, Fs, (OW.ord n n)[j], rfl, hc9.keep sm10, hrm, fun H12 c3 sm12 hco3 => ?_⟩
      have hD12 := sm12 _ _ hD10
      refine ⟨_, rfl, coD n (OW.rn Fs (OW.ord n n)[j]), coD n Fs, dp_co hco3, dp_co ((hc9.keep sm10).keep sm12).at_, shaped_co _ _, shaped_co _ _, _, congrArg V.bl (eqv_co n _ _), iteC (fun hg => ?_) (fun hg => ?_)⟩
      · have hfl := List.length_filter_le (fun t => decide (OW.rn Fs t = Fs)) ((OW.ord n n).take j)
        rw [List.length_take] at hfl
        refine ⟨_, rfl, _, hD12, by rw [List.length_map]; exact lt_line (by omega), sameUp (sm10.trans sm12) hD, ?_⟩
        rw [upd_same, List.take_add_one, List.getElem?_eq_getElem hj, List.filter_append, List.map_append]
        show _ = some (HO.lst (_ ++ (List.filter _ [(OW.ord n n)[j]]).map wv))
        rw [flt_yes (P := fun t => decide (OW.rn Fs t = Fs)) (decide_eq_true hg)]
        rfl
      · refine ⟨sm10.trans sm12, ?_⟩
        rw [hD12, List.take_add_one, List.getElem?_eq_getElem hj, List.filter_append, List.map_append]
        show _ = some (HO.lst (_ ++ (List.filter _ [(OW.ord n n)[j]]).map wv))
        rw [flt_no (P := fun t => decide (OW.rn Fs t = Fs)) (decide_eq_false hg)]
        show _ = some (HO.lst (_ ++ []))
        rw [List.append_nil]
    rintro H10 ⟨sm10, hD10⟩
    rw [List.take_length, ← OW.own_eq hc9.co] at hD10
    have hc10 := hc9.keep sm10
    have hwr : ∀ rows : List OW.Wd, rows.map wv = (rows.map tx).map V.str := fun rows => by rw [List.map_map]; rfl
    have hol : (OW.own n Fs n).length ≤ 120 := by
      rw [OW.own_eq hc9.co]
      exact Nat.le_trans (List.length_filter_le _ _) hlen
    refine ⟨_, rfl, c, n, Fs, rfl, hc10, fun H11 p sm11 hp0 hp11 => ?_⟩
    refine ⟨_, rfl, .ref p, .ref D, rfl, thru_strs (xs := (OW.own n Fs n).map tx) (by rw [hp11, hwr]) (by rw [sm11 _ _ hD10, hwr]) (by rw [List.length_map]; omega), fun H12 sm12 => ⟨true, rfl, iteF ?_⟩⟩
    have hc12 := (hc10.keep sm11).keep sm12
    refine ⟨_, rfl, _, rfl, c, n, Fs, k, rfl, hc12, hk, fun H13 p2 ks sm13 nd mem hp2 => ?_⟩
    have hc13 := hc12.keep sm13
    have hD13 := sm13 _ _ (sm12 _ _ (sm11 _ _ hD10))
    refine ⟨_, rfl, D, rfl, ⟨_, SqL.of hD13⟩, fun D2 hD2 => lc_gen (n := (OW.own n Fs n).length) (fun j H' => Same H13 H' ∧ H' D2 = some (.lst ((((OW.own n Fs n).take j).map fun t => tx (OW.kindOf Fs (OW.move t k))).map V.str))) ⟨sameNew hD2, upd_same⟩ (fun j H' hj h => ?_) (fun H' h => ?_) ?_ ?_⟩
    · exact ⟨_, wv (OW.own n Fs n)[j], SqL.of (h.1 _ _ hD13), by rw [List.getElem?_map, List.getElem?_eq_getElem hj]; rfl⟩
    · exact ⟨_, SqL.of (h.1 _ _ hD13), by rw [List.length_map]; exact Nat.le_refl _⟩
    · rintro j x H14 H15 hj ⟨sm14, hD14⟩ ⟨rfl, fx⟩
      have ex := fx _ (SqL.of (sm14 _ _ hD13))
      rw [List.getElem?_map, List.getElem?_eq_getElem hj] at ex
      have ex1 : wv (OW.own n Fs n)[j] = x := Option.some.inj ex
      subst ex1
      have hrm := OW.ord_mem (own_in (List.getElem_mem hj))
      refine ⟨rfl, _, rfl, _, rfl, _, rfl, c, n, Fs, (OW.own n Fs n)[j], k, rfl, hc13.keep sm14, hrm, hk.2.1, by omega, fun H16 sm16 => ?_⟩
      refine ⟨_, sm16 _ _ hD14, by rw [List.length_map, List.length_map, List.length_take]; exact lt_line (by omega), sameUp (sm14.trans sm16) hD2, ?_⟩
      rw [upd_same, take_map_succ hj, List.map_append]
      rfl
    rintro H14 ⟨sm14, hD14⟩
    rw [List.take_length] at hD14
    refine ⟨D2, _, rfl, SqL.of hD14, by rw [List.length_map]; omega, fun a3 ha3 => ?_⟩
    refine ⟨a3, _, rfl, upd_same, by rw [List.length_map]; omega, fun ks2 p3 nd2 mem2 hp3 => ?_⟩
    have smA := (sm14.trans (sameNew ha3)).trans (sameNew hp3 (o := .lst ((sortS ks2).map V.str)))
    have hss : sortS ks = sortS ks2 := sortS_same nd nd2 fun x => (mem x).trans (mem2 x).symm
    have hkl2 : (sortS ks).length ≤ 10000 := by
      rw [(sortS_perm ks).length_eq]
      have := OW.sub_len nd (fun x hx => (mem x).mp hx)
      rw [List.length_map] at this
      omega
    refine ⟨.ref p2, .ref p3, rfl, thru_strs (xs := sortS ks) (smA _ _ hp2) (by rw [upd_same, hss]) hkl2, fun H17 sm17 => ⟨true, rfl, iteF ?_⟩⟩
    have hc17 := (hc13.keep smA).keep sm17
    have hpo17 := sm17 _ _ (smA _ _ (sm13 _ _ (sm12 _ _ (sm11 _ _ (sm10 _ _ hpo9)))))
    refine ⟨_, rfl, c, n, Fs, rfl, hc17, fun H18 c4 G1 sm18 hco4 hm4 => ?_⟩
    have hc18 := hc17.keep sm18
    have hpo18 := sm18 _ _ hpo17
    refine ⟨_, rfl, po, rfl, ⟨_, SqL.of hpo18⟩, fun D3 hD3 => lc_gen (n := (OW.ord n n).length) (fun j H' => Same H18 H' ∧ ∃ cs, H' D3 = some (.lst (cs.map V.ref)) ∧ CosAt H' n Fs cs ((OW.ord n n).take j)) ⟨sameNew hD3, [], upd_same, .nil⟩ (fun j H' hj h => ?_) (fun H' h => ?_) ?_ ?_⟩
    · exact ⟨_, wv (OW.ord n n)[j], SqL.of (h.1 _ _ hpo18), by rw [List.getElem?_map, List.getElem?_eq_getElem hj]; rfl⟩
    · exact ⟨_, SqL.of (h.1 _ _ hpo18), by rw [List.length_map]; exact Nat.le_refl _⟩
    · rintro j x H19 H20 hj ⟨sm19, cs, hD19, hcs⟩ ⟨rfl, fx⟩
      have ex := fx _ (SqL.of (sm19 _ _ hpo18))
      rw [List.getElem?_map, List.getElem?_eq_getElem hj] at ex
      have ex1 : wv (OW.ord n n)[j] = x := Option.some.inj ex
      subst ex1
      have hrm := OW.ord_mem (List.getElem_mem hj)
      refine ⟨rfl, _, rfl, _, rfl, c, n, Fs, (OW.ord n n)[j], rfl, hc18.keep sm19, hrm, fun H21 c5 sm21 hco5 => ?_⟩
      rw [List.take_add_one, List.getElem?_eq_getElem hj]
      exact cos_step sm19 sm21 hD3 hD19 hcs hco5 (by rw [List.length_take]; omega)
    rintro H19 ⟨sm19, cs, hD19, hcs⟩
    rw [List.take_length] at hcs
    obtain ⟨d, ds, h1, h2, h3, h4⟩ := min_read (K := K) hcs
    refine ⟨D3, _, d, ds, rfl, SqL.of hD19, h1, h2, h3, fun i v e1 e2 => ?_⟩
    obtain ⟨c6, G2, rfl, hco6, hm6, hl6⟩ := h4 i v e1 e2
    have hG : G1 = G2 := coD_inj (hm4.trans hm6.symm)
    subst hG
    exact ⟨.ref c4, .ref c6, rfl, thru_co (hco4.keep sm19) hco6 (by omega), fun H22 sm22 => q H22⟩
end
end OWP
end
section
namespace OWP
open PySem PySem.Spec PyProof.Rows L2 OWK
theorem defAt_mk {K : PySem.W.Frag} {h : Heap} {mg : Str → Option Value} (X : K.In h) (G : h.Ns mainGlobals mg) {x : Str} {st : Stmt} {f : Addr} {od an : Option Addr} {sl : Array (Option Value)} {oc kV dc pm cd ct : Value}
    (a : PySem.W.nsIn K mainGlobals x = some (some (.ref f))) (l : K.lookup f = some ⟨oc, od, .func (PySem.W.fnOf x x (defArgs st) (defBody st) (defScope st) .none kV dc pm an cd ct), sl⟩) (c : PySem.W.codeIn K cd x = true) (k : PySem.W.keepIn K (.ref f) = true) : DefAt K mg x st :=
  ⟨f, _, PySem.W.mg_of X G a, fun_mk (st := st) l c k⟩
theorem all_mk {l : PySem.W.OpenLaw} {w : World} {K : PySem.W.Frag} {h : Heap} {mg : Str → Option Value} {fa : Addr} (X : K.In h) (G : h.Ns mainGlobals mg) (hfa : mg "law" = some (.ref fa))
    {f0 : Addr} {od0 an0 : Option Addr} {sl0 : Array (Option Value)} {oc0 kV0 dc0 pm0 cd0 ct0 : Value}
    (a0 : PySem.W.nsIn K mainGlobals "whole" = some (some (.ref f0))) (l0 : K.lookup f0 = some ⟨oc0, od0, .func (PySem.W.fnOf "whole" "whole" (defArgs sWhole) (defBody sWhole) (defScope sWhole) .none kV0 dc0 pm0 an0 cd0 ct0), sl0⟩) (c0 : PySem.W.codeIn K cd0 "whole" = true) (k0 : PySem.W.keepIn K (.ref f0) = true)
    {f1 : Addr} {od1 an1 : Option Addr} {sl1 : Array (Option Value)} {oc1 kV1 dc1 pm1 cd1 ct1 : Value}
    (a1 : PySem.W.nsIn K mainGlobals "within" = some (some (.ref f1))) (l1 : K.lookup f1 = some ⟨oc1, od1, .func (PySem.W.fnOf "within" "within" (defArgs sWithin) (defBody sWithin) (defScope sWithin) .none kV1 dc1 pm1 an1 cd1 ct1), sl1⟩) (c1 : PySem.W.codeIn K cd1 "within" = true) (k1 : PySem.W.keepIn K (.ref f1) = true)
    {f2 : Addr} {od2 an2 : Option Addr} {sl2 : Array (Option Value)} {oc2 kV2 dc2 pm2 cd2 ct2 : Value}
    (a2 : PySem.W.nsIn K mainGlobals "tuple_of" = some (some (.ref f2))) (l2 : K.lookup f2 = some ⟨oc2, od2, .func (PySem.W.fnOf "tuple_of" "tuple_of" (defArgs sTupleOf) (defBody sTupleOf) (defScope sTupleOf) .none kV2 dc2 pm2 an2 cd2 ct2), sl2⟩) (c2 : PySem.W.codeIn K cd2 "tuple_of" = true) (k2 : PySem.W.keepIn K (.ref f2) = true)
    {f3 : Addr} {od3 an3 : Option Addr} {sl3 : Array (Option Value)} {oc3 kV3 dc3 pm3 cd3 ct3 : Value}
    (a3 : PySem.W.nsIn K mainGlobals "need_company" = some (some (.ref f3))) (l3 : K.lookup f3 = some ⟨oc3, od3, .func (PySem.W.fnOf "need_company" "need_company" (defArgs sNeedCompany) (defBody sNeedCompany) (defScope sNeedCompany) .none kV3 dc3 pm3 an3 cd3 ct3), sl3⟩) (c3 : PySem.W.codeIn K cd3 "need_company" = true) (k3 : PySem.W.keepIn K (.ref f3) = true)
    {f4 : Addr} {od4 an4 : Option Addr} {sl4 : Array (Option Value)} {oc4 kV4 dc4 pm4 cd4 ct4 : Value}
    (a4 : PySem.W.nsIn K mainGlobals "is_set" = some (some (.ref f4))) (l4 : K.lookup f4 = some ⟨oc4, od4, .func (PySem.W.fnOf "is_set" "is_set" (defArgs sIsSet) (defBody sIsSet) (defScope sIsSet) .none kV4 dc4 pm4 an4 cd4 ct4), sl4⟩) (c4 : PySem.W.codeIn K cd4 "is_set" = true) (k4 : PySem.W.keepIn K (.ref f4) = true)
    {f5 : Addr} {od5 an5 : Option Addr} {sl5 : Array (Option Value)} {oc5 kV5 dc5 pm5 cd5 ct5 : Value}
    (a5 : PySem.W.nsIn K mainGlobals "friends_of_all" = some (some (.ref f5))) (l5 : K.lookup f5 = some ⟨oc5, od5, .func (PySem.W.fnOf "friends_of_all" "friends_of_all" (defArgs sFriends) (defBody sFriends) (defScope sFriends) .none kV5 dc5 pm5 an5 cd5 ct5), sl5⟩) (c5 : PySem.W.codeIn K cd5 "friends_of_all" = true) (k5 : PySem.W.keepIn K (.ref f5) = true)
    {f6 : Addr} {od6 an6 : Option Addr} {sl6 : Array (Option Value)} {oc6 kV6 dc6 pm6 cd6 ct6 : Value}
    (a6 : PySem.W.nsIn K mainGlobals "least_order" = some (some (.ref f6))) (l6 : K.lookup f6 = some ⟨oc6, od6, .func (PySem.W.fnOf "least_order" "least_order" (defArgs sLeast) (defBody sLeast) (defScope sLeast) .none kV6 dc6 pm6 an6 cd6 ct6), sl6⟩) (c6 : PySem.W.codeIn K cd6 "least_order" = true) (k6 : PySem.W.keepIn K (.ref f6) = true)
    {f7 : Addr} {od7 an7 : Option Addr} {sl7 : Array (Option Value)} {oc7 kV7 dc7 pm7 cd7 ct7 : Value}
    (a7 : PySem.W.nsIn K mainGlobals "first_stands" = some (some (.ref f7))) (l7 : K.lookup f7 = some ⟨oc7, od7, .func (PySem.W.fnOf "first_stands" "first_stands" (defArgs sFirst) (defBody sFirst) (defScope sFirst) .none kV7 dc7 pm7 an7 cd7 ct7), sl7⟩) (c7 : PySem.W.codeIn K cd7 "first_stands" = true) (k7 : PySem.W.keepIn K (.ref f7) = true)
    {f8 : Addr} {od8 an8 : Option Addr} {sl8 : Array (Option Value)} {oc8 kV8 dc8 pm8 cd8 ct8 : Value}
    (a8 : PySem.W.nsIn K mainGlobals "is_kind" = some (some (.ref f8))) (l8 : K.lookup f8 = some ⟨oc8, od8, .func (PySem.W.fnOf "is_kind" "is_kind" (defArgs sIsKind) (defBody sIsKind) (defScope sIsKind) .none kV8 dc8 pm8 an8 cd8 ct8), sl8⟩) (c8 : PySem.W.codeIn K cd8 "is_kind" = true) (k8 : PySem.W.keepIn K (.ref f8) = true)
    {f9 : Addr} {od9 an9 : Option Addr} {sl9 : Array (Option Value)} {oc9 kV9 dc9 pm9 cd9 ct9 : Value}
    (a9 : PySem.W.nsIn K mainGlobals "need_kind" = some (some (.ref f9))) (l9 : K.lookup f9 = some ⟨oc9, od9, .func (PySem.W.fnOf "need_kind" "need_kind" (defArgs sNeedKind) (defBody sNeedKind) (defScope sNeedKind) .none kV9 dc9 pm9 an9 cd9 ct9), sl9⟩) (c9 : PySem.W.codeIn K cd9 "need_kind" = true) (k9 : PySem.W.keepIn K (.ref f9) = true)
    {f10 : Addr} {od10 an10 : Option Addr} {sl10 : Array (Option Value)} {oc10 kV10 dc10 pm10 cd10 ct10 : Value}
    (a10 : PySem.W.nsIn K mainGlobals "image_of" = some (some (.ref f10))) (l10 : K.lookup f10 = some ⟨oc10, od10, .func (PySem.W.fnOf "image_of" "image_of" (defArgs sImage) (defBody sImage) (defScope sImage) .none kV10 dc10 pm10 an10 cd10 ct10), sl10⟩) (c10 : PySem.W.codeIn K cd10 "image_of" = true) (k10 : PySem.W.keepIn K (.ref f10) = true)
    {f11 : Addr} {od11 an11 : Option Addr} {sl11 : Array (Option Value)} {oc11 kV11 dc11 pm11 cd11 ct11 : Value}
    (a11 : PySem.W.nsIn K mainGlobals "need_names" = some (some (.ref f11))) (l11 : K.lookup f11 = some ⟨oc11, od11, .func (PySem.W.fnOf "need_names" "need_names" (defArgs sNeedNames) (defBody sNeedNames) (defScope sNeedNames) .none kV11 dc11 pm11 an11 cd11 ct11), sl11⟩) (c11 : PySem.W.codeIn K cd11 "need_names" = true) (k11 : PySem.W.keepIn K (.ref f11) = true)
    {f12 : Addr} {od12 an12 : Option Addr} {sl12 : Array (Option Value)} {oc12 kV12 dc12 pm12 cd12 ct12 : Value}
    (a12 : PySem.W.nsIn K mainGlobals "renamed_of" = some (some (.ref f12))) (l12 : K.lookup f12 = some ⟨oc12, od12, .func (PySem.W.fnOf "renamed_of" "renamed_of" (defArgs sRenamedOf) (defBody sRenamedOf) (defScope sRenamedOf) .none kV12 dc12 pm12 an12 cd12 ct12), sl12⟩) (c12 : PySem.W.codeIn K cd12 "renamed_of" = true) (k12 : PySem.W.keepIn K (.ref f12) = true)
    {f13 : Addr} {od13 an13 : Option Addr} {sl13 : Array (Option Value)} {oc13 kV13 dc13 pm13 cd13 ct13 : Value}
    (a13 : PySem.W.nsIn K mainGlobals "renamed" = some (some (.ref f13))) (l13 : K.lookup f13 = some ⟨oc13, od13, .func (PySem.W.fnOf "renamed" "renamed" (defArgs sRenamed) (defBody sRenamed) (defScope sRenamed) .none kV13 dc13 pm13 an13 cd13 ct13), sl13⟩) (c13 : PySem.W.codeIn K cd13 "renamed" = true) (k13 : PySem.W.keepIn K (.ref f13) = true)
    {f14 : Addr} {od14 an14 : Option Addr} {sl14 : Array (Option Value)} {oc14 kV14 dc14 pm14 cd14 ct14 : Value}
    (a14 : PySem.W.nsIn K mainGlobals "own_names_of" = some (some (.ref f14))) (l14 : K.lookup f14 = some ⟨oc14, od14, .func (PySem.W.fnOf "own_names_of" "own_names_of" (defArgs sOwnOf) (defBody sOwnOf) (defScope sOwnOf) .none kV14 dc14 pm14 an14 cd14 ct14), sl14⟩) (c14 : PySem.W.codeIn K cd14 "own_names_of" = true) (k14 : PySem.W.keepIn K (.ref f14) = true)
    {f15 : Addr} {od15 an15 : Option Addr} {sl15 : Array (Option Value)} {oc15 kV15 dc15 pm15 cd15 ct15 : Value}
    (a15 : PySem.W.nsIn K mainGlobals "fits" = some (some (.ref f15))) (l15 : K.lookup f15 = some ⟨oc15, od15, .func (PySem.W.fnOf "fits" "fits" (defArgs sFits) (defBody sFits) (defScope sFits) .none kV15 dc15 pm15 an15 cd15 ct15), sl15⟩) (c15 : PySem.W.codeIn K cd15 "fits" = true) (k15 : PySem.W.keepIn K (.ref f15) = true)
    {f16 : Addr} {od16 an16 : Option Addr} {sl16 : Array (Option Value)} {oc16 kV16 dc16 pm16 cd16 ct16 : Value}
    (a16 : PySem.W.nsIn K mainGlobals "own_names" = some (some (.ref f16))) (l16 : K.lookup f16 = some ⟨oc16, od16, .func (PySem.W.fnOf "own_names" "own_names" (defArgs sOwn) (defBody sOwn) (defScope sOwn) .none kV16 dc16 pm16 an16 cd16 ct16), sl16⟩) (c16 : PySem.W.codeIn K cd16 "own_names" = true) (k16 : PySem.W.keepIn K (.ref f16) = true)
    {f17 : Addr} {od17 an17 : Option Addr} {sl17 : Array (Option Value)} {oc17 kV17 dc17 pm17 cd17 ct17 : Value}
    (a17 : PySem.W.nsIn K mainGlobals "alike" = some (some (.ref f17))) (l17 : K.lookup f17 = some ⟨oc17, od17, .func (PySem.W.fnOf "alike" "alike" (defArgs sAlike) (defBody sAlike) (defScope sAlike) .none kV17 dc17 pm17 an17 cd17 ct17), sl17⟩) (c17 : PySem.W.codeIn K cd17 "alike" = true) (k17 : PySem.W.keepIn K (.ref f17) = true)
    {f18 : Addr} {od18 an18 : Option Addr} {sl18 : Array (Option Value)} {oc18 kV18 dc18 pm18 cd18 ct18 : Value}
    (a18 : PySem.W.nsIn K mainGlobals "least_name" = some (some (.ref f18))) (l18 : K.lookup f18 = some ⟨oc18, od18, .func (PySem.W.fnOf "least_name" "least_name" (defArgs sLeastName) (defBody sLeastName) (defScope sLeastName) .none kV18 dc18 pm18 an18 cd18 ct18), sl18⟩) (c18 : PySem.W.codeIn K cd18 "least_name" = true) (k18 : PySem.W.keepIn K (.ref f18) = true)
    {f19 : Addr} {od19 an19 : Option Addr} {sl19 : Array (Option Value)} {oc19 kV19 dc19 pm19 cd19 ct19 : Value}
    (a19 : PySem.W.nsIn K mainGlobals "_law_taken" = some (some (.ref f19))) (l19 : K.lookup f19 = some ⟨oc19, od19, .func (PySem.W.fnOf "_law_taken" "_law_taken" (defArgs lTaken) (defBody lTaken) (defScope lTaken) .none kV19 dc19 pm19 an19 cd19 ct19), sl19⟩) (c19 : PySem.W.codeIn K cd19 "_law_taken" = true) (k19 : PySem.W.keepIn K (.ref f19) = true)
    {f20 : Addr} {od20 an20 : Option Addr} {sl20 : Array (Option Value)} {oc20 kV20 dc20 pm20 cd20 ct20 : Value}
    (a20 : PySem.W.nsIn K mainGlobals "_law_pairs" = some (some (.ref f20))) (l20 : K.lookup f20 = some ⟨oc20, od20, .func (PySem.W.fnOf "_law_pairs" "_law_pairs" (defArgs lPairs) (defBody lPairs) (defScope lPairs) .none kV20 dc20 pm20 an20 cd20 ct20), sl20⟩) (c20 : PySem.W.codeIn K cd20 "_law_pairs" = true) (k20 : PySem.W.keepIn K (.ref f20) = true)
    {f21 : Addr} {od21 an21 : Option Addr} {sl21 : Array (Option Value)} {oc21 kV21 dc21 pm21 cd21 ct21 : Value}
    (a21 : PySem.W.nsIn K mainGlobals "_law_company" = some (some (.ref f21))) (l21 : K.lookup f21 = some ⟨oc21, od21, .func (PySem.W.fnOf "_law_company" "_law_company" (defArgs lCompany) (defBody lCompany) (defScope lCompany) .none kV21 dc21 pm21 an21 cd21 ct21), sl21⟩) (c21 : PySem.W.codeIn K cd21 "_law_company" = true) (k21 : PySem.W.keepIn K (.ref f21) = true)
    {f22 : Addr} {od22 an22 : Option Addr} {sl22 : Array (Option Value)} {oc22 kV22 dc22 pm22 cd22 ct22 : Value}
    (a22 : PySem.W.nsIn K mainGlobals "_law_orders" = some (some (.ref f22))) (l22 : K.lookup f22 = some ⟨oc22, od22, .func (PySem.W.fnOf "_law_orders" "_law_orders" (defArgs lOrders) (defBody lOrders) (defScope lOrders) .none kV22 dc22 pm22 an22 cd22 ct22), sl22⟩) (c22 : PySem.W.codeIn K cd22 "_law_orders" = true) (k22 : PySem.W.keepIn K (.ref f22) = true)
    {f23 : Addr} {od23 an23 : Option Addr} {sl23 : Array (Option Value)} {oc23 kV23 dc23 pm23 cd23 ct23 : Value}
    (a23 : PySem.W.nsIn K mainGlobals "_law_firsts" = some (some (.ref f23))) (l23 : K.lookup f23 = some ⟨oc23, od23, .func (PySem.W.fnOf "_law_firsts" "_law_firsts" (defArgs lFirsts) (defBody lFirsts) (defScope lFirsts) .none kV23 dc23 pm23 an23 cd23 ct23), sl23⟩) (c23 : PySem.W.codeIn K cd23 "_law_firsts" = true) (k23 : PySem.W.keepIn K (.ref f23) = true)
    {f24 : Addr} {od24 an24 : Option Addr} {sl24 : Array (Option Value)} {oc24 kV24 dc24 pm24 cd24 ct24 : Value}
    (a24 : PySem.W.nsIn K mainGlobals "_law_friend" = some (some (.ref f24))) (l24 : K.lookup f24 = some ⟨oc24, od24, .func (PySem.W.fnOf "_law_friend" "_law_friend" (defArgs lFriend) (defBody lFriend) (defScope lFriend) .none kV24 dc24 pm24 an24 cd24 ct24), sl24⟩) (c24 : PySem.W.codeIn K cd24 "_law_friend" = true) (k24 : PySem.W.keepIn K (.ref f24) = true)
    {f25 : Addr} {od25 an25 : Option Addr} {sl25 : Array (Option Value)} {oc25 kV25 dc25 pm25 cd25 ct25 : Value}
    (a25 : PySem.W.nsIn K mainGlobals "_law_kind" = some (some (.ref f25))) (l25 : K.lookup f25 = some ⟨oc25, od25, .func (PySem.W.fnOf "_law_kind" "_law_kind" (defArgs lKind) (defBody lKind) (defScope lKind) .none kV25 dc25 pm25 an25 cd25 ct25), sl25⟩) (c25 : PySem.W.codeIn K cd25 "_law_kind" = true) (k25 : PySem.W.keepIn K (.ref f25) = true)
    {f26 : Addr} {od26 an26 : Option Addr} {sl26 : Array (Option Value)} {oc26 kV26 dc26 pm26 cd26 ct26 : Value}
    (a26 : PySem.W.nsIn K mainGlobals "_law_word" = some (some (.ref f26))) (l26 : K.lookup f26 = some ⟨oc26, od26, .func (PySem.W.fnOf "_law_word" "_law_word" (defArgs lWord) (defBody lWord) (defScope lWord) .none kV26 dc26 pm26 an26 cd26 ct26), sl26⟩) (c26 : PySem.W.codeIn K cd26 "_law_word" = true) (k26 : PySem.W.keepIn K (.ref f26) = true)
    {f27 : Addr} {od27 an27 : Option Addr} {sl27 : Array (Option Value)} {oc27 kV27 dc27 pm27 cd27 ct27 : Value}
    (a27 : PySem.W.nsIn K mainGlobals "_law_drawn_kind" = some (some (.ref f27))) (l27 : K.lookup f27 = some ⟨oc27, od27, .func (PySem.W.fnOf "_law_drawn_kind" "_law_drawn_kind" (defArgs lDrawn) (defBody lDrawn) (defScope lDrawn) .none kV27 dc27 pm27 an27 cd27 ct27), sl27⟩) (c27 : PySem.W.codeIn K cd27 "_law_drawn_kind" = true) (k27 : PySem.W.keepIn K (.ref f27) = true)
    {f28 : Addr} {od28 an28 : Option Addr} {sl28 : Array (Option Value)} {oc28 kV28 dc28 pm28 cd28 ct28 : Value}
    (a28 : PySem.W.nsIn K mainGlobals "_law_pick" = some (some (.ref f28))) (l28 : K.lookup f28 = some ⟨oc28, od28, .func (PySem.W.fnOf "_law_pick" "_law_pick" (defArgs lPick) (defBody lPick) (defScope lPick) .none kV28 dc28 pm28 an28 cd28 ct28), sl28⟩) (c28 : PySem.W.codeIn K cd28 "_law_pick" = true) (k28 : PySem.W.keepIn K (.ref f28) = true)
    {f29 : Addr} {od29 an29 : Option Addr} {sl29 : Array (Option Value)} {oc29 kV29 dc29 pm29 cd29 ct29 : Value}
    (a29 : PySem.W.nsIn K mainGlobals "_law_alike" = some (some (.ref f29))) (l29 : K.lookup f29 = some ⟨oc29, od29, .func (PySem.W.fnOf "_law_alike" "_law_alike" (defArgs lAlike) (defBody lAlike) (defScope lAlike) .none kV29 dc29 pm29 an29 cd29 ct29), sl29⟩) (c29 : PySem.W.codeIn K cd29 "_law_alike" = true) (k29 : PySem.W.keepIn K (.ref f29) = true)
    {f30 : Addr} {od30 an30 : Option Addr} {sl30 : Array (Option Value)} {oc30 kV30 dc30 pm30 cd30 ct30 : Value}
    (a30 : PySem.W.nsIn K mainGlobals "_law_renamed" = some (some (.ref f30))) (l30 : K.lookup f30 = some ⟨oc30, od30, .func (PySem.W.fnOf "_law_renamed" "_law_renamed" (defArgs lRenamed) (defBody lRenamed) (defScope lRenamed) .none kV30 dc30 pm30 an30 cd30 ct30), sl30⟩) (c30 : PySem.W.codeIn K cd30 "_law_renamed" = true) (k30 : PySem.W.keepIn K (.ref f30) = true)
    {f31 : Addr} {od31 an31 : Option Addr} {sl31 : Array (Option Value)} {oc31 kV31 dc31 pm31 cd31 ct31 : Value}
    (a31 : PySem.W.nsIn K mainGlobals "_law_moved" = some (some (.ref f31))) (l31 : K.lookup f31 = some ⟨oc31, od31, .func (PySem.W.fnOf "_law_moved" "_law_moved" (defArgs lMoved) (defBody lMoved) (defScope lMoved) .none kV31 dc31 pm31 an31 cd31 ct31), sl31⟩) (c31 : PySem.W.codeIn K cd31 "_law_moved" = true) (k31 : PySem.W.keepIn K (.ref f31) = true)
    {f32 : Addr} {od32 an32 : Option Addr} {sl32 : Array (Option Value)} {oc32 kV32 dc32 pm32 cd32 ct32 : Value}
    (a32 : PySem.W.nsIn K mainGlobals "law" = some (some (.ref f32))) (l32 : K.lookup f32 = some ⟨oc32, od32, .func (PySem.W.fnOf "law" "law" (defArgs lLaw) (defBody lLaw) (defScope lLaw) .none kV32 dc32 pm32 an32 cd32 ct32), sl32⟩) (c32 : PySem.W.codeIn K cd32 "law" = true) (k32 : PySem.W.keepIn K (.ref f32) = true)
    (z0 : PySem.W.nsIn K mainGlobals "isinstance" = some none)
    (z1 : PySem.W.nsIn K mainGlobals "int" = some none)
    (z2 : PySem.W.nsIn K mainGlobals "bool" = some none)
    (z3 : PySem.W.nsIn K mainGlobals "str" = some none)
    (z4 : PySem.W.nsIn K mainGlobals "tuple" = some none)
    (z5 : PySem.W.nsIn K mainGlobals "list" = some none)
    (z6 : PySem.W.nsIn K mainGlobals "len" = some none)
    (z7 : PySem.W.nsIn K mainGlobals "enumerate" = some none)
    (z8 : PySem.W.nsIn K mainGlobals "all" = some none)
    (z9 : PySem.W.nsIn K mainGlobals "range" = some none)
    (z10 : PySem.W.nsIn K mainGlobals "sorted" = some none)
    (z11 : PySem.W.nsIn K mainGlobals "min" = some none)
    (z12 : PySem.W.nsIn K mainGlobals "max" = some none)
    (z13 : PySem.W.nsIn K mainGlobals "set" = some none)
    {tA tM : Tok} (zA : PySem.W.nsIn K mainGlobals "ALPHABET" = some (some (.str "abcdefg" tA))) (zM : PySem.W.nsIn K mainGlobals "MOST_LETTERS" = some (some (.int 7 tM))) :
    ∃ fd : FuncData, (∀ (s : Shared) (v : Value), BindsTo s fd ⟨[v], []⟩ [("_law_script", v)]) ∧ ∀ base : Heap, K.In base → base.Ns mainGlobals mg → FnOk l.prog w K mg base CX0 6 fa fd ["_law_script"] (sp_law K) := by
  have e := hfa.symm.trans (PySem.W.mg_of X G a32)
  cases e
  have T : Free mg := ⟨PySem.W.mg_none_of X G z0, PySem.W.mg_none_of X G z1, PySem.W.mg_none_of X G z2, PySem.W.mg_none_of X G z3, PySem.W.mg_none_of X G z4, PySem.W.mg_none_of X G z5, PySem.W.mg_none_of X G z6, PySem.W.mg_none_of X G z7, PySem.W.mg_none_of X G z8, PySem.W.mg_none_of X G z9, PySem.W.mg_none_of X G z10, PySem.W.mg_none_of X G z11, PySem.W.mg_none_of X G z12, PySem.W.mg_none_of X G z13, ⟨tA, PySem.W.mg_of X G zA⟩, ⟨tM, PySem.W.mg_of X G zM⟩⟩
  have D_whole := defAt_mk (st := sWhole) X G a0 l0 c0 k0
  have D_within := defAt_mk (st := sWithin) X G a1 l1 c1 k1
  have D_tuple_of := defAt_mk (st := sTupleOf) X G a2 l2 c2 k2
  have D_need_company := defAt_mk (st := sNeedCompany) X G a3 l3 c3 k3
  have D_is_set := defAt_mk (st := sIsSet) X G a4 l4 c4 k4
  have D_friends_of_all := defAt_mk (st := sFriends) X G a5 l5 c5 k5
  have D_least_order := defAt_mk (st := sLeast) X G a6 l6 c6 k6
  have D_first_stands := defAt_mk (st := sFirst) X G a7 l7 c7 k7
  have D_is_kind := defAt_mk (st := sIsKind) X G a8 l8 c8 k8
  have D_need_kind := defAt_mk (st := sNeedKind) X G a9 l9 c9 k9
  have D_image_of := defAt_mk (st := sImage) X G a10 l10 c10 k10
  have D_need_names := defAt_mk (st := sNeedNames) X G a11 l11 c11 k11
  have D_renamed_of := defAt_mk (st := sRenamedOf) X G a12 l12 c12 k12
  have D_renamed := defAt_mk (st := sRenamed) X G a13 l13 c13 k13
  have D_own_names_of := defAt_mk (st := sOwnOf) X G a14 l14 c14 k14
  have D_fits := defAt_mk (st := sFits) X G a15 l15 c15 k15
  have D_own_names := defAt_mk (st := sOwn) X G a16 l16 c16 k16
  have D_alike := defAt_mk (st := sAlike) X G a17 l17 c17 k17
  have D_least_name := defAt_mk (st := sLeastName) X G a18 l18 c18 k18
  have D__law_taken := defAt_mk (st := lTaken) X G a19 l19 c19 k19
  have D__law_pairs := defAt_mk (st := lPairs) X G a20 l20 c20 k20
  have D__law_company := defAt_mk (st := lCompany) X G a21 l21 c21 k21
  have D__law_orders := defAt_mk (st := lOrders) X G a22 l22 c22 k22
  have D__law_firsts := defAt_mk (st := lFirsts) X G a23 l23 c23 k23
  have D__law_friend := defAt_mk (st := lFriend) X G a24 l24 c24 k24
  have D__law_kind := defAt_mk (st := lKind) X G a25 l25 c25 k25
  have D__law_word := defAt_mk (st := lWord) X G a26 l26 c26 k26
  have D__law_drawn_kind := defAt_mk (st := lDrawn) X G a27 l27 c27 k27
  have D__law_pick := defAt_mk (st := lPick) X G a28 l28 c28 k28
  have D__law_alike := defAt_mk (st := lAlike) X G a29 l29 c29 k29
  have D__law_renamed := defAt_mk (st := lRenamed) X G a30 l30 c30 k30
  have D__law_moved := defAt_mk (st := lMoved) X G a31 l31 c31 k31
  have FL := fun_mk (st := lLaw) l32 c32 k32
  refine ⟨PySem.W.fnOf "law" "law" (defArgs lLaw) (defBody lLaw) (defScope lLaw) .none kV32 dc32 pm32 an32 cd32 ct32, fun s v => .of_eq rfl, fun base _ _ => ?_⟩
  have O_whole := ok_whole (P := l.prog) (w := w) (base := base) D_whole T 
  have O_within := ok_within (P := l.prog) (w := w) (base := base) D_within O_whole
  have O_tuple_of := ok_tupleOf (P := l.prog) (w := w) (base := base) D_tuple_of T 
  have O_need_company := ok_need_company (P := l.prog) (w := w) (base := base) D_need_company T O_tuple_of O_within
  have O_is_set := ok_is_set (P := l.prog) (w := w) (base := base) D_is_set T 
  have O_friends_of_all := ok_friends_of_all (P := l.prog) (w := w) (base := base) D_friends_of_all T 
  have O_least_order := ok_least_order (P := l.prog) (w := w) (base := base) D_least_order T 
  have O_first_stands := ok_first_stands (P := l.prog) (w := w) (base := base) D_first_stands T 
  have O_is_kind := ok_is_kind (P := l.prog) (w := w) (base := base) D_is_kind T O_least_order O_is_set O_friends_of_all
  have O_need_kind := ok_need_kind (P := l.prog) (w := w) (base := base) D_need_kind T O_is_kind
  have O_fits := ok_fits (P := l.prog) (w := w) (base := base) D_fits T 
  have O_image_of := ok_image_of (P := l.prog) (w := w) (base := base) D_image_of T O_least_order O_first_stands
  have O_need_names := ok_need_names (P := l.prog) (w := w) (base := base) D_need_names T 
  have O_renamed_of := ok_renamed_of (P := l.prog) (w := w) (base := base) D_renamed_of T 
  have O_renamed := ok_renamed (P := l.prog) (w := w) (base := base) D_renamed T O_need_company O_need_names O_renamed_of
  have O_own_names_of := ok_own_names_of (P := l.prog) (w := w) (base := base) D_own_names_of T O_friends_of_all O_fits
  have O_own_names := ok_own_names (P := l.prog) (w := w) (base := base) D_own_names T O_need_company O_own_names_of
  have O_alike := ok_alike (P := l.prog) (w := w) (base := base) D_alike T O_need_company O_need_kind O_friends_of_all O_image_of O_own_names_of
  have O_least_name := ok_least_name (P := l.prog) (w := w) (base := base) D_least_name T O_need_company O_renamed_of
  have O__law_taken := ok__law_taken (P := l.prog) (w := w) (base := base) D__law_taken T 
  have O__law_pairs := ok__law_pairs (P := l.prog) (w := w) (base := base) D__law_pairs T 
  have O__law_company := ok__law_company (P := l.prog) (w := w) (base := base) D__law_company T O__law_taken O__law_pairs
  have O__law_orders := ok__law_orders (P := l.prog) (w := w) (base := base) D__law_orders T 
  have O__law_firsts := ok__law_firsts (P := l.prog) (w := w) (base := base) D__law_firsts T 
  have O__law_friend := ok__law_friend (P := l.prog) (w := w) (base := base) D__law_friend T 
  have O__law_kind := ok__law_kind (P := l.prog) (w := w) (base := base) D__law_kind T O__law_firsts O__law_friend
  have O__law_word := ok__law_word (P := l.prog) (w := w) (base := base) D__law_word T O__law_taken
  have O__law_drawn_kind := ok__law_drawn_kind (P := l.prog) (w := w) (base := base) D__law_drawn_kind T O__law_kind O__law_word O__law_taken
  have O__law_pick := ok__law_pick (P := l.prog) (w := w) (base := base) D__law_pick T O__law_taken
  have O__law_alike := ok_law_alikeS (P := l.prog) (w := w) (base := base) D__law_alike T (ok_law_alikeS D__law_alike T (ok_law_alikeS D__law_alike T (ok_law_alike0 D__law_alike T)))
  have O__law_renamed := ok__law_renamed (P := l.prog) (w := w) (base := base) D__law_renamed T 
  have O__law_moved := ok__law_moved (P := l.prog) (w := w) (base := base) D__law_moved T O__law_kind
  exact ok_law FL T O__law_company O__law_pick O__law_alike O__law_orders O__law_drawn_kind O_least_name O_renamed O__law_renamed O_own_names O_alike O__law_moved
end OWP
open PySem PySem.W PyProof.Rows
set_option maxHeartbeats 0 in
theorem PySem.Challenge.cw_oncewords_k48_whole_names_holds : PySem.Challenge.rw_oncewords_k48_whole_names.Holds := by
  w_on; o_law; k_head; (case hw => w_witness2)
  k_fill
  refine L2.walk_of (l := PySem.Challenge.rw_oncewords_k48_whole_names) (n := 63) (k := 6) (x := "_law_script") (CX := fun _ => L2.CX0) (sp := fun w => OWP.sp_law _) rfl (by decide) rfl ⟨rfl, by decide, by decide⟩ (fun w h Y => PySem.W.kIn_of Y) ?F (fun _ _ a ns hl _ hS => ⟨a, ns, rfl, hS, hl, fun _ => rfl⟩) (fun _ _ _ _ _ h => h)
  case F =>
    intro w mg fa h KX G hmg
    refine' OWP.all_mk KX G hmg ?a0 ?l0 ?c0 ?k0 ?a1 ?l1 ?c1 ?k1 ?a2 ?l2 ?c2 ?k2 ?a3 ?l3 ?c3 ?k3 ?a4 ?l4 ?c4 ?k4 ?a5 ?l5 ?c5 ?k5 ?a6 ?l6 ?c6 ?k6 ?a7 ?l7 ?c7 ?k7 ?a8 ?l8 ?c8 ?k8 ?a9 ?l9 ?c9 ?k9 ?a10 ?l10 ?c10 ?k10 ?a11 ?l11 ?c11 ?k11 ?a12 ?l12 ?c12 ?k12 ?a13 ?l13 ?c13 ?k13 ?a14 ?l14 ?c14 ?k14 ?a15 ?l15 ?c15 ?k15 ?a16 ?l16 ?c16 ?k16 ?a17 ?l17 ?c17 ?k17 ?a18 ?l18 ?c18 ?k18 ?a19 ?l19 ?c19 ?k19 ?a20 ?l20 ?c20 ?k20 ?a21 ?l21 ?c21 ?k21 ?a22 ?l22 ?c22 ?k22 ?a23 ?l23 ?c23 ?k23 ?a24 ?l24 ?c24 ?k24 ?a25 ?l25 ?c25 ?k25 ?a26 ?l26 ?c26 ?k26 ?a27 ?l27 ?c27 ?k27 ?a28 ?l28 ?c28 ?k28 ?a29 ?l29 ?c29 ?k29 ?a30 ?l30 ?c30 ?k30 ?a31 ?l31 ?c31 ?k31 ?a32 ?l32 ?c32 ?k32 ?z0 ?z1 ?z2 ?z3 ?z4 ?z5 ?z6 ?z7 ?z8 ?z9 ?z10 ?z11 ?z12 ?z13 ?zA ?zM
    (case a0 => k_is); (case l0 => k_is); (case c0 => k_is); (case k0 => k_is); (case a1 => k_is); (case l1 => k_is); (case c1 => k_is); (case k1 => k_is); (case a2 => k_is); (case l2 => k_is); (case c2 => k_is); (case k2 => k_is); (case a3 => k_is); (case l3 => k_is); (case c3 => k_is); (case k3 => k_is); (case a4 => k_is); (case l4 => k_is); (case c4 => k_is); (case k4 => k_is); (case a5 => k_is); (case l5 => k_is); (case c5 => k_is); (case k5 => k_is); (case a6 => k_is); (case l6 => k_is); (case c6 => k_is); (case k6 => k_is); (case a7 => k_is); (case l7 => k_is); (case c7 => k_is); (case k7 => k_is); (case a8 => k_is); (case l8 => k_is); (case c8 => k_is); (case k8 => k_is); (case a9 => k_is); (case l9 => k_is); (case c9 => k_is); (case k9 => k_is); (case a10 => k_is); (case l10 => k_is); (case c10 => k_is); (case k10 => k_is); (case a11 => k_is); (case l11 => k_is); (case c11 => k_is); (case k11 => k_is); (case a12 => k_is); (case l12 => k_is); (case c12 => k_is); (case k12 => k_is); (case a13 => k_is); (case l13 => k_is); (case c13 => k_is); (case k13 => k_is); (case a14 => k_is); (case l14 => k_is); (case c14 => k_is); (case k14 => k_is); (case a15 => k_is); (case l15 => k_is); (case c15 => k_is); (case k15 => k_is); (case a16 => k_is); (case l16 => k_is); (case c16 => k_is); (case k16 => k_is); (case a17 => k_is); (case l17 => k_is); (case c17 => k_is); (case k17 => k_is); (case a18 => k_is); (case l18 => k_is); (case c18 => k_is); (case k18 => k_is); (case a19 => k_is); (case l19 => k_is); (case c19 => k_is); (case k19 => k_is); (case a20 => k_is); (case l20 => k_is); (case c20 => k_is); (case k20 => k_is); (case a21 => k_is); (case l21 => k_is); (case c21 => k_is); (case k21 => k_is); (case a22 => k_is); (case l22 => k_is); (case c22 => k_is); (case k22 => k_is); (case a23 => k_is); (case l23 => k_is); (case c23 => k_is); (case k23 => k_is); (case a24 => k_is); (case l24 => k_is); (case c24 => k_is); (case k24 => k_is); (case a25 => k_is); (case l25 => k_is); (case c25 => k_is); (case k25 => k_is); (case a26 => k_is); (case l26 => k_is); (case c26 => k_is); (case k26 => k_is); (case a27 => k_is); (case l27 => k_is); (case c27 => k_is); (case k27 => k_is); (case a28 => k_is); (case l28 => k_is); (case c28 => k_is); (case k28 => k_is); (case a29 => k_is); (case l29 => k_is); (case c29 => k_is); (case k29 => k_is); (case a30 => k_is); (case l30 => k_is); (case c30 => k_is); (case k30 => k_is); (case a31 => k_is); (case l31 => k_is); (case c31 => k_is); (case k31 => k_is); (case a32 => k_is); (case l32 => k_is); (case c32 => k_is); (case k32 => k_is); (case z0 => k_is); (case z1 => k_is); (case z2 => k_is); (case z3 => k_is); (case z4 => k_is); (case z5 => k_is); (case z6 => k_is); (case z7 => k_is); (case z8 => k_is); (case z9 => k_is); (case z10 => k_is); (case z11 => k_is); (case z12 => k_is); (case z13 => k_is); (case zA => k_is); (case zM => k_is)
end
