import PyProof.Rows.All
import Wide.All
import OpenK.AllK
import Wide.FinOn
import HandS.ForMost
import KE.DataEq
import KE.KUnpackStar
import HandS.Flow
import HandS.More
import PySem.Challenge.RW_sworntypes_k03_whole_merges_and_rings
/-! The plain mathematics of merging: no program in sight. -/
set_option linter.all false
namespace Mg
section
variable {α : Type} [DecidableEq α]
/-- the lists without what is known -/
def left (lists : List (List α)) (known : List α) : List (List α) := lists.map fun l => l.filter fun x => decide (x ∉ known)
def noEmpty (ls : List (List α)) : List (List α) := ls.filter fun l => decide (l ≠ [])
def rest (lists : List (List α)) (known : List α) : List (List α) := noEmpty (left lists known)
def heads (ls : List (List α)) : List α := ls.filterMap fun l => l.head?
def canFirst (ls : List (List α)) (x : α) : Bool := ls.all fun l => decide (x ∉ l.tail)
def pick (ls : List (List α)) : Option α := (heads ls).find? (canFirst ls)
def firsts (lists : List (List α)) (known : List α) : List α := (heads (left lists known)).filter (canFirst (left lists known))
/-- strip one string off -/
def strip (x : α) (ls : List (List α)) : List (List α) := ls.map fun l => l.filter fun y => decide (y ≠ x)
theorem left_nil (lists : List (List α)) : left lists [] = lists := by
  unfold left
  have e : (fun l : List α => l.filter fun x => decide (x ∉ ([] : List α))) = id := by
    funext l
    simp
  rw [e, List.map_id]
theorem rest_nil (lists : List (List α)) : rest lists [] = noEmpty lists := by
  unfold rest
  rw [left_nil]
theorem strip_left (lists : List (List α)) (f : List α) (x : α) : strip x (left lists f) = left lists (f ++ [x]) := by
  unfold strip left
  rw [List.map_map]
  apply List.map_congr_left
  intro l _
  show (l.filter _).filter _ = l.filter _
  rw [List.filter_filter]
  apply List.filter_congr
  intro y _
  by_cases h1 : y = x <;> by_cases h2 : y ∈ f <;> simp [h1, h2]
theorem noEmpty_strip (x : α) : ∀ ls : List (List α), noEmpty (strip x (noEmpty ls)) = noEmpty (strip x ls)
  | [] => rfl
  | l :: ls => by
    have ih := noEmpty_strip x ls
    unfold noEmpty strip at ih ⊢
    cases l with
    | nil => simpa using ih
    | cons a r =>
      rw [List.filter_cons_of_pos (by simp), List.map_cons, List.map_cons]
      generalize (a :: r).filter (fun y => decide (y ≠ x)) = z
      by_cases hz : z = []
      · rw [List.filter_cons_of_neg (by simpa using hz), List.filter_cons_of_neg (by simpa using hz), ih]
      · rw [List.filter_cons_of_pos (by simpa using hz), List.filter_cons_of_pos (by simpa using hz), ih]
theorem rest_snoc (lists : List (List α)) (f : List α) (x : α) : noEmpty (strip x (rest lists f)) = rest lists (f ++ [x]) := by
  unfold rest
  rw [noEmpty_strip, strip_left]
theorem heads_noEmpty : ∀ ls : List (List α), heads (noEmpty ls) = heads ls
  | [] => rfl
  | l :: ls => by
    have ih := heads_noEmpty ls
    unfold noEmpty heads at ih ⊢
    cases l with
    | nil =>
      rw [List.filter_cons_of_neg (by simp), ih]
      rfl
    | cons a r =>
      rw [List.filter_cons_of_pos (by simp), List.filterMap_cons, List.filterMap_cons, ih]
theorem canFirst_noEmpty (x : α) : ∀ ls : List (List α), canFirst (noEmpty ls) x = canFirst ls x
  | [] => rfl
  | l :: ls => by
    have ih := canFirst_noEmpty x ls
    unfold noEmpty canFirst at ih ⊢
    cases l with
    | nil => simpa using ih
    | cons a r =>
      rw [List.filter_cons_of_pos (by simp), List.all_cons, List.all_cons, ih]
theorem firsts_head (lists : List (List α)) (f : List α) : (firsts lists f).head? = pick (rest lists f) := by
  unfold firsts pick rest
  rw [List.head?_filter, heads_noEmpty]
  have e : canFirst (noEmpty (left lists f)) = canFirst (left lists f) := by
    funext x
    exact canFirst_noEmpty x _
  rw [e]
theorem take1_of_head {x : α} : ∀ {l : List α}, l.head? = some x → l.take 1 = [x]
  | a :: r, h => by
    have e : a = x := Option.some.inj h
    subst e
    rfl
/-- the merge so far -/
inductive Run (lists : List (List α)) : List α → Prop
  | nil : Run lists []
  | snoc {f : List α} {x : α} : Run lists f → pick (rest lists f) = some x → Run lists (f ++ [x])
theorem Run.at {lists : List (List α)} {f : List α} (h : Run lists f) : ∀ (i : Nat) (x : α), f[i]? = some x → pick (rest lists (f.take i)) = some x := by
  induction h with
  | nil => intro i x h; simp at h
  | @snoc f y hf hp ih =>
    intro i x h
    by_cases hi : i < f.length
    · rw [List.getElem?_append_left hi] at h
      rw [List.take_append_of_le_length (Nat.le_of_lt hi)]
      exact ih i x h
    · have e : i = f.length := by
        have q := (List.getElem?_eq_some_iff.mp h).1
        simp at q
        omega
      subst e
      simp at h
      subst h
      simpa using hp
theorem Run.firsts {lists : List (List α)} {f : List α} (h : Run lists f) (i : Nat) (x : α) (e : f[i]? = some x) : (firsts lists (f.take i)).take 1 = [x] :=
  take1_of_head ((firsts_head lists _).trans (h.at i x e))
theorem pick_some {ws : List (List α)} {x : α} (h : pick ws = some x) : (∃ l ∈ ws, l.head? = some x) ∧ ∀ l ∈ ws, x ∉ l.tail := by
  unfold pick at h
  refine ⟨?_, ?_⟩
  · have q := List.mem_of_find?_eq_some h
    unfold heads at q
    obtain ⟨l, hl, e⟩ := List.mem_filterMap.mp q
    exact ⟨l, hl, e⟩
  · have q := List.find?_some h
    unfold canFirst at q
    rw [List.all_eq_true] at q
    intro l hl
    exact of_decide_eq_true (q l hl)
theorem mem_rest {lists : List (List α)} {f l : List α} : l ∈ rest lists f ↔ (∃ o ∈ lists, o.filter (fun x => decide (x ∉ f)) = l) ∧ l ≠ [] := by
  unfold rest noEmpty left
  rw [List.mem_filter, List.mem_map]
  simp
theorem head_split {x : α} : ∀ {l : List α}, l.head? = some x → ∃ r, l = x :: r
  | a :: r, h => ⟨r, by rw [Option.some.inj h]⟩
theorem Run.nodup {lists : List (List α)} {f : List α} (h : Run lists f) : f.Nodup := by
  induction h with
  | nil => exact List.nodup_nil
  | @snoc f y hf hp ih =>
    obtain ⟨⟨l, hl, e⟩, _⟩ := pick_some hp
    obtain ⟨⟨o, _, eo⟩, _⟩ := mem_rest.mp hl
    obtain ⟨r, er⟩ := head_split e
    have hy : y ∈ o.filter (fun x => decide (x ∉ f)) := by rw [eo, er]; exact List.mem_cons_self
    have hn : y ∉ f := of_decide_eq_true (List.mem_filter.mp hy).2
    rw [List.nodup_append]
    refine ⟨ih, by simp, fun a ha b hb => ?_⟩
    rw [List.mem_singleton.mp hb]
    rintro rfl
    exact hn ha
theorem Run.sub {lists : List (List α)} {f : List α} (h : Run lists f) : ∀ x ∈ f, ∃ l ∈ lists, x ∈ l := by
  induction h with
  | nil => intro x h; cases h
  | @snoc f y hf hp ih =>
    intro x hx
    rcases List.mem_append.mp hx with hx | hx
    · exact ih x hx
    · rw [List.mem_singleton.mp hx]
      obtain ⟨⟨l, hl, e⟩, _⟩ := pick_some hp
      obtain ⟨⟨o, ho, eo⟩, _⟩ := mem_rest.mp hl
      obtain ⟨r, er⟩ := head_split e
      have hy : y ∈ o.filter (fun x => decide (x ∉ f)) := by rw [eo, er]; exact List.mem_cons_self
      exact ⟨o, ho, (List.mem_filter.mp hy).1⟩
theorem nodup_filter {p : α → Bool} {l : List α} (h : l.Nodup) : (l.filter p).Nodup := h.sublist List.filter_sublist
theorem filter_all {p : α → Bool} {l : List α} (h : ∀ x ∈ l, p x = true) : l.filter p = l := List.filter_eq_self.mpr h
theorem Run.split {lists : List (List α)} (hnd : ∀ l ∈ lists, l.Nodup) {f : List α} (h : Run lists f) : ∀ l ∈ lists, f.filter (fun x => decide (x ∈ l)) ++ l.filter (fun x => decide (x ∉ f)) = l := by
  induction h with
  | nil => intro l _; simp
  | @snoc f y hf hp ih =>
    intro l hl
    have ihl := ih l hl
    obtain ⟨_, hnt⟩ := pick_some hp
    have hyf : y ∉ f := by
      have q := (Run.snoc hf hp).nodup
      rw [List.nodup_append] at q
      exact fun hy => q.2.2 y hy y (by simp) rfl
    by_cases hyl : y ∈ l
    · -- y heads what is left of l
      have hy : y ∈ l.filter (fun x => decide (x ∉ f)) := List.mem_filter.mpr ⟨hyl, by simpa using hyf⟩
      have hne : l.filter (fun x => decide (x ∉ f)) ≠ [] := List.ne_nil_of_mem hy
      have hr : l.filter (fun x => decide (x ∉ f)) ∈ rest lists f := mem_rest.mpr ⟨⟨l, hl, rfl⟩, hne⟩
      have hn := hnt _ hr
      have hnd2 : (l.filter (fun x => decide (x ∉ f))).Nodup := nodup_filter (hnd l hl)
      obtain ⟨a, r, er⟩ := List.exists_cons_of_ne_nil hne
      rw [er] at hy hn hnd2
      have ea : a = y := by
        rcases List.mem_cons.mp hy with q | q
        · exact q.symm
        · exact absurd q hn
      subst ea
      have hr' : a ∉ r := (List.nodup_cons.mp hnd2).1
      have e1 : (f ++ [a]).filter (fun x => decide (x ∈ l)) = f.filter (fun x => decide (x ∈ l)) ++ [a] := by
        rw [List.filter_append]
        congr 1
        rw [List.filter_cons_of_pos (by simpa using hyl)]
        rfl
      have e2 : l.filter (fun x => decide (x ∉ f ++ [a])) = r := by
        have q : l.filter (fun x => decide (x ∉ f ++ [a])) = (l.filter (fun x => decide (x ∉ f))).filter fun x => decide (x ≠ a) := by
          rw [List.filter_filter]
          apply List.filter_congr
          intro z _
          by_cases h1 : z = a <;> by_cases h2 : z ∈ f <;> simp [h1, h2]
        rw [q, er, List.filter_cons_of_neg (by simp)]
        apply filter_all
        intro z hz
        simp only [decide_eq_true_eq]
        rintro rfl
        exact hr' hz
      rw [e1, e2, List.append_assoc]
      rw [er] at ihl
      exact ihl
    · have e1 : (f ++ [y]).filter (fun x => decide (x ∈ l)) = f.filter (fun x => decide (x ∈ l)) := by
        rw [List.filter_append]
        have q : [y].filter (fun x => decide (x ∈ l)) = [] := List.filter_eq_nil_iff.mpr (by
          intro z hz
          rw [List.mem_singleton.mp hz]
          simpa using hyl)
        rw [q, List.append_nil]
      have e2 : l.filter (fun x => decide (x ∉ f ++ [y])) = l.filter (fun x => decide (x ∉ f)) := by
        apply List.filter_congr
        intro z hz
        have : z ≠ y := by rintro rfl; exact hyl hz
        by_cases h2 : z ∈ f <;> simp [this, h2]
      rw [e1, e2]
      exact ihl
/-! ### direct followers, ways, rings -/
def Adj (l : List α) (s y : α) : Prop := ∃ pre post, l = pre ++ s :: y :: post
def Edge (lists : List (List α)) (s y : α) : Prop := ∃ l ∈ lists, Adj l s y
inductive Way (R : α → α → Prop) : α → α → Prop
  | one {a b : α} : R a b → Way R a b
  | more {a b c : α} : R a b → Way R b c → Way R a c
theorem Way.trans {R : α → α → Prop} {a b c : α} (h : Way R a b) (k : Way R b c) : Way R a c := by
  induction h with
  | one r => exact .more r k
  | more r _ ih => exact .more r (ih k)
theorem Way.mono {R S : α → α → Prop} (h : ∀ a b, R a b → S a b) {a b : α} (w : Way R a b) : Way S a b := by
  induction w with
  | one r => exact .one (h _ _ r)
  | more r _ ih => exact .more (h _ _ r) ih
def Ring (R : α → α → Prop) : Prop := ∃ s, Way R s s
theorem way_in {R : α → α → Prop} : ∀ (r : List α) (x y : α), (∀ a b, Adj (x :: r) a b → R a b) → y ∈ r → Way R x y
  | [], _, _, _, h => nomatch h
  | z :: r, x, y, hR, h => by
    have hxz : R x z := hR x z ⟨[], r, rfl⟩
    rcases List.mem_cons.mp h with e | h
    · subst e; exact .one hxz
    · refine .more hxz (way_in r z y (fun a b hab => ?_) h)
      obtain ⟨pre, post, e⟩ := hab
      exact hR a b ⟨x :: pre, post, by rw [e]; rfl⟩
theorem least {R : α → α → Prop} (tr : ∀ a b c, R a b → R b c → R a c) (irr : ∀ a, ¬ R a a) : ∀ (l : List α), l ≠ [] → ∃ m ∈ l, ∀ y ∈ l, ¬ R y m
  | [], h => absurd rfl h
  | [a], _ => ⟨a, by simp, fun y hy => by rw [List.mem_singleton.mp hy]; exact irr a⟩
  | a :: b :: r, _ => by
    obtain ⟨m, hm, hmin⟩ := least tr irr (b :: r) (by simp)
    by_cases h : R a m
    · refine ⟨a, List.mem_cons_self, fun y hy hya => ?_⟩
      rcases List.mem_cons.mp hy with e | hy
      · subst e; exact irr _ hya
      · exact hmin y hy (tr _ _ _ hya h)
    · refine ⟨m, List.mem_cons_of_mem _ hm, fun y hy hym => ?_⟩
      rcases List.mem_cons.mp hy with e | hy
      · subst e; exact h hym
      · exact hmin y hy hym
/-- no string can be first: there is a ring -/
theorem stuck_ring {lists : List (List α)} (hnd : ∀ l ∈ lists, l.Nodup) {f : List α} (h : Run lists f) (hne : rest lists f ≠ []) (hp : pick (rest lists f) = none) : Ring (Edge lists) := by
  apply Classical.byContradiction
  intro hno
  have irr : ∀ a, ¬ Way (Edge lists) a a := fun a w => hno ⟨a, w⟩
  have hh : heads (rest lists f) ≠ [] := by
    obtain ⟨l, ls, e⟩ := List.exists_cons_of_ne_nil hne
    have hl : l ∈ rest lists f := by rw [e]; exact List.mem_cons_self
    obtain ⟨a, r, er⟩ := List.exists_cons_of_ne_nil (mem_rest.mp hl).2
    have : a ∈ heads (rest lists f) := List.mem_filterMap.mpr ⟨l, hl, by rw [er]; rfl⟩
    exact List.ne_nil_of_mem this
  obtain ⟨m, hm, hmin⟩ := least (R := Way (Edge lists)) (fun _ _ _ => Way.trans) irr _ hh
  unfold pick at hp
  have hc := List.find?_eq_none.mp hp m hm
  unfold canFirst at hc
  have : ∃ l ∈ rest lists f, m ∈ l.tail := by
    apply Classical.byContradiction
    intro hn
    apply hc
    rw [List.all_eq_true]
    intro l hl
    exact decide_eq_true fun ht => hn ⟨l, hl, ht⟩
  obtain ⟨l, hl, ht⟩ := this
  obtain ⟨⟨o, ho, eo⟩, hlne⟩ := mem_rest.mp hl
  obtain ⟨a, r, er⟩ := List.exists_cons_of_ne_nil hlne
  have ha : a ∈ heads (rest lists f) := List.mem_filterMap.mpr ⟨l, hl, by rw [er]; rfl⟩
  rw [er] at ht
  refine hmin a ha (way_in r a m (fun x y hxy => ?_) ht)
  obtain ⟨pre, post, e⟩ := hxy
  have hs := h.split hnd o ho
  rw [eo, er, e] at hs
  refine ⟨o, ho, f.filter (fun x => decide (x ∈ o)) ++ pre, post, ?_⟩
  rw [List.append_assoc]
  exact hs.symm
/-- all is merged -/
theorem done_all {lists : List (List α)} {f : List α} (he : rest lists f = []) : ∀ l ∈ lists, ∀ x ∈ l, x ∈ f := by
  intro l hl x hx
  apply Classical.byContradiction
  intro hn
  have hy : x ∈ l.filter (fun x => decide (x ∉ f)) := List.mem_filter.mpr ⟨hx, by simpa using hn⟩
  have hr : l.filter (fun x => decide (x ∉ f)) ∈ rest lists f := mem_rest.mpr ⟨⟨l, hl, rfl⟩, List.ne_nil_of_mem hy⟩
  rw [he] at hr
  cases hr
theorem done_line {lists : List (List α)} (hnd : ∀ l ∈ lists, l.Nodup) {f : List α} (h : Run lists f) (he : rest lists f = []) : ∀ l ∈ lists, f.filter (fun x => decide (x ∈ l)) = l := by
  intro l hl
  have hs := h.split hnd l hl
  have hn : l.filter (fun x => decide (x ∉ f)) = [] := List.filter_eq_nil_iff.mpr fun x hx => by simpa using done_all he l hl x hx
  rw [hn, List.append_nil] at hs
  exact hs
theorem before {s y : α} : ∀ {f : List α}, f.Nodup → [s, y].Sublist f → f.idxOf s < f.idxOf y
  | a :: f, hn, h => by
    obtain ⟨ha, hn'⟩ := List.nodup_cons.mp hn
    cases h with
    | cons _ h =>
      have hs : s ∈ f := h.subset (by simp)
      have hy : y ∈ f := h.subset (by simp)
      have e1 : (a == s) = false := by rw [beq_eq_false_iff_ne]; rintro rfl; exact ha hs
      have e2 : (a == y) = false := by rw [beq_eq_false_iff_ne]; rintro rfl; exact ha hy
      rw [List.idxOf_cons, List.idxOf_cons, e1, e2]
      have := before hn' h
      simpa using this
    | cons_cons _ h =>
      have hy : y ∈ f := h.subset (by simp)
      have e2 : (s == y) = false := by rw [beq_eq_false_iff_ne]; rintro rfl; exact ha hy
      rw [List.idxOf_cons, List.idxOf_cons, e2]
      simp
theorem done_no_ring {lists : List (List α)} (hnd : ∀ l ∈ lists, l.Nodup) {f : List α} (h : Run lists f) (he : rest lists f = []) : ¬ Ring (Edge lists) := by
  have key : ∀ a b, Edge lists a b → f.idxOf a < f.idxOf b := by
    rintro a b ⟨l, hl, pre, post, e⟩
    apply before h.nodup
    have h1 : [a, b].Sublist l := by
      rw [e]
      exact (((List.nil_sublist post).cons_cons b).cons_cons a).trans (List.sublist_append_right pre _)
    have h2 : l.Sublist f := by
      have := @List.filter_sublist α (fun x => decide (x ∈ l)) f
      rw [done_line hnd h he l hl] at this
      exact this
    exact h1.trans h2
  have way : ∀ a b, Way (Edge lists) a b → f.idxOf a < f.idxOf b := by
    intro a b w
    induction w with
    | one r => exact key _ _ r
    | more r _ ih => exact Nat.lt_trans (key _ _ r) ih
  rintro ⟨s, w⟩
  exact Nat.lt_irrefl _ (way s s w)
/-! ### a turn takes at least one string away -/
def size (ws : List (List α)) : Nat := (ws.map List.length).sum
theorem size_noEmpty : ∀ ws : List (List α), size (noEmpty ws) = size ws
  | [] => rfl
  | l :: ls => by
    have ih := size_noEmpty ls
    unfold size noEmpty at ih ⊢
    cases l with
    | nil => simpa using ih
    | cons a r =>
      rw [List.filter_cons_of_pos (by simp), List.map_cons, List.sum_cons, List.map_cons, List.sum_cons, ih]
theorem size_strip_le (x : α) : ∀ ws : List (List α), size (strip x ws) ≤ size ws
  | [] => Nat.le_refl _
  | l :: ls => by
    have ih := size_strip_le x ls
    unfold size strip at ih ⊢
    rw [List.map_cons, List.map_cons, List.sum_cons, List.map_cons, List.sum_cons]
    have := List.length_filter_le (fun y => decide (y ≠ x)) l
    omega
theorem filter_len_lt {x : α} : ∀ {l : List α}, x ∈ l → (l.filter fun y => decide (y ≠ x)).length < l.length
  | a :: l, h => by
    by_cases e : a = x
    · subst e
      rw [List.filter_cons_of_neg (by simp)]
      have := List.length_filter_le (fun y => decide (y ≠ a)) l
      simp only [List.length_cons]
      omega
    · rw [List.filter_cons_of_pos (by simpa using e)]
      have := filter_len_lt (l := l) (by
        rcases List.mem_cons.mp h with q | q
        · exact absurd q.symm e
        · exact q)
      simp only [List.length_cons]
      omega
theorem size_strip {x : α} : ∀ {ws : List (List α)}, (∃ l ∈ ws, x ∈ l) → size (strip x ws) < size ws
  | [], ⟨_, h, _⟩ => nomatch h
  | l :: ls, ⟨k, hk, hx⟩ => by
    unfold size strip
    rw [List.map_cons, List.map_cons, List.sum_cons, List.map_cons, List.sum_cons]
    have h1 := List.length_filter_le (fun y => decide (y ≠ x)) l
    have h2 := size_strip_le x ls
    unfold size strip at h2
    rcases List.mem_cons.mp hk with e | hk
    · subst e
      have := filter_len_lt hx
      omega
    · have := size_strip (x := x) (ws := ls) ⟨k, hk, hx⟩
      unfold size strip at this
      omega
theorem size_rest {lists : List (List α)} {f : List α} {x : α} (h : pick (rest lists f) = some x) : size (rest lists (f ++ [x])) < size (rest lists f) := by
  rw [← rest_snoc, size_noEmpty]
  apply size_strip
  obtain ⟨⟨l, hl, e⟩, _⟩ := pick_some h
  obtain ⟨r, er⟩ := head_split e
  exact ⟨l, hl, by rw [er]; exact List.mem_cons_self⟩
theorem Run.len {lists : List (List α)} {f : List α} (h : Run lists f) : f.length + size (rest lists f) ≤ size lists := by
  induction h with
  | nil =>
    rw [rest_nil, size_noEmpty]
    simp
  | @snoc f x hf hp ih =>
    have := size_rest hp
    rw [List.length_append, List.length_singleton]
    omega
/-- the first one that can be first, found at the i-th list -/
theorem pick_at {ws : List (List α)} {i : Nat} {x : α} {r : List α} (hne : ∀ l ∈ ws, l ≠ []) (hi : ws[i]? = some (x :: r)) (hx : canFirst ws x = true)
    (hb : ∀ (j : Nat) y s, j < i → ws[j]? = some (y :: s) → canFirst ws y = false) : pick ws = some x := by
  unfold pick
  have key : ∀ (p : α → Bool) (ls : List (List α)) (i : Nat), (∀ l ∈ ls, l ≠ []) → ls[i]? = some (x :: r) → p x = true → (∀ (j : Nat) y s, j < i → ls[j]? = some (y :: s) → p y = false) → (heads ls).find? p = some x := by
    intro p ls
    induction ls with
    | nil => intro i _ h; simp at h
    | cons l ls ih =>
      intro i hne hi hx hb
      obtain ⟨a, t, e⟩ := List.exists_cons_of_ne_nil (hne l List.mem_cons_self)
      subst e
      show (a :: heads ls).find? p = some x
      cases i with
      | zero =>
        have e : a :: t = x :: r := Option.some.inj hi
        injection e with e1 _
        subst e1
        rw [List.find?_cons_of_pos hx]
      | succ i =>
        have h0 := hb 0 a t (Nat.succ_pos i) rfl
        rw [List.find?_cons_of_neg (by rw [h0]; exact Bool.false_ne_true)]
        exact ih i (fun l hl => hne l (List.mem_cons_of_mem _ hl)) hi hx fun j y s hj hy => hb (j + 1) y s (Nat.succ_lt_succ hj) hy
  exact key _ ws i hne hi hx hb
theorem pick_none {ws : List (List α)} (hb : ∀ (j : Nat) y s, ws[j]? = some (y :: s) → canFirst ws y = false) : pick ws = none := by
  unfold pick
  rw [List.find?_eq_none]
  intro y hy
  obtain ⟨l, hl, e⟩ := List.mem_filterMap.mp hy
  obtain ⟨s, e⟩ := head_split e
  subst e
  obtain ⟨j, hj⟩ := List.getElem?_of_mem hl
  rw [hb j y s hj]
  exact Bool.false_ne_true
theorem len_size {ls : List (List α)} {l : List α} (h : l ∈ ls) : l.length ≤ size ls := by
  induction ls with
  | nil => cases h
  | cons a ls ih =>
    unfold size at ih ⊢
    rw [List.map_cons, List.sum_cons]
    rcases List.mem_cons.mp h with e | h
    · subst e; omega
    · have := ih h; omega
theorem rest_ne {lists : List (List α)} {f : List α} : ∀ l ∈ rest lists f, l ≠ [] := fun l hl => (mem_rest.mp hl).2
/-! ### which strings come directly behind which, by events -/
def evs : List α → List (α × List α)
  | [] => []
  | x :: r => (x, r.take 1) :: evs r
def events (lists : List (List α)) : List (α × List α) := (lists.map evs).flatten
def succ (es : List (α × List α)) (s : α) : List α := ((es.filter fun e => decide (e.1 = s)).map (·.2)).flatten
def addKey (ks : List α) (e : α × List α) : List α := if e.1 ∈ ks then ks else ks ++ [e.1]
def keys (es : List (α × List α)) : List α := es.foldl addKey []
theorem keys_snoc (es : List (α × List α)) (e : α × List α) : keys (es ++ [e]) = addKey (keys es) e := by
  unfold keys
  rw [List.foldl_append]
  rfl
theorem snoc_ind {β : Type} {p : List β → Prop} (h0 : p []) (h1 : ∀ l x, p l → p (l ++ [x])) (l : List β) : p l := by
  have key : ∀ l : List β, p l.reverse := by
    intro l
    induction l with
    | nil => exact h0
    | cons x l ih =>
      rw [List.reverse_cons]
      exact h1 _ _ ih
  have := key l.reverse
  rwa [List.reverse_reverse] at this
theorem mem_keys (es : List (α × List α)) : ∀ s, s ∈ keys es ↔ ∃ e ∈ es, e.1 = s := by
  refine snoc_ind (p := fun es : List (α × List α) => ∀ s, s ∈ keys es ↔ ∃ e ∈ es, e.1 = s) (fun s => ?_) (fun es e ih s => ?_) es
  · simp [keys]
  · rw [keys_snoc]
    unfold addKey
    constructor
    · intro h
      by_cases c : e.1 ∈ keys es
      · rw [if_pos c] at h
        obtain ⟨f, hf, he⟩ := (ih s).mp h
        exact ⟨f, List.mem_append_left _ hf, he⟩
      · rw [if_neg c] at h
        rcases List.mem_append.mp h with h | h
        · obtain ⟨f, hf, he⟩ := (ih s).mp h
          exact ⟨f, List.mem_append_left _ hf, he⟩
        · exact ⟨e, by simp, (List.mem_singleton.mp h).symm⟩
    · rintro ⟨f, hf, he⟩
      rcases List.mem_append.mp hf with hf | hf
      · have := (ih s).mpr ⟨f, hf, he⟩
        by_cases c : e.1 ∈ keys es
        · rw [if_pos c]; exact this
        · rw [if_neg c]; exact List.mem_append_left _ this
      · rw [List.mem_singleton.mp hf] at he
        subst he
        by_cases c : e.1 ∈ keys es
        · rw [if_pos c]; exact c
        · rw [if_neg c]; simp
theorem keys_nodup (es : List (α × List α)) : (keys es).Nodup := by
  refine snoc_ind (p := fun es : List (α × List α) => (keys es).Nodup) List.nodup_nil (fun es e ih => ?_) es
  rw [keys_snoc]
  unfold addKey
  by_cases c : e.1 ∈ keys es
  · rw [if_pos c]; exact ih
  · rw [if_neg c, List.nodup_append]
    refine ⟨ih, by simp, fun a ha b hb => ?_⟩
    rw [List.mem_singleton.mp hb]
    rintro rfl
    exact c ha
theorem keys_len (es : List (α × List α)) : (keys es).length ≤ es.length := by
  refine snoc_ind (p := fun es : List (α × List α) => (keys es).length ≤ es.length) (Nat.le_refl _) (fun es e ih => ?_) es
  rw [keys_snoc, List.length_append, List.length_singleton]
  unfold addKey
  by_cases c : e.1 ∈ keys es
  · rw [if_pos c]; omega
  · rw [if_neg c, List.length_append, List.length_singleton]; omega
theorem succ_snoc (es : List (α × List α)) (e : α × List α) (s : α) : succ (es ++ [e]) s = succ es s ++ if e.1 = s then e.2 else [] := by
  unfold succ
  rw [List.filter_append, List.map_append, List.flatten_append]
  congr 1
  by_cases c : e.1 = s
  · rw [if_pos c, List.filter_cons_of_pos (by simpa using c)]
    simp
  · rw [if_neg c, List.filter_cons_of_neg (by simpa using c)]
    simp
theorem succ_out {es : List (α × List α)} {s : α} (h : s ∉ keys es) : succ es s = [] := by
  unfold succ
  have e : es.filter (fun e => decide (e.1 = s)) = [] := List.filter_eq_nil_iff.mpr fun e he hs => h ((mem_keys es s).mpr ⟨e, he, of_decide_eq_true hs⟩)
  rw [e]
  rfl
theorem mem_succ {es : List (α × List α)} {s y : α} : y ∈ succ es s ↔ ∃ e ∈ es, e.1 = s ∧ y ∈ e.2 := by
  unfold succ
  rw [List.mem_flatten]
  constructor
  · rintro ⟨l, hl, hy⟩
    obtain ⟨e, he, rfl⟩ := List.mem_map.mp hl
    obtain ⟨h1, h2⟩ := List.mem_filter.mp he
    exact ⟨e, h1, of_decide_eq_true h2, hy⟩
  · rintro ⟨e, he, hs, hy⟩
    exact ⟨e.2, List.mem_map.mpr ⟨e, List.mem_filter.mpr ⟨he, decide_eq_true hs⟩, rfl⟩, hy⟩
theorem succ_len {es : List (α × List α)} (h : ∀ e ∈ es, e.2.length ≤ 1) (s : α) : (succ es s).length ≤ es.length := by
  unfold succ
  rw [List.length_flatten, List.map_map]
  have key : ∀ l : List (α × List α), (∀ e ∈ l, e.2.length ≤ 1) → (l.map (List.length ∘ (·.2))).sum ≤ l.length := by
    intro l
    induction l with
    | nil => intro _; simp
    | cons e l ih =>
      intro hl
      have h1 := hl e List.mem_cons_self
      have h2 := ih fun x hx => hl x (List.mem_cons_of_mem _ hx)
      rw [List.map_cons, List.sum_cons, List.length_cons]
      show e.2.length + _ ≤ _
      omega
  refine Nat.le_trans (key _ fun e he => h e (List.mem_filter.mp he).1) ?_
  exact List.length_filter_le _ _
theorem evs_len : ∀ l : List α, (evs l).length = l.length
  | [] => rfl
  | x :: r => by
    show (evs r).length + 1 = r.length + 1
    rw [evs_len r]
theorem evs_at : ∀ (l : List α) (i : Nat) (x : α), l[i]? = some x → (evs l)[i]? = some (x, (l.drop (i + 1)).take 1)
  | [], _, _, h => by simp at h
  | a :: r, 0, x, h => by
    have e : a = x := Option.some.inj h
    subst e
    rfl
  | a :: r, i + 1, x, h => evs_at r i x h
theorem evs_one : ∀ (l : List α), ∀ e ∈ evs l, e.2.length ≤ 1
  | [], e, h => nomatch h
  | x :: r, e, h => by
    rcases List.mem_cons.mp h with q | q
    · rw [q]
      show (r.take 1).length ≤ 1
      rw [List.length_take]
      omega
    · exact evs_one r e q
theorem events_one (lists : List (List α)) : ∀ e ∈ events lists, e.2.length ≤ 1 := by
  intro e he
  obtain ⟨l, hl, h⟩ := List.mem_flatten.mp he
  obtain ⟨o, _, rfl⟩ := List.mem_map.mp hl
  exact evs_one o e h
theorem events_len (lists : List (List α)) : (events lists).length = size lists := by
  unfold events size
  rw [List.length_flatten, List.map_map]
  congr 1
  apply List.map_congr_left
  intro l _
  exact evs_len l
theorem events_snoc (lists : List (List α)) (l : List α) : events (lists ++ [l]) = events lists ++ evs l := by
  unfold events
  rw [List.map_append, List.flatten_append]
  simp
theorem evs_mem : ∀ (l : List α) (s : α) (t : List α), (s, t) ∈ evs l ↔ ∃ pre r, l = pre ++ s :: r ∧ t = r.take 1
  | [], s, t => by simp [evs]
  | x :: r, s, t => by
    constructor
    · intro h
      rcases List.mem_cons.mp h with q | q
      · injection q with q1 q2
        subst q1
        exact ⟨[], r, rfl, q2⟩
      · obtain ⟨pre, r', e, et⟩ := (evs_mem r s t).mp q
        exact ⟨x :: pre, r', by rw [e]; rfl, et⟩
    · rintro ⟨pre, r', e, et⟩
      cases pre with
      | nil =>
        injection e with e1 e2
        subst e1 e2 et
        exact List.mem_cons_self
      | cons y pre =>
        injection e with e1 e2
        exact List.mem_cons_of_mem _ ((evs_mem r s t).mpr ⟨pre, r', e2, et⟩)
theorem succ_edge (lists : List (List α)) (s y : α) : y ∈ succ (events lists) s ↔ Edge lists s y := by
  rw [mem_succ]
  constructor
  · rintro ⟨⟨s', t⟩, he, hs, hy⟩
    have hs : s' = s := hs
    subst hs
    obtain ⟨l, hl, h⟩ := List.mem_flatten.mp he
    obtain ⟨o, ho, rfl⟩ := List.mem_map.mp hl
    obtain ⟨pre, r, e, et⟩ := (evs_mem o s' t).mp h
    have hy : y ∈ t := hy
    rw [et] at hy
    cases r with
    | nil => simp at hy
    | cons z r =>
      have : y = z := by simpa using hy
      subst this
      exact ⟨o, ho, pre, r, e⟩
  · rintro ⟨l, hl, pre, post, e⟩
    refine ⟨(s, [y]), List.mem_flatten.mpr ⟨evs l, List.mem_map.mpr ⟨l, hl, rfl⟩, (evs_mem l s [y]).mpr ⟨pre, y :: post, e, rfl⟩⟩, rfl, by simp⟩
theorem keys_lists (lists : List (List α)) (s : α) : s ∈ keys (events lists) ↔ ∃ l ∈ lists, s ∈ l := by
  rw [mem_keys]
  constructor
  · rintro ⟨⟨s', t⟩, he, hs⟩
    have hs : s' = s := hs
    subst hs
    obtain ⟨l, hl, h⟩ := List.mem_flatten.mp he
    obtain ⟨o, ho, rfl⟩ := List.mem_map.mp hl
    obtain ⟨pre, r, e, _⟩ := (evs_mem o s' t).mp h
    exact ⟨o, ho, by rw [e]; simp⟩
  · rintro ⟨l, hl, hs⟩
    obtain ⟨pre, r, e⟩ := List.append_of_mem hs
    exact ⟨(s, r.take 1), List.mem_flatten.mpr ⟨evs l, List.mem_map.mpr ⟨l, hl, rfl⟩, (evs_mem l s _).mpr ⟨pre, r, e, rfl⟩⟩, rfl⟩
theorem edge_key {lists : List (List α)} {s y : α} (h : Edge lists s y) : s ∈ keys (events lists) ∧ y ∈ keys (events lists) := by
  obtain ⟨l, hl, pre, post, e⟩ := h
  exact ⟨(keys_lists lists s).mpr ⟨l, hl, by rw [e]; simp⟩, (keys_lists lists y).mpr ⟨l, hl, by rw [e]; simp⟩⟩
theorem size_take : ∀ (ls : List (List α)) (i : Nat), size (ls.take i) ≤ size ls
  | [], _ => by simp
  | _ :: _, 0 => by simp [size]
  | l :: ls, i + 1 => by
    have ih := size_take ls i
    unfold size at ih ⊢
    rw [List.take_succ_cons, List.map_cons, List.sum_cons, List.map_cons, List.sum_cons]
    omega
theorem size_snoc (ls : List (List α)) (l : List α) : size (ls ++ [l]) = size ls + l.length := by
  unfold size
  rw [List.map_append, List.sum_append]
  simp
/-! ### the search of a way back -/
structure Dfs (R : α → α → Prop) (start : α) (seen ahead : List α) : Prop where
  way : ∀ y, y ∈ seen ∨ y ∈ ahead → Way R start y
  no : start ∉ seen
  one : ∀ y, R start y → y ∈ seen ∨ y ∈ ahead
  cl : ∀ x ∈ seen, ∀ y, R x y → y ∈ seen ∨ y ∈ ahead
theorem Way.snoc {R : α → α → Prop} {a b c : α} (h : Way R a b) (r : R b c) : Way R a c := h.trans (.one r)
theorem Dfs.init {R : α → α → Prop} {start : α} {t : List α} (h : ∀ y, y ∈ t ↔ R start y) : Dfs R start [] t :=
  ⟨fun y hy => hy.elim (fun z => nomatch z) fun z => .one ((h y).mp z), fun z => (nomatch z), fun y r => .inr ((h y).mpr r), fun x hx => nomatch hx⟩
theorem Dfs.skip {R : α → α → Prop} {start x : α} {seen l : List α} (D : Dfs R start seen (l ++ [x])) (hx : x ∈ seen) : Dfs R start seen l := by
  have fix : ∀ y, y ∈ seen ∨ y ∈ l ++ [x] → y ∈ seen ∨ y ∈ l := fun y hy => by
    rcases hy with z | z
    · exact .inl z
    · rcases List.mem_append.mp z with z | z
      · exact .inr z
      · rw [List.mem_singleton.mp z]; exact .inl hx
  exact ⟨fun y hy => D.way y (hy.imp id fun z => List.mem_append_left _ z), D.no, fun y r => fix y (D.one y r), fun a ha y r => fix y (D.cl a ha y r)⟩
theorem Dfs.add {R : α → α → Prop} {start x : α} {seen l t : List α} (D : Dfs R start seen (l ++ [x])) (hs : x ≠ start) (ht : ∀ y, y ∈ t ↔ R x y) : Dfs R start (seen ++ [x]) (l ++ t) := by
  have wx : Way R start x := D.way x (.inr (by simp))
  have fix : ∀ y, y ∈ seen ∨ y ∈ l ++ [x] → y ∈ seen ++ [x] ∨ y ∈ l ++ t := fun y hy => by
    rcases hy with z | z
    · exact .inl (List.mem_append_left _ z)
    · rcases List.mem_append.mp z with z | z
      · exact .inr (List.mem_append_left _ z)
      · exact .inl (List.mem_append_right _ z)
  refine ⟨fun y hy => ?_, fun z => ?_, fun y r => fix y (D.one y r), fun a ha y r => ?_⟩
  · rcases hy with z | z
    · rcases List.mem_append.mp z with z | z
      · exact D.way y (.inl z)
      · rw [List.mem_singleton.mp z]; exact wx
    · rcases List.mem_append.mp z with z | z
      · exact D.way y (.inr (List.mem_append_left _ z))
      · exact wx.snoc ((ht y).mp z)
  · rcases List.mem_append.mp z with z | z
    · exact D.no z
    · exact hs (List.mem_singleton.mp z).symm
  · rcases List.mem_append.mp ha with z | z
    · exact fix y (D.cl a z y r)
    · rw [List.mem_singleton.mp z] at r
      exact .inr (List.mem_append_right _ ((ht y).mpr r))
theorem Dfs.done {R : α → α → Prop} {start : α} {seen : List α} (D : Dfs R start seen []) : ¬ Way R start start := by
  have inS : ∀ y, y ∈ seen ∨ y ∈ ([] : List α) → y ∈ seen := fun y hy => hy.elim id fun z => nomatch z
  have cl : ∀ a b, Way R a b → a ∈ seen → b ∈ seen := by
    intro a b w
    induction w with
    | one r => exact fun ha => inS _ (D.cl _ ha _ r)
    | more r _ ih => exact fun ha => ih (inS _ (D.cl _ ha _ r))
  intro w
  cases w with
  | one r => exact D.no (inS _ (D.one _ r))
  | more r k => exact D.no (cl _ _ k (inS _ (D.one _ r)))
/-- the keys not seen so far -/
def unseen (ks seen : List α) : Nat := (ks.filter fun k => decide (k ∉ seen)).length
theorem unseen_lt {x : α} {seen : List α} (hx : x ∉ seen) : ∀ {ks : List α}, x ∈ ks → unseen ks (seen ++ [x]) < unseen ks seen
  | k :: ks, h => by
    have le : ∀ ls : List α, unseen ls (seen ++ [x]) ≤ unseen ls seen := by
      intro ls
      unfold unseen
      induction ls with
      | nil => exact Nat.le_refl _
      | cons a ls ih =>
        rw [List.filter_cons, List.filter_cons]
        by_cases h1 : a ∈ seen
        · simp [h1]
          simpa using ih
        · by_cases h2 : a = x
          · simp [h1, h2, hx]
            have := ih
            simp at this
            omega
          · simp [h1, h2]
            simpa using ih
    have hle := le ks
    unfold unseen at hle ⊢
    rw [List.filter_cons, List.filter_cons]
    by_cases e : k = x
    · subst e
      rw [if_neg (by simp), if_pos (by simpa using hx), List.length_cons]
      omega
    · have hm : x ∈ ks := by
        rcases List.mem_cons.mp h with q | q
        · exact absurd q.symm e
        · exact q
      have ih := unseen_lt hx hm
      unfold unseen at ih
      by_cases h1 : k ∈ seen
      · rw [if_neg (by simp [h1]), if_neg (by simp [h1])]
        exact ih
      · rw [if_pos (by simp [h1, e]), if_pos (by simpa using h1), List.length_cons, List.length_cons]
        omega
theorem unseen_le (ks seen : List α) : unseen ks seen ≤ ks.length := List.length_filter_le _ _
end
end Mg
set_option Elab.async false
set_option linter.all false
set_option maxRecDepth 100000
set_option maxHeartbeats 4000000
/-! lists of texts, lists of such lists; what a comprehension makes of them -/
namespace K03
open PySem PySem.Spec PyProof.Rows L2
/-! ### heaps -/
theorem same_new {H : Hp} {p : Addr} {o : HO} (h : H p = none) : Same H (upd H p o) := fun b x e => by
  rw [upd_ne (ne_of_none e h)]
  exact e
/-- a list of texts stands at b -/
def SL (H : Hp) (b : Addr) (l : List Str) : Prop := H b = some (.lst (l.map V.str))
abbrev PL := Addr × List Str
def pV : PL → V := fun p => .ref p.1
def PLs (H : Hp) (ps : List PL) : Prop := ∀ p ∈ ps, SL H p.1 p.2
/-- a list of lists of texts stands at a -/
def LL (H : Hp) (a : Addr) (ls : List (List Str)) : Prop := ∃ ps : List PL, H a = some (.lst (ps.map pV)) ∧ ps.map (·.2) = ls ∧ PLs H ps
/-- .. whose lists are not among those to be avoided -/
def LLa (av : Addr → Prop) (H : Hp) (a : Addr) (ls : List (List Str)) : Prop := ∃ ps : List PL, H a = some (.lst (ps.map pV)) ∧ ps.map (·.2) = ls ∧ PLs H ps ∧ ∀ p ∈ ps, ¬ av p.1
theorem LLa.ll {av : Addr → Prop} {H : Hp} {a : Addr} {ls : List (List Str)} (h : LLa av H a ls) : LL H a ls := by
  obtain ⟨ps, h1, h2, h3, _⟩ := h
  exact ⟨ps, h1, h2, h3⟩
theorem SL.same {H H' : Hp} {b : Addr} {l : List Str} (h : SL H b l) (s : Same H H') : SL H' b l := s _ _ h
theorem PLs.same {H H' : Hp} {ps : List PL} (h : PLs H ps) (s : Same H H') : PLs H' ps := fun p hp => (h p hp).same s
theorem LL.same {H H' : Hp} {a : Addr} {ls : List (List Str)} (h : LL H a ls) (s : Same H H') : LL H' a ls := by
  obtain ⟨ps, h1, h2, h3⟩ := h
  exact ⟨ps, s _ _ h1, h2, h3.same s⟩
theorem LLa.same {av : Addr → Prop} {H H' : Hp} {a : Addr} {ls : List (List Str)} (h : LLa av H a ls) (s : Same H H') : LLa av H' a ls := by
  obtain ⟨ps, h1, h2, h3, h4⟩ := h
  exact ⟨ps, s _ _ h1, h2, h3.same s, h4⟩
/-- what is to be avoided may be written -/
theorem LLa.put {av : Addr → Prop} {H : Hp} {a c : Addr} {ls : List (List Str)} {o : HO} (h : LLa av H a ls) (hc : av c) (ha : a ≠ c) : LLa av (upd H c o) a ls := by
  obtain ⟨ps, h1, h2, h3, h4⟩ := h
  refine ⟨ps, (upd_ne ha).trans h1, h2, fun p hp => ?_, h4⟩
  have n : p.1 ≠ c := fun e => h4 p hp (by rw [e]; exact hc)
  exact (upd_ne n).trans (h3 p hp)
theorem LL.len {ls : List (List Str)} {ps : List PL} (h : ps.map (·.2) = ls) : ps.length = ls.length := by
  rw [← h, List.length_map]
theorem SL.sq {K : PySem.W.Frag} {H : Hp} {b : Addr} {l : List Str} (h : SL H b l) : SqL K H b (l.map V.str) := .of h
/-! ### a comprehension over a list, its items the values of some data -/
theorem lc_gen {K : PySem.W.Frag} {a : Addr} {β γ : Type} {src : List β} {val : β → V} {g : TG} {tt : TT} {te : TE} {vs : List Nat} {σ : L2.St} {H1 : Hp} {D : Addr} {Qd : Hp → Prop}
    (F : β → Option γ) (rep : γ → V → Hp → Prop) (hsrc : SqL K H1 a (src.map val)) (hD : H1 D = none) (hz : src.length ≤ 1000)
    (stab : ∀ c v H o, rep c v H → (∃ acc, H D = some (.lst acc)) → rep c v (upd H D o)) (stab2 : ∀ c v H H', rep c v H → Same H H' → rep c v H')
    (turn : ∀ x ∈ src, ∀ H, Same H1 H → (∃ acc, H D = some (.lst acc)) → ∀ Nx : Option V → Hp → Prop,
      (F x = none → ∀ H', Same H H' → Nx none H') → (∀ c, F x = some c → ∀ v H', Same H H' → rep c v H' → Nx (some v) H') →
      g (val x) (wipe σ vs) H fun σ2 H2 => wipe σ2 vs = wipe σ vs ∧ tt σ2 H2 fun b H3 => if b = true then te σ2 H3 (fun y H4 => Nx (some y) H4) else Nx none H3)
    (fin : ∀ H us, Same H1 H → Paired (fun c v => rep c v H) (src.filterMap F) us → H D = some (.lst us) → Qd H) :
    ∃ W : Nat → Nat → Hp → Prop, (∃ m, W 0 m (upd H1 D (.lst []))) ∧ ∀ i m H, W i m H →
      ((Itl K a).stop i H ∧ Qd H) ∨ ((Itl K a).go i H ∧ ∃ Nx : Hp → Prop, (∀ H', Nx H' → ∃ m', m' < m ∧ W (i + 1) m' H') ∧ ∀ x H', (Itl K a).yld i H x H' → g x (wipe σ vs) H' fun σ2 H2 => wipe σ2 vs = wipe σ vs ∧ tt σ2 H2 fun b H3 =>
        if b = true then te σ2 H3 fun y H4 => ∃ acc, H4 D = some (.lst acc) ∧ acc.length < sizeLine ∧ Nx (upd H4 D (.lst (acc ++ [y]))) else Nx H3) := by
  have sameD : ∀ {H : Hp} {o : HO}, Same H1 H → Same H1 (upd H D o) := fun {H o} s b x e => by
    rw [upd_ne (ne_of_none e hD)]
    exact s b x e
  refine lc_list (xs := src.map val) (fun i H => Same H1 H ∧ ∃ us, Paired (fun c v => rep c v H) ((src.take i).filterMap F) us ∧ H D = some (.lst us))
    ⟨same_new hD, [], .nil, upd_same⟩ (fun i H _ ⟨s, _⟩ => s.seq hsrc) ?_ ?_
  · rintro i x H hx ⟨s, us, hp, hl⟩
    rw [List.getElem?_map] at hx
    cases hi : src[i]? with
    | none => rw [hi] at hx; cases hx
    | some y =>
      rw [hi] at hx
      have ex : val y = x := Option.some.inj hx
      subst ex
      have ilt : i < src.length := (List.getElem?_eq_some_iff.mp hi).1
      have hlen : us.length ≤ i := by
        rw [← Paired.length hp]
        refine Nat.le_trans (List.length_filterMap_le _ _) ?_
        rw [List.length_take]
        exact Nat.min_le_left _ _
      have et : src.take (i + 1) = src.take i ++ [y] := by rw [List.take_add_one, hi]; rfl
      have mono : ∀ {H' : Hp}, Same H H' → Paired (fun c v => rep c v H') ((src.take i).filterMap F) us := fun {H'} s' => Paired.mapP hp fun c v r => stab2 c v H H' r s'
      have t := turn y (List.mem_of_getElem? hi) H s ⟨us, hl⟩
        (fun o H' => match o with
          | some v => ∃ acc, H' D = some (.lst acc) ∧ acc.length < sizeLine ∧ (Same H1 (upd H' D (.lst (acc ++ [v]))) ∧ ∃ us, Paired (fun c v' => rep c v' (upd H' D (.lst (acc ++ [v])))) ((src.take (i + 1)).filterMap F) us ∧ (upd H' D (.lst (acc ++ [v]))) D = some (.lst us))
          | none => Same H1 H' ∧ ∃ us, Paired (fun c v => rep c v H') ((src.take (i + 1)).filterMap F) us ∧ H' D = some (.lst us)) ?_ ?_
      · exact t
      · intro hF H' s'
        refine ⟨s.trans s', us, ?_, s' _ _ hl⟩
        rw [et, List.filterMap_append]
        have e0 : [y].filterMap F = [] := by rw [List.filterMap_cons, hF]; rfl
        rw [e0, List.append_nil]
        exact mono s'
      · intro c hF v H' s' r
        refine ⟨us, s' _ _ hl, ?_, sameD (s.trans s'), us ++ [v], ?_, upd_same⟩
        · exact Nat.lt_of_le_of_lt (show us.length ≤ 1000 by omega) (by decide)
        · rw [et, List.filterMap_append]
          have e0 : [y].filterMap F = [c] := by rw [List.filterMap_cons, hF]; rfl
          rw [e0]
          have hh : ∃ acc, H' D = some (.lst acc) := ⟨us, s' _ _ hl⟩
          have app : ∀ {l1 : List γ} {l2 : List V}, Paired (fun c v => rep c v H') l1 l2 → Paired (fun c v' => rep c v' (upd H' D (.lst (us ++ [v])))) (l1 ++ [c]) (l2 ++ [v]) := by
            intro l1 l2 h
            induction h with
            | nil => exact .cons (stab _ _ _ _ r hh) .nil
            | cons r' _ ih => exact .cons (stab _ _ _ _ r' hh) ih
          exact app (mono s')
  · rintro H ⟨s, us, hp, hl⟩
    rw [List.length_map, List.take_length] at hp
    exact fin H us s hp hl
/-- .. that makes texts, ints, truth values: plain values -/
theorem lc_val {K : PySem.W.Frag} {a : Addr} {β γ : Type} {src : List β} {val : β → V} {g : TG} {tt : TT} {te : TE} {vs : List Nat} {σ : L2.St} {H1 : Hp} {D : Addr} {Qd : Hp → Prop}
    (F : β → Option γ) (out : γ → V) (hsrc : SqL K H1 a (src.map val)) (hD : H1 D = none) (hz : src.length ≤ 1000)
    (turn : ∀ x ∈ src, ∀ H, Same H1 H → (∃ acc, H D = some (.lst acc)) → ∀ Nx : Option V → Hp → Prop,
      (F x = none → ∀ H', Same H H' → Nx none H') → (∀ c, F x = some c → ∀ H', Same H H' → Nx (some (out c)) H') →
      g (val x) (wipe σ vs) H fun σ2 H2 => wipe σ2 vs = wipe σ vs ∧ tt σ2 H2 fun b H3 => if b = true then te σ2 H3 (fun y H4 => Nx (some y) H4) else Nx none H3)
    (fin : ∀ H, Same H1 H → H D = some (.lst ((src.filterMap F).map out)) → Qd H) :
    ∃ W : Nat → Nat → Hp → Prop, (∃ m, W 0 m (upd H1 D (.lst []))) ∧ ∀ i m H, W i m H →
      ((Itl K a).stop i H ∧ Qd H) ∨ ((Itl K a).go i H ∧ ∃ Nx : Hp → Prop, (∀ H', Nx H' → ∃ m', m' < m ∧ W (i + 1) m' H') ∧ ∀ x H', (Itl K a).yld i H x H' → g x (wipe σ vs) H' fun σ2 H2 => wipe σ2 vs = wipe σ vs ∧ tt σ2 H2 fun b H3 =>
        if b = true then te σ2 H3 fun y H4 => ∃ acc, H4 D = some (.lst acc) ∧ acc.length < sizeLine ∧ Nx (upd H4 D (.lst (acc ++ [y]))) else Nx H3) := by
  refine lc_gen F (fun c v _ => v = out c) hsrc hD hz (fun _ _ _ _ h _ => h) (fun _ _ _ _ h _ => h) (fun x hx H s hd Nx n1 n2 => ?_) fun H us s hp hl => ?_
  · exact turn x hx H s hd Nx n1 fun c hc H' s' => n2 c hc _ H' s' rfl
  · refine fin H s ?_
    rw [hl]
    have e : ∀ {l1 : List γ} {l2 : List V}, Paired (fun c v => v = out c) l1 l2 → l2 = l1.map out := by
      intro l1 l2 h
      induction h with
      | nil => rfl
      | cons r _ ih => rw [r, ih]; rfl
    rw [e hp]
/-- .. that makes lists of texts (new ones, or those that stood), none of them among those to be avoided -/
theorem lc_lists {K : PySem.W.Frag} {a : Addr} {β : Type} {src : List β} {val : β → V} {g : TG} {tt : TT} {te : TE} {vs : List Nat} {σ : L2.St} {H1 : Hp} {D : Addr} {Qd : Hp → Prop}
    (av : Addr → Prop) (F : β → Option (List Str)) (hsrc : SqL K H1 a (src.map val)) (hD : H1 D = none) (hz : src.length ≤ 1000)
    (turn : ∀ x ∈ src, ∀ H, Same H1 H → (∃ acc, H D = some (.lst acc)) → ∀ Nx : Option V → Hp → Prop,
      (F x = none → ∀ H', Same H H' → Nx none H') → (∀ c, F x = some c → ∀ b H', Same H H' → b ≠ D → ¬ av b → SL H' b c → Nx (some (.ref b)) H') →
      g (val x) (wipe σ vs) H fun σ2 H2 => wipe σ2 vs = wipe σ vs ∧ tt σ2 H2 fun b H3 => if b = true then te σ2 H3 (fun y H4 => Nx (some y) H4) else Nx none H3)
    (fin : ∀ H, Same H1 H → LLa av H D (src.filterMap F) → Qd H) :
    ∃ W : Nat → Nat → Hp → Prop, (∃ m, W 0 m (upd H1 D (.lst []))) ∧ ∀ i m H, W i m H →
      ((Itl K a).stop i H ∧ Qd H) ∨ ((Itl K a).go i H ∧ ∃ Nx : Hp → Prop, (∀ H', Nx H' → ∃ m', m' < m ∧ W (i + 1) m' H') ∧ ∀ x H', (Itl K a).yld i H x H' → g x (wipe σ vs) H' fun σ2 H2 => wipe σ2 vs = wipe σ vs ∧ tt σ2 H2 fun b H3 =>
        if b = true then te σ2 H3 fun y H4 => ∃ acc, H4 D = some (.lst acc) ∧ acc.length < sizeLine ∧ Nx (upd H4 D (.lst (acc ++ [y]))) else Nx H3) := by
  refine lc_gen F (fun c v H => ∃ b, v = .ref b ∧ b ≠ D ∧ ¬ av b ∧ SL H b c) hsrc hD hz (fun c v H o ⟨b, e, nb, na, h⟩ _ => ⟨b, e, nb, na, by unfold SL; rw [upd_ne nb]; exact h⟩) (fun c v H H' ⟨b, e, nb, na, h⟩ s => ⟨b, e, nb, na, h.same s⟩)
    (fun x hx H s hd Nx n1 n2 => ?_) fun H us s hp hl => ?_
  · exact turn x hx H s hd Nx n1 fun c hc b H' s' nb na h => n2 c hc _ H' s' ⟨b, rfl, nb, na, h⟩
  · refine fin H s ?_
    have e : ∀ {l1 : List (List Str)} {l2 : List V}, Paired (fun c v => ∃ b, v = V.ref b ∧ b ≠ D ∧ ¬ av b ∧ SL H b c) l1 l2 → ∃ ps : List PL, l2 = ps.map pV ∧ ps.map (·.2) = l1 ∧ PLs H ps ∧ ∀ p ∈ ps, ¬ av p.1 := by
      intro l1 l2 h
      induction h with
      | nil => exact ⟨[], rfl, rfl, fun p hp => (nomatch hp), fun p hp => nomatch hp⟩
      | @cons c v _ _ r _ ih =>
        obtain ⟨b, e, _, na, hb⟩ := r
        obtain ⟨ps, e1, e2, e3, e4⟩ := ih
        refine ⟨(b, c) :: ps, by rw [e, e1]; rfl, by rw [← e2]; rfl, fun p hp => ?_, fun p hp => ?_⟩
        · rcases List.mem_cons.mp hp with q | q
          · rw [q]; exact hb
          · exact e3 p q
        · rcases List.mem_cons.mp hp with q | q
          · rw [q]; exact na
          · exact e4 p q
    obtain ⟨ps, e1, e2, e3, e4⟩ := e hp
    exact ⟨ps, by rw [hl, e1], e2, e3, e4⟩
/-! ### lists compared -/
def rNeP (K : PySem.W.Frag) : R2 := fun x y H Q => ∃ d e, Dp K H x d ∧ Dp K H y e ∧ d.plain = true ∧ e.plain = true ∧ e.depth ≤ 64 ∧ Q (.bl (!PyData.eqv d e)) H
def rEqP (K : PySem.W.Frag) : R2 := fun x y H Q => ∃ d e, Dp K H x d ∧ Dp K H y e ∧ d.plain = true ∧ e.plain = true ∧ e.depth ≤ 64 ∧ Q (.bl (PyData.eqv d e)) H
section
variable {X : Cx}
theorem op_neP (hu : X.A.units + 64 < cLine) : OpR X (compareOp .NotEq) (rNeP X.K) := by
  intro pins s σ H x y v u Q I rx ry h
  obtain ⟨d, e, hd, he, pd, pe, dp, q⟩ := h
  obtain ⟨as, r1⟩ := Dp.reads I d x v hd rx
  obtain ⟨bs, r2⟩ := Dp.reads I e y u he ry
  have hm : min d.depth e.depth ≤ e.depth := Nat.min_le_right _ _
  exact SeqAt.ne_plain r1 r2 pd pe (by omega) ⟨.bl _, H, I, rfl, q⟩
theorem op_eqP (hu : X.A.units + 64 < cLine) : OpR X (compareOp .Eq) (rEqP X.K) := by
  intro pins s σ H x y v u Q I rx ry h
  obtain ⟨d, e, hd, he, pd, pe, dp, q⟩ := h
  obtain ⟨as, r1⟩ := Dp.reads I d x v hd rx
  obtain ⟨bs, r2⟩ := Dp.reads I e y u he ry
  have hm : min d.depth e.depth ≤ e.depth := Nat.min_le_right _ _
  exact SeqAt.eq_plain r1 r2 pd pe (by omega) ⟨.bl _, H, I, rfl, q⟩
end
def dS (l : List Str) : PyData := .list (l.map PyData.str)
theorem plain_strs : ∀ l : List Str, PyData.plainAll (l.map PyData.str) = true
  | [] => rfl
  | x :: l => by
    rw [List.map_cons, PyData.plainAll, plain_strs l]
    rfl
theorem dS_plain (l : List Str) : (dS l).plain = true := plain_strs l
theorem depth_strs : ∀ l : List Str, PyData.depthAll (l.map PyData.str) ≤ 1
  | [] => by decide
  | x :: l => by
    rw [List.map_cons, PyData.depthAll]
    have := depth_strs l
    have h0 : (PyData.str x).depth ≤ 1 := by simp [PyData.depth]
    omega
theorem dS_depth (l : List Str) : (dS l).depth ≤ 64 := by
  unfold dS
  rw [PyData.depth]
  have := depth_strs l
  omega
theorem dS_eqv : ∀ l m : List Str, PyData.eqvAll (l.map PyData.str) (m.map PyData.str) = decide (l = m)
  | [], [] => by simp [PyData.eqvAll]
  | [], y :: m => by simp [PyData.eqvAll]
  | x :: l, [] => by simp [PyData.eqvAll]
  | x :: l, y :: m => by
    rw [List.map_cons, List.map_cons, PyData.eqvAll, dS_eqv l m]
    by_cases h : x = y <;> by_cases h2 : l = m <;> simp [PyData.eqv, h, h2]
theorem dpAll_strs (K : PySem.W.Frag) (H : Hp) : ∀ l : List Str, DpAll K H (l.map V.str) (l.map PyData.str)
  | [] => .nil
  | x :: l => .cons (.str x) (dpAll_strs K H l)
theorem SL.dp {K : PySem.W.Frag} {H : Hp} {b : Addr} {l : List Str} (h : SL H b l) : Dp K H (.ref b) (dS l) := .lst (.of h) (dpAll_strs K H l)
theorem dp_strs {K : PySem.W.Frag} {H : Hp} {b : Addr} {l : List Str} (h : SqL K H b (l.map V.str)) : Dp K H (.ref b) (dS l) := .lst h (dpAll_strs K H l)
/-- two lists of texts -/
def rNeS : R2 := fun x y H Q => ∃ a b l m, x = .ref a ∧ y = .ref b ∧ SL H a l ∧ SL H b m ∧ Q (.bl (!decide (l = m))) H
def rEqS : R2 := fun x y H Q => ∃ a b l m, x = .ref a ∧ y = .ref b ∧ SL H a l ∧ SL H b m ∧ Q (.bl (decide (l = m))) H
/-- a list of lists of texts and the empty list -/
def rNe0 : R2 := fun x y H Q => ∃ a b ls, x = .ref a ∧ y = .ref b ∧ LL H a ls ∧ H b = some (.lst []) ∧ Q (.bl (!decide (ls = []))) H
def rEq0 : R2 := fun x y H Q => ∃ a b ls, x = .ref a ∧ y = .ref b ∧ LL H a ls ∧ H b = some (.lst []) ∧ Q (.bl (decide (ls = []))) H
theorem dpAll_pls {K : PySem.W.Frag} {H : Hp} : ∀ {ps : List PL}, PLs H ps → DpAll K H (ps.map pV) (ps.map fun p => dS p.2)
  | [], _ => .nil
  | p :: ps, h => .cons (h p List.mem_cons_self).dp (dpAll_pls fun q hq => h q (List.mem_cons_of_mem _ hq))
theorem plain_pls : ∀ ps : List PL, PyData.plainAll (ps.map fun p => dS p.2) = true
  | [] => rfl
  | p :: ps => by
    rw [List.map_cons, PyData.plainAll, plain_pls ps, dS_plain]
    rfl
theorem LL.dp {K : PySem.W.Frag} {H : Hp} {a : Addr} {ls : List (List Str)} (h : LL H a ls) : ∃ d, Dp K H (.ref a) d ∧ d.plain = true ∧ PyData.eqv d (.list []) = decide (ls = []) := by
  obtain ⟨ps, h1, h2, h3⟩ := h
  refine ⟨.list (ps.map fun p => dS p.2), .lst (.of h1) (dpAll_pls h3), (by rw [PyData.plain]; exact plain_pls ps), ?_⟩
  subst h2
  cases ps <;> simp [PyData.eqv, PyData.eqvAll]
section
variable {X : Cx}
theorem op_neS (hu : X.A.units + 64 < cLine) : OpR X (compareOp .NotEq) rNeS := by
  intro pins s σ H x y v u Q I rx ry h
  obtain ⟨a, b, l, m, rfl, rfl, h1, h2, q⟩ := h
  refine op_neP hu pins s σ H _ _ v u Q I rx ry ⟨dS l, dS m, h1.dp, h2.dp, dS_plain l, dS_plain m, dS_depth m, ?_⟩
  show Q (.bl (!PyData.eqvAll (l.map PyData.str) (m.map PyData.str))) H
  rw [dS_eqv]
  exact q
theorem op_eqS (hu : X.A.units + 64 < cLine) : OpR X (compareOp .Eq) rEqS := by
  intro pins s σ H x y v u Q I rx ry h
  obtain ⟨a, b, l, m, rfl, rfl, h1, h2, q⟩ := h
  refine op_eqP hu pins s σ H _ _ v u Q I rx ry ⟨dS l, dS m, h1.dp, h2.dp, dS_plain l, dS_plain m, dS_depth m, ?_⟩
  show Q (.bl (PyData.eqvAll (l.map PyData.str) (m.map PyData.str))) H
  rw [dS_eqv]
  exact q
theorem op_ne0 (hu : X.A.units + 64 < cLine) : OpR X (compareOp .NotEq) rNe0 := by
  intro pins s σ H x y v u Q I rx ry h
  obtain ⟨a, b, ls, rfl, rfl, h1, h2, q⟩ := h
  obtain ⟨d, e1, e2, e3⟩ := h1.dp (K := X.K)
  refine op_neP hu pins s σ H _ _ v u Q I rx ry ⟨d, .list [], e1, .lst (.of h2) .nil, e2, rfl, by simp [PyData.depth, PyData.depthAll], ?_⟩
  rw [e3]
  exact q
theorem op_eq0 (hu : X.A.units + 64 < cLine) : OpR X (compareOp .Eq) rEq0 := by
  intro pins s σ H x y v u Q I rx ry h
  obtain ⟨a, b, ls, rfl, rfl, h1, h2, q⟩ := h
  obtain ⟨d, e1, e2, e3⟩ := h1.dp (K := X.K)
  refine op_eqP hu pins s σ H _ _ v u Q I rx ry ⟨d, .list [], e1, .lst (.of h2) .nil, e2, rfl, by simp [PyData.depth, PyData.depthAll], ?_⟩
  rw [e3]
  exact q
end
/-! ### a text among texts; slices -/
theorem flat_strs : ∀ l : List Str, (l.map V.str).all flatV = true
  | [] => rfl
  | x :: l => by
    rw [List.map_cons, List.all_cons, flat_strs l]
    rfl
theorem inV_strs (x : Str) : ∀ l : List Str, inV (.str x) (l.map V.str) = decide (x ∈ l)
  | [] => by simp [inV]
  | y :: l => by
    have ih := inV_strs x l
    unfold inV at ih ⊢
    rw [List.map_cons, List.any_cons, ih]
    by_cases h : y = x
    · subst h
      simp [eqV]
    · have h' : ¬ x = y := fun e => h e.symm
      simp [eqV, h, h']
/-- x in l, x not in l -/
def rInS (neg : Bool) : R2 := fun x y H Q => ∃ z p l, x = .str z ∧ y = .ref p ∧ SL H p l ∧ Q (.bl (if neg then !decide (z ∈ l) else decide (z ∈ l))) H
section
variable {X : Cx}
theorem op_inL : OpR X (compareOp .In) (rInS false) := by
  intro pins s σ H x y v u Q I rx ry h
  obtain ⟨z, p, l, rfl, rfl, h1, q⟩ := h
  refine op_in_seq pins s σ H _ _ v u Q I rx ry ⟨p, l.map V.str, rfl, .inl h1.sq, rfl, flat_strs l, ?_⟩
  rw [inV_strs]
  exact q
theorem op_notInL : OpR X (compareOp .NotIn) (rInS true) := by
  intro pins s σ H x y v u Q I rx ry h
  obtain ⟨z, p, l, rfl, rfl, h1, q⟩ := h
  refine op_notIn_seq pins s σ H _ _ v u Q I rx ry ⟨p, l.map V.str, rfl, .inl h1.sq, rfl, flat_strs l, ?_⟩
  rw [inV_strs]
  exact q
end
theorem cut_from (xs : List V) (i : Nat) : cutV xs (some (i : Int)) none = xs.drop i := by
  unfold cutV
  rw [HT.sIx_nat, HT.sIx_none]
  by_cases h : i ≤ xs.length
  · rw [Nat.min_eq_left h, ← List.length_drop, List.take_length]
  · rw [Nat.min_eq_right (by omega), List.drop_length, List.drop_eq_nil_of_le (by omega), List.take_nil]
theorem cut_to (xs : List V) (i : Nat) : cutV xs none (some (i : Int)) = xs.take i := by
  unfold cutV
  rw [HT.sIx_nat, HT.sIx_none, List.drop_zero, Nat.sub_zero]
  by_cases h : i ≤ xs.length
  · rw [Nat.min_eq_left h]
  · rw [Nat.min_eq_right (by omega), List.take_length, List.take_of_length_le (by omega)]
theorem cut_mid (xs : List V) (i j : Nat) (hij : i ≤ j) : cutV xs (some (i : Int)) (some (j : Int)) = (xs.drop i).take (j - i) := by
  unfold cutV
  rw [HT.sIx_nat, HT.sIx_nat]
  by_cases h : i ≤ xs.length
  · rw [Nat.min_eq_left h]
    by_cases h2 : j ≤ xs.length
    · rw [Nat.min_eq_left h2]
    · rw [Nat.min_eq_right (by omega), List.take_of_length_le (by rw [List.length_drop]; omega), List.take_of_length_le (by rw [List.length_drop]; omega)]
  · rw [Nat.min_eq_right (show xs.length ≤ i by omega), List.drop_length, List.drop_eq_nil_of_le (by omega), List.take_nil, List.take_nil]
end K03
set_option Elab.async false
set_option linter.all false
set_option maxRecDepth 100000
set_option maxHeartbeats 4000000
/-! a target with a star: a, *r = a list -/
namespace K03
open PySem PySem.Spec PyProof.Rows L2
section
variable {prog : Program} {w : World} {A : Around} {E : Value → Shared → Prop} {s : Shared} {l : Addr}
/-- the items of a list, the first one apart, the others in a new list -/
theorem unpack_head {items : Array Value} {Q : List Value → Shared → Prop} (hl : s.heap.IsList l items) (hh : A.handled = none) (h1 : 1 ≤ items.size) (hz : items.size ≤ sizeLine)
    (h : ∀ (h2 : Heap) (tk : Nat), (∀ b o, s.heap.get? b = some o → h2.get? b = some o) →
      Q (items.toList.take 1 ++ [Value.ref h2.objs.size] ++ []) { s with heap := h2.push { cls := .type "list", data := .seq (items.toList.drop 1).toArray }, toks := tk }) :
    wpAny (model prog w) A (unpackItems (.ref l) 2 (some 1)) Q E s := by
  have lnew : l ≠ s.heap.objs.size := by
    obtain ⟨o, ho, _⟩ := hl
    exact Nat.ne_of_lt (Heap.lt_size ho)
  unfold unpackItems notIterableAtAll
  refine wpAny_bind (wpAny_bind (wpAny_specialOf hl.typeIs slot_list_iter.lookup (wpAny_pure ?_)))
  rw [if_neg Bool.false_ne_true]
  refine wpAny_bind (wpAny_holding (wpAny_pyIter_list hl (?_)))
  refine wpAny_bind (wpAny_holding (PySem.W.kun_draw lnew 1 0 _ _ ⟨_, Heap.get?_push_size _ rfl, rfl, rfl⟩ (hl.push _) (by omega) fun ha ita sa => ?_))
  have la : ha.IsList l items := (hl.push _).extBut sa.extBut lnew
  obtain ⟨oi, hoi, hoi2⟩ := id ita
  obtain ⟨ol, hol, hol2⟩ := id la
  rw [List.drop_zero]
  have one : (items.toList.take 1).length = 1 := by
    rw [List.length_take, Array.length_toList]
    omega
  rw [if_neg (show ¬ (items.toList.take 1).length < 1 by rw [one]; omega)]
  refine wpAny_bind (wpAny_holding (PySem.W.kun_collect (s := { s with heap := ha }) (T := "list_iterator") (.inr (.inr (.inl rfl))) (Walks.list (A := A.in1) hh s.heap.objs.size l lnew items) (fun j u st => st.1.typeIs) (k := 1) h1 ⟨ita, la⟩ (Heap.lt_size hoi) (Heap.lt_size hol) (fun hb tk keep => ?_) hz))
  have kept : ∀ b o, s.heap.get? b = some o → hb.get? b = some o := fun b o e =>
    have nb : b ≠ s.heap.objs.size := Nat.ne_of_lt (Heap.lt_size e)
    keep b o nb (sa.extBut b o nb (Heap.get?_push_of_some _ e))
  show wpAny _ _ (if (items.toList.drop 1).length < 0 then _ else _) _ _ _
  rw [if_neg (Nat.not_lt_zero _)]
  show wpAny _ _ (newList ((items.toList.drop 1).take ((items.toList.drop 1).length - 0)) >>= fun d => pure (items.toList.take 1 ++ [d] ++ (items.toList.drop 1).drop ((items.toList.drop 1).length - 0))) _ _ _
  rw [Nat.sub_zero, List.take_length, List.drop_length]
  exact wpAny_bind (wpAny_newList (wpAny_pure (h hb tk kept)) (by
    rw [List.length_drop, Array.length_toList]
    omega))
end
/-- the reading of a, *r = v: v a list with an item at least -/
def gStar (K : PySem.W.Frag) (t : TGs) : TG := fun v σ H Q => ∃ a x r, v = .ref a ∧ SqL K H a (x :: r) ∧ ∀ D, H D = none → t [x, .ref D] σ (upd H D (.lst r)) Q
section
variable {X : Cx} {pos : Pos}
theorem pg_star {es : List Expr} {k : Nat} {t : TGs} (hc : X.calm = true) (h : PGs X es t) (hn : (assignEach es X.env).length = 2 := by rfl) (hst : (assignEach es X.env).findIdx? (·.1) = some 1 := by rfl) :
    PG X (.Tuple es k pos) (gStar X.K t) := by
  refine ⟨fun pins s σ H v u Q I r hw => ?_⟩
  obtain ⟨a, x, rs, e1, hq, hw⟩ := hw
  subst e1
  cases r
  obtain ⟨its, rv, pl, hz⟩ := I.list hq
  have hlen := rv.length
  rw [List.length_cons] at hlen
  have hsz : its.toArray.size = rs.length + 1 := by rw [List.size_toArray]; omega
  rw [PyProof.Rows.assign_Tuple]
  refine wpAny_bind (wpAny_standAt ?_)
  unfold unpack
  rw [hn, hst]
  refine wpAny_bind (wpAny_holding (unpack_head pl.isList (I.ok.hd hc) (by omega) (by rw [hsz]; rw [List.length_cons] at hz; exact hz) fun h2 tk keep => ?_))
  have I2 : Inv X pins σ H { s with heap := h2, toks := tk } := I.kept keep
  have hf : H h2.objs.size = none := I2.hok.fresh (Nat.le_refl _)
  cases rv with
  | @cons _ w1 _ ws r1 rr =>
    have I3 : Inv X pins σ (upd H h2.objs.size (.lst rs)) { s with heap := h2.push { cls := .type "list", data := .seq ws.toArray }, toks := tk } :=
      I2.laid (t' := tk) (fun b ob e => Heap.get?_push_of_some _ e) (Nat.le_refl _) ⟨by rw [List.length_cons] at hz; exact Nat.le_of_succ_le hz, ws, 0, rr, Heap.get?_push_size _ rfl⟩
    exact h.run pins _ σ _ [x, V.ref h2.objs.size] [w1, Value.ref h2.objs.size] Q I3 (.cons r1 (.cons (show RelV (V.ref h2.objs.size) (Value.ref h2.objs.size) from rfl) .nil)) (hw _ hf)
/-- the starred one of several targets -/
theorem pgs_star {e : Expr} {p : Pos} {t : TG} (h1 : PG X e t) : PGs X [.Starred e p] (gCons t gNil) := by
  refine ⟨fun pins s σ H vs us Q I r h => ?_⟩
  obtain ⟨v, vr, e1, h⟩ := h
  subst e1
  cases r with
  | cons r rr =>
    show wpAny _ _ (assignInOrder [assign e X.env] _) _ _ _
    refine assignInOrder_cons (thn (h1.run pins s σ H _ _ _ I r h) fun _ s1 ⟨σ1, H1, I1, q1⟩ => ?_)
    obtain ⟨e2, q2⟩ := q1
    subst e2
    cases rr
    exact assignInOrder_nil ⟨σ1, H1, I1, q2⟩
end
end K03
set_option Elab.async false
set_option linter.all false
set_option maxRecDepth 100000
set_option maxHeartbeats 4000000
/-! the text by places -/
namespace K03
open PySem PySem.Spec PyProof.Rows L2
def topS (i : Nat) : Stmt := PySem.Challenge.pw_sworntypes_k03_whole_merges_and_rings.main.body.getD i (.Pass ⟨0, 0, 0, 0⟩)
abbrev sCan : Stmt := topS 1
abbrev sMer : Stmt := topS 2
abbrev sBag : Stmt := topS 4
abbrev sTak : Stmt := topS 5
abbrev sDrw : Stmt := topS 6
abbrev sBeh : Stmt := topS 7
abbrev sRin : Stmt := topS 8
abbrev sFst : Stmt := topS 9
abbrev sLaw : Stmt := topS 10
abbrev nCan : List Str := ["name", "lists", "one"]
theorem scCan : FnScope nCan ["name", "lists"] (defScope sCan) := ⟨rfl, rfl, rfl, by decide +kernel, rfl, by decide +kernel, by decide +kernel⟩
abbrev nMer : List Str := ["lists", "waiting", "found", "first", "rest", "one", "name"]
theorem scMer : FnScope nMer ["lists"] (defScope sMer) := ⟨rfl, rfl, rfl, by decide +kernel, rfl, by decide +kernel, by decide +kernel⟩
abbrev nBag : List Str := ["_law_script", "_law_at", "_law_cell", "_law_great"]
theorem scBag : FnScope nBag ["_law_script", "_law_at"] (defScope sBag) := ⟨rfl, rfl, rfl, by decide +kernel, rfl, by decide +kernel, by decide +kernel⟩
abbrev nTak : List Str := ["_law_bag_here", "_law_many", "_law_digit", "_law_mixed"]
theorem scTak : FnScope nTak ["_law_bag_here", "_law_many"] (defScope sTak) := ⟨rfl, rfl, rfl, by decide +kernel, rfl, by decide +kernel, by decide +kernel⟩
abbrev nDrw : List Str := ["_law_bag_here", "_law_found", "_law_turn", "_law_left", "_law_line", "_law_again"]
theorem scDrw : FnScope nDrw ["_law_bag_here"] (defScope sDrw) := ⟨rfl, rfl, rfl, by decide +kernel, rfl, by decide +kernel, by decide +kernel⟩
abbrev nBeh : List Str := ["_law_lists", "_law_found", "_law_line", "_law_place", "_law_one"]
theorem scBeh : FnScope nBeh ["_law_lists"] (defScope sBeh) := ⟨rfl, rfl, rfl, by decide +kernel, rfl, by decide +kernel, by decide +kernel⟩
abbrev nRin : List Str := ["_law_behind_here", "_law_start", "_law_seen", "_law_ahead", "_law_one"]
theorem scRin : FnScope nRin ["_law_behind_here"] (defScope sRin) := ⟨rfl, rfl, rfl, by decide +kernel, rfl, by decide +kernel, by decide +kernel⟩
abbrev nFst : List Str := ["_law_lists", "_law_known", "_law_left", "_law_heads", "_law_line", "_law_one"]
theorem scFst : FnScope nFst ["_law_lists", "_law_known"] (defScope sFst) := ⟨rfl, rfl, rfl, by decide +kernel, rfl, by decide +kernel, by decide +kernel⟩
abbrev nLaw : List Str := ["_law_script", "_law_at", "_law_bag_here", "_law_turn", "_law_some", "_law_found", "_law_behind_here", "_law_one", "_law_place", "_law_line"]
theorem scLaw : FnScope nLaw ["_law_script"] (defScope sLaw) := ⟨rfl, rfl, rfl, by decide +kernel, rfl, by decide +kernel, by decide +kernel⟩
theorem cut1 (xs : List V) : cutV xs (some 1) none = xs.drop 1 := cut_from xs 1
end K03
set_option Elab.async false
set_option linter.all false
set_option maxRecDepth 100000
set_option maxHeartbeats 4000000
namespace K03
open PySem PySem.Spec PyProof.Rows L2
section
variable {P : Program} {w : World} {K : PySem.W.Frag} {mg : Str → Option Value} {base : Heap}
/-- can_be_first(name, lists) -/
def spCan : Sp := fun vs H Q _ => ∃ (x : Str) (a : Addr) (ls : List (List Str)), vs = [.str x, .ref a] ∧ LL H a ls ∧ ls.length ≤ 1000 ∧ ∀ H', Same H H' → Q (.bl (Mg.canFirst ls x)) H'
theorem ok_can {f : Addr} {fd : FuncData} (F : Fun K "can_be_first" "can_be_first" sCan f fd) (mAll : mg "all" = none) : FnOk P w K mg base CX0 1 f fd ["name", "lists"] spCan := by
  refine F.ok scCan (fun vs H Q E h => ?_) (fun cdv A outer s H vs Q E hr h => ?_)
  · obtain ⟨x, a, ls, rfl, _⟩ := h
    rfl
  · obtain ⟨x, a, ls, rfl, hL, hz, q⟩ := h
    obtain ⟨ps, h1, h2, h3⟩ := id hL
    refine ⟨_, pss_one (ps_ret (pe_callB (cr_all rfl) (by rfl) mAll (by decide +kernel) (pa_cons
      (pe_lc (own := [("one", 2)]) (g := gName 2) (tt := tYes) rfl scCan.nd (pi_list (pv 1)) (blkOk_by (own := [("one", 2)]) (N := nCan) (sc := defScope sCan) (by decide +kernel))
        (fun _ _ _ _ _ => pg_name (i := 2) scCan.nd rfl (Or.inl rfl)) (fun _ _ _ _ _ => pts_nil)
        (fun _ _ _ _ _ => pe_cmpR op_notInL (pv 0) (pe_slice (r := rSlL K) sl_list (pv 2) (po_some pe_int) po_none) (by rfl)))
      pa_nil))), ?_⟩
    have hlen : ps.length ≤ 1000 := by
      rw [← h2, List.length_map] at hz
      exact hz
    refine ⟨.ref a, rfl, a, rfl, ⟨_, .of h1⟩, fun D hD => lc_val (src := ps) (val := pV) (fun p => some (decide (x ∉ p.2.tail))) V.bl (.of h1) hD hlen (fun p hp H2 s2 hd Nx _ n2 => ?_) fun H2 s2 hl => ?_⟩
    · refine ⟨rfl, ?_⟩
      have hb : SL H2 p.1 p.2 := (h3 p hp).same s2
      refine ⟨_, rfl, _, rfl, 1, rfl, p.1, p.2.map V.str, rfl, hb.sq, fun c nc => ?_⟩
      refine ⟨x, c, p.2.tail, rfl, rfl, ?_, ?_⟩
      · show (upd H2 c _) c = _
        rw [upd_same, cut1, ← List.drop_one, List.map_drop]
      · have e : (if true = true then !decide (x ∈ p.2.tail) else decide (x ∈ p.2.tail)) = decide (x ∉ p.2.tail) := by simp
        rw [e]
        exact n2 _ rfl _ (same_new nc)
    · refine ⟨D, (ps.filterMap fun p => some (decide (x ∉ p.2.tail))), rfl, .of hl, ?_⟩
      have e : ((ps.filterMap fun p => some (decide (x ∉ p.2.tail))).all id) = Mg.canFirst ls x := by
        rw [← h2]
        unfold Mg.canFirst
        show (List.filterMap (some ∘ fun p : PL => decide (x ∉ p.2.tail)) ps).all id = _
        rw [List.filterMap_eq_map, List.all_map, List.all_map]
        rfl
      rw [e]
      exact q H2 s2
end
end K03
set_option Elab.async false
set_option linter.all false
set_option maxRecDepth 100000
set_option maxHeartbeats 4000000
namespace K03
open PySem PySem.Spec PyProof.Rows L2
/-! ### the scopes of comprehensions within others -/
def bodyOf : Stmt → List Stmt
  | .While _ b _ _ => b
  | .For _ _ b _ _ => b
  | .If _ b _ _ => b
  | _ => []
def lcScope : Expr → Scope
  | .ListComp _ _ sc _ => sc
  | _ => { kind := .function, names := [], isGenerator := false, isCoroutine := false }
def asgScope : Stmt → Scope
  | .Assign _ e _ => lcScope e
  | _ => { kind := .function, names := [], isGenerator := false, isCoroutine := false }
def noStmt : Stmt := .Pass ⟨0, 0, 0, 0⟩
def scStrip : Scope := asgScope ((bodyOf ((defBody sMer).getD 2 noStmt)).getD 2 noStmt)
/-! ### list(xs) -/
def rListOf (K : PySem.W.Frag) : List V → Hp → VK → Prop := fun xs H Q => ∃ p ys, xs = [.ref p] ∧ (SqL K H p ys ∨ SqT K H p ys) ∧ ∀ l, H l = none → Q (.ref l) (upd H l (.lst ys))
theorem cl_list {X : Cx} : CallR X (.type "list") (rListOf X.K) := call_list_of
theorem filter_pls : ∀ ps : List PL, (ps.filterMap fun p => if p.2 = [] then none else some p.2) = Mg.noEmpty (ps.map (·.2))
  | [] => rfl
  | p :: ps => by
    have ih := filter_pls ps
    unfold Mg.noEmpty at ih ⊢
    rw [List.map_cons, List.filterMap_cons]
    by_cases e0 : p.2 = []
    · rw [if_pos e0, List.filter_cons_of_neg (by simpa using e0)]
      exact ih
    · rw [if_neg e0, List.filter_cons_of_pos (by simpa using e0), ih]
theorem filter_ne (y : Str) : ∀ l : List Str, (l.filterMap fun s => if s = y then none else some s) = l.filter fun s => decide (s ≠ y)
  | [] => rfl
  | s :: l => by
    rw [List.filterMap_cons, List.filter_cons, filter_ne y l]
    by_cases es : s = y
    · simp [es]
    · simp [es]
theorem LL.avoid {H : Hp} {a c : Addr} {ls : List (List Str)} (h : LL H a ls) (hc : H c = none) : LLa (· = c) H a ls ∧ a ≠ c := by
  obtain ⟨ps, h1, h2, h3⟩ := h
  exact ⟨⟨ps, h1, h2, h3, fun p hp => ne_of_none (h3 p hp) hc⟩, ne_of_none h1 hc⟩
section
variable {P : Program} {w : World} {K : PySem.W.Frag} {mg : Str → Option Value} {base : Heap}
/-- merged(lists) -/
def spMer : Sp := fun vs H Q _ => ∃ (a : Addr) (lists : List (List Str)), vs = [.ref a] ∧ LL H a lists ∧ lists.length ≤ 100 ∧ (∀ l ∈ lists, l.length ≤ 100) ∧ Mg.size lists ≤ 1000 ∧
  (∀ H' f, Same H H' → Mg.Run lists f → Mg.rest lists f ≠ [] → Mg.pick (Mg.rest lists f) = none → Q .non H') ∧
  ∀ H' p f, Same H H' → H p = none → SL H' p f → Mg.Run lists f → Mg.rest lists f = [] → Q (.ref p) H'
def MerSt (H0 : Hp) (lists : List (List Str)) (wa fa : Addr) (f : List Str) (H : Hp) : Prop :=
  Same H0 H ∧ H0 fa = none ∧ wa ≠ fa ∧ SL H fa f ∧ LLa (· = fa) H wa (Mg.rest lists f) ∧ Mg.Run lists f
theorem rest_len (lists : List (List Str)) (f : List Str) : (Mg.rest lists f).length ≤ lists.length := by
  unfold Mg.rest Mg.noEmpty Mg.left
  refine Nat.le_trans (List.length_filter_le _ _) ?_
  rw [List.length_map]
  exact Nat.le_refl _
theorem ok_mer {f fC : Addr} {fd fdC : FuncData} (F : Fun K "merged" "merged" sMer f fd) (FC : Fun K "can_be_first" "can_be_first" sCan fC fdC) (bC : Binds K fdC ["name", "lists"] []) (gC : mg "can_be_first" = some (.ref fC))
    (mAll : mg "all" = none) (mList : mg "list" = none) : FnOk P w K mg base CX0 2 f fd ["lists"] spMer := by
  have GC : FnOk P w K mg base CX0 1 fC fdC ["name", "lists"] spCan := ok_can FC mAll
  refine F.ok scMer (fun vs H Q E h => ?_) (fun cdv A outer s H vs Q E hr h => ?_)
  · obtain ⟨a, ls, rfl, _⟩ := h
    rfl
  · obtain ⟨a, lists, rfl, hL, hz, hz2, hz3, qn, qf⟩ := h
    obtain ⟨ps, h1, h2, h3⟩ := id hL
    refine ⟨_, pss_cons (ps_setLc (i := 1) (own := [("one", 5)]) (g := gName 5) rfl scMer.nd rfl rfl (sw_true rfl rfl rfl (by decide +kernel)) (pi_list (pv 0))
        (blkOk_by (own := [("one", 5)]) (N := nMer) (sc := defScope sMer) (by decide +kernel))
        (fun _ _ _ _ _ => pg_name (i := 5) scMer.nd rfl (Or.inl rfl)) (fun _ _ _ _ _ => pts_one (pt_cmpR (op_neS hr.units) (pv 5) (pe_lst pa_nil) (nomark _)))
        (fun _ _ _ _ _ => pe_callTy (r := rListOf K) cl_list (by rfl) mList (by decide +kernel) (pa_cons (pv 5) pa_nil)))
      (pss_cons (ps_set (i := 2) scMer.nd rfl (.inl rfl) (pe_lst pa_nil))
      (pss_cons (ps_while PassesOwn.never (pt_cmpR (op_ne0 hr.units) (pv 1) (pe_lst pa_nil) (nomark _))
        (pss_cons (ps_forE PassesOwn.never rfl (pi_list (pv 1)) (pg_star rfl (pgs_cons (pg_name (i := 3) scMer.nd rfl (.inr rfl)) (pgs_star (pg_name (i := 4) scMer.nd rfl (.inl rfl)))))
            (pss_one (ps_if (pt_val (pe_call GC hr (by rfl) gC FC.kp bC .nil pass0 (pa_cons (pv 3) (pa_cons (pv 1) pa_nil)))) (pss_one ps_break) pss_nil))
            (pss_one (ps_ret pe_non)))
        (pss_cons (ps_expr (pe_bm PySem.F.plainAttrs_list PySem.F.slot_list_append PySem.F.type_list_append mt_append (pv 2) (pa_cons (pv 3) pa_nil)))
        (pss_cons (ps_setLc (i := 1) (own := [("one", 5)]) (g := gName 5) (tt := tYes) rfl scMer.nd rfl rfl (sw_true rfl rfl rfl (by decide +kernel)) (pi_list (pv 1))
            (blkOk_by (own := [("one", 5)]) (N := nMer) (sc := defScope sMer) (by decide +kernel))
            (fun _ _ _ _ _ => pg_name (i := 5) scMer.nd rfl (Or.inl rfl)) (fun _ _ _ _ _ => pts_nil)
            (fun _ _ _ _ _ => pe_lc (own := [("name", 6)]) (g := gName 6) (wi := iList K (tVar 5)) rfl scMer.nd (pi_list (pv 5))
              (blkOk_by (own := [("name", 6)]) (N := nMer) (sc := relS scStrip (defScope sMer)) (by decide +kernel))
              (fun _ _ _ _ _ => pg_name (i := 6) scMer.nd rfl (Or.inl rfl)) (fun _ _ _ _ _ => pts_one (pt_cmpR op_ne (pv 6) (pv 3) (nomark _))) (fun _ _ _ _ _ => pv 6)))
        (pss_one (ps_setLc (i := 1) (own := [("one", 5)]) (g := gName 5) rfl scMer.nd rfl rfl (sw_true rfl rfl rfl (by decide +kernel)) (pi_list (pv 1))
            (blkOk_by (own := [("one", 5)]) (N := nMer) (sc := defScope sMer) (by decide +kernel))
            (fun _ _ _ _ _ => pg_name (i := 5) scMer.nd rfl (Or.inl rfl)) (fun _ _ _ _ _ => pts_one (pt_cmpR (op_neS hr.units) (pv 5) (pe_lst pa_nil) (nomark _)))
            (fun _ _ _ _ _ => pv 5)))))))
      (pss_one (ps_ret (pv 2))))), ?_⟩
    have hlen : ps.length ≤ 100 := by
      rw [LL.len h2]
      exact hz
    refine ⟨.ref a, rfl, a, rfl, ⟨_, .of h1⟩, fun w0 nw0 => lc_lists (src := ps) (val := pV) (fun _ => False) (fun p => if p.2 = [] then none else some p.2) (.of h1) nw0 (by omega) (fun p hp H2 s2 hd Nx n1 n2 => ?_) fun H1 s1 hw => ?_⟩
    · have hb : SL H2 p.1 p.2 := (h3 p hp).same s2
      refine ⟨rfl, .ref p.1, rfl, Nat.zero_le _, fun e he => ⟨p.1, e, p.2, [], rfl, rfl, hb.same (same_new he), upd_same, _, rfl, ?_⟩⟩
      by_cases e0 : p.2 = []
      · rw [decide_eq_true e0]
        exact n1 (if_pos e0) _ (same_new he)
      · rw [decide_eq_false e0]
        refine ⟨.ref p.1, rfl, p.1, _, rfl, .inl (hb.same (same_new he)).sq, fun l hl => ?_⟩
        refine n2 p.2 (if_neg e0) l _ ((same_new he).trans (same_new hl)) ?_ (fun z => z) upd_same
        obtain ⟨acc, hacc⟩ := hd
        exact (ne_of_none (same_new he _ _ hacc) hl).symm
    · have ew : (ps.filterMap fun p => if p.2 = [] then none else some p.2) = Mg.rest lists [] := by
        rw [Mg.rest_nil, ← h2]
        exact filter_pls ps
      rw [ew] at hw
      refine ⟨Nat.zero_le _, fun fa nfa => ?_⟩
      have s2 : Same H1 (upd H1 fa (.lst [])) := same_new nfa
      obtain ⟨av, wne⟩ := hw.ll.avoid nfa
      refine ⟨fun m σ H3 => ∃ wa f y3 y4 y5 y6, σ = [some (.ref a), some (.ref wa), some (.ref fa), y3, y4, y5, y6] ∧ MerSt H lists wa fa f H3 ∧ m = Mg.size (Mg.rest lists f),
        ⟨_, w0, [], none, none, none, none, rfl, ⟨s1.trans s2, s1.free nfa, wne, upd_same, av.same s2, .nil⟩, rfl⟩, ?_⟩
      rintro m σ H3 ⟨wa, f, y3, y4, y5, y6, rfl, ⟨sm, nf, wf, hf, hwa, run⟩, rfl⟩
      refine ⟨.ref wa, rfl, Nat.zero_le _, fun e he => ⟨wa, e, _, rfl, rfl, hwa.ll.same (same_new he), upd_same, _, rfl, ?_⟩⟩
      by_cases e0 : Mg.rest lists f = []
      · rw [decide_eq_true e0]
        exact ⟨.ref fa, rfl, qf _ _ f (sm.trans (same_new he)) nf (hf.same (same_new he)) run e0⟩
      · rw [decide_eq_false e0]
        refine ⟨fun σ' H' => ∃ m', m' < Mg.size (Mg.rest lists f) ∧ ∃ wa f y3 y4 y5 y6, σ' = [some (.ref a), some (.ref wa), some (.ref fa), y3, y4, y5, y6] ∧ MerSt H lists wa fa f H' ∧ m' = Mg.size (Mg.rest lists f), fun σ' H' h => h, ?_⟩
        have se : Same H3 (upd H3 e (.lst [])) := same_new he
        generalize hHw : upd H3 e (.lst []) = Hw at se ⊢
        have smw : Same H Hw := sm.trans se
        have hfw : SL Hw fa f := hf.same se
        obtain ⟨pw, hw1, hw2, hw3, hw4⟩ := hwa.same se
        generalize hws : Mg.rest lists f = ws at e0 hw2 ⊢
        have hwsl : ws.length ≤ 100 := by
          rw [← hws]
          exact Nat.le_trans (rest_len lists f) hz
        have hpl : pw.length = ws.length := LL.len hw2
        have hsz : f.length + Mg.size ws ≤ 1000 := by
          rw [← hws]
          exact Nat.le_trans run.len hz3
        have hat : ∀ (i : Nat) (p : PL), pw[i]? = some p → ws[i]? = some p.2 := fun i p hp => by rw [← hw2, List.getElem?_map, hp]; rfl
        refine ⟨.ref wa, rfl, wa, rfl, ⟨_, .of hw1⟩, forE_by pw.length
          (fun i σ H' => ∃ y3 y4, σ = [some (.ref a), some (.ref wa), some (.ref fa), y3, y4, y5, y6] ∧ Same Hw H' ∧ ∀ (j : Nat) y s, j < i → ws[j]? = some (y :: s) → Mg.canFirst ws y = false)
          ⟨y3, y4, rfl, Same.refl _, fun j y s hj => absurd hj (Nat.not_lt_zero j)⟩ ?_ ?_ ?_ ?_⟩
        · rintro i σ H' hi ⟨_, _, _, s', _⟩
          exact ⟨pw.map pV, pV pw[i], s'.seq (.of hw1), by rw [List.getElem?_map, List.getElem?_eq_getElem hi]; rfl⟩
        · rintro σ H' ⟨_, _, _, s', _⟩
          exact ⟨pw.map pV, s'.seq (.of hw1), by rw [List.length_map]; exact Nat.le_refl _⟩
        · rintro i x σ H4 H4' hi ⟨z3, z4, rfl, s4, hb⟩ ⟨rfl, hy⟩
          have hp : pw[i]? = some pw[i] := List.getElem?_eq_getElem hi
          generalize pw[i] = p at hp
          have ex : x = pV p := by
            have q := hy (pw.map pV) (s4.seq (.of hw1))
            rw [List.getElem?_map, hp] at q
            exact (Option.some.inj q).symm
          subst ex
          have hpw := hat i p hp
          have hpm : p ∈ pw := List.mem_of_getElem? hp
          have hpne : p.2 ≠ [] := Mg.rest_ne (lists := lists) (f := f) p.2 (by rw [hws]; exact List.mem_of_getElem? hpw)
          obtain ⟨y, t, ey⟩ := List.exists_cons_of_ne_nil hpne
          have hpb : SL H4' p.1 (y :: t) := by rw [← ey]; exact (hw3 p hpm).same s4
          refine ⟨p.1, .str y, t.map V.str, rfl, hpb.sq, fun D nD => ⟨_, _, rfl, _, _, rfl, rfl, ?_⟩⟩
          have s4d : Same H4' (upd H4' D (.lst (t.map V.str))) := same_new nD
          refine ⟨.str y, rfl, .ref wa, rfl, y, wa, ws, rfl, LL.same ⟨pw, hw1, hw2, hw3⟩ (s4.trans s4d), by omega, fun H5 s5 => ⟨_, rfl, ?_⟩⟩
          have sw5 : Same Hw H5 := (s4.trans s4d).trans s5
          by_cases hc : Mg.canFirst ws y = true
          · rw [hc]
            have hpick : Mg.pick ws = some y := Mg.pick_at (i := i) (r := t) (fun l hl => Mg.rest_ne (lists := lists) (f := f) l (by rw [hws]; exact hl)) (by rw [hpw, ey]) hc hb
            have hf5 : SL H5 fa f := hfw.same sw5
            refine ⟨.ref fa, rfl, .inl ⟨rfl, _, SqL.of hf5⟩, .str y, rfl, fa, _, _, rfl, rfl, hf5, ?_, ?_⟩
            · rw [List.length_map]
              exact small1000 (by omega)
            · have hw5 : LLa (· = fa) H5 wa ws := LLa.same ⟨pw, hw1, hw2, hw3, hw4⟩ sw5
              have hw6 := hw5.put (o := .lst (f.map V.str ++ [V.str y])) (c := fa) rfl wf
              have hf6 : SL (upd H5 fa (.lst (f.map V.str ++ [V.str y]))) fa (f ++ [y]) := by
                unfold SL
                rw [upd_same, List.map_append]
                rfl
              have sm6 : Same H (upd H5 fa (.lst (f.map V.str ++ [V.str y]))) := fun b o q => by
                rw [upd_ne (ne_of_none q nf)]
                exact sw5 _ _ (smw _ _ q)
              generalize upd H5 fa (.lst (f.map V.str ++ [V.str y])) = H6 at hw6 hf6 sm6 ⊢
              obtain ⟨p6, k1, k2, k3, k4⟩ := hw6
              refine ⟨.ref wa, rfl, wa, rfl, ⟨_, .of k1⟩, fun w1 nw1 => lc_lists (src := p6) (val := pV) (· = fa) (fun p => some (p.2.filter fun s => decide (s ≠ y))) (.of k1) nw1 (by rw [LL.len k2]; omega) (fun p hp H7 s7 hd Nx _ n2 => ?_) fun H7 s7 hw7 => ?_⟩
              · have hb7 : SL H7 p.1 p.2 := (k3 p hp).same s7
                have hl7 : p.2.length ≤ 1000 := by
                  have q := Mg.len_size (ls := ws) (l := p.2) (by rw [← k2]; exact List.mem_map.mpr ⟨p, hp, rfl⟩)
                  omega
                refine ⟨rfl, .ref p.1, rfl, p.1, rfl, ⟨_, hb7.sq⟩, fun w2 nw2 => lc_val (src := p.2) (val := V.str) (fun s => if s = y then none else some s) V.str hb7.sq nw2 hl7 (fun s hs H8 s8 hd8 Nx2 m1 m2 => ?_) fun H8 s8 hl8 => ?_⟩
                · refine ⟨rfl, .str s, rfl, .str y, rfl, rfl, _, rfl, ?_⟩
                  by_cases es : s = y
                  · have ed : decide (V.str s = V.str y) = true := decide_eq_true (by rw [es])
                    rw [ed]
                    exact m1 (if_pos es) _ (Same.refl _)
                  · have ed : decide (V.str s = V.str y) = false := decide_eq_false fun q => es (V.str.inj q)
                    rw [ed]
                    exact ⟨.str s, rfl, m2 s (if_neg es) _ (Same.refl _)⟩
                · have ef : (p.2.filterMap fun s => if s = y then none else some s) = p.2.filter fun s => decide (s ≠ y) := by
                    exact filter_ne y p.2
                  rw [ef] at hl8
                  obtain ⟨acc, hacc⟩ := hd
                  exact n2 _ rfl w2 H8 s8 (ne_of_none hacc nw2).symm (ne_of_none (s7 _ _ hf6) nw2).symm hl8
              · have ew7 : (p6.filterMap fun p => some (p.2.filter fun s => decide (s ≠ y))) = Mg.strip y ws := by
                  rw [← k2]
                  unfold Mg.strip
                  rw [List.map_map]
                  show List.filterMap (some ∘ fun p : PL => p.2.filter fun s => decide (s ≠ y)) p6 = _
                  rw [List.filterMap_eq_map]
                  rfl
                rw [ew7] at hw7
                have hf7 : SL H7 fa (f ++ [y]) := hf6.same s7
                obtain ⟨p7, l1, l2, l3, l4⟩ := hw7
                have hp7 : p7.length ≤ 100 := by
                  rw [LL.len l2]
                  unfold Mg.strip
                  rw [List.length_map]
                  exact hwsl
                refine ⟨.ref w1, rfl, w1, rfl, ⟨_, .of l1⟩, fun w2 nw2 => lc_lists (src := p7) (val := pV) (· = fa) (fun p => if p.2 = [] then none else some p.2) (.of l1) nw2 (by omega) (fun p hp H8 s8 hd Nx n1 n2 => ?_) fun H8 s8 hw8 => ?_⟩
                · have hb : SL H8 p.1 p.2 := (l3 p hp).same s8
                  refine ⟨rfl, .ref p.1, rfl, Nat.zero_le _, fun e he => ⟨p.1, e, p.2, [], rfl, rfl, hb.same (same_new he), upd_same, _, rfl, ?_⟩⟩
                  by_cases e0 : p.2 = []
                  · rw [decide_eq_true e0]
                    exact n1 (if_pos e0) _ (same_new he)
                  · rw [decide_eq_false e0]
                    exact ⟨.ref p.1, rfl, n2 p.2 (if_neg e0) p.1 _ (same_new he) (ne_of_none (l3 p hp) nw2) (l4 p hp) (hb.same (same_new he))⟩
                · have ew8 : (p7.filterMap fun p => if p.2 = [] then none else some p.2) = Mg.rest lists (f ++ [y]) := by
                    rw [← Mg.rest_snoc, hws, ← l2]
                    exact filter_pls p7
                  rw [ew8] at hw8
                  have hf8 : SL H8 fa (f ++ [y]) := hf7.same s8
                  have hpick2 : Mg.pick (Mg.rest lists f) = some y := by rw [hws]; exact hpick
                  refine ⟨_, ?_, w2, f ++ [y], _, _, _, _, rfl, ⟨sm6.trans (s7.trans s8), nf, (ne_of_none hf7 nw2).symm, hf8, hw8, .snoc run hpick2⟩, rfl⟩
                  have q := Mg.size_rest hpick2
                  rw [hws] at q
                  exact q
          · rw [eq_false_of_ne_true hc]
            refine ⟨_, _, rfl, sw5, fun j y' s' hj hj' => ?_⟩
            by_cases ej : j < i
            · exact hb j y' s' ej hj'
            · have : j = i := by omega
              subst this
              rw [hpw, ey] at hj'
              have q := Option.some.inj hj'
              injection q with q1 _
              subst q1
              exact eq_false_of_ne_true hc
        · rintro σ H4 ⟨z3, z4, rfl, s4, hb⟩
          refine qn _ f (smw.trans s4) run (by rw [hws]; exact e0) ?_
          rw [hws]
          refine Mg.pick_none fun j y s hj => hb j y s ?_ hj
          rw [hpl]
          exact (List.getElem?_eq_some_iff.mp hj).1
end
end K03
set_option Elab.async false
set_option linter.all false
set_option maxRecDepth 100000
set_option maxHeartbeats 4000000
namespace K03
open PySem PySem.Spec PyProof.Rows L2
theorem posA : (0 : Int) < 2305843009213693951 := by decide
theorem posB : (0 : Int) < 2305843009213693907 := by decide
/-! ### the bag: [great, mixed, turns] -/
def BagL (n : Int) (l : List V) : Prop := ∃ g c z : Int, l = [V.int g, V.int c, V.int z] ∧ 0 ≤ g ∧ 0 ≤ c ∧ c < 2305843009213693951 ∧ 0 ≤ z ∧ z ≤ n
section
variable {P : Program} {w : World} {K : PySem.W.Frag} {mg : Str → Option Value} {base : Heap}
/-- _law_bag(script, at) -/
def spBag (K : PySem.W.Frag) : Sp := fun vs H Q _ => ∃ (a : Addr) (ns : List Int) (i : Nat), vs = [.ref a, .int (i : Int)] ∧ SqL K H a (ns.map V.int) ∧ i ≤ 63 ∧ ∀ p l, H p = none → BagL 0 l → Q (.ref p) (upd H p (.lst l))
theorem ok_bag {f : Addr} {fd : FuncData} (F : Fun K "_law_bag" "_law_bag" sBag f fd) (mLen : mg "len" = none) (mAbs : mg "abs" = none) : FnOk P w K mg base CX0 1 f fd ["_law_script", "_law_at"] (spBag K) := by
  refine F.ok scBag (fun vs H Q E h => ?_) (fun cdv A outer s H vs Q E hr h => ?_)
  · obtain ⟨a, ns, i, rfl, _⟩ := h
    rfl
  · obtain ⟨a, ns, i, rfl, hS, hi, q⟩ := h
    refine ⟨_, pss_cons (ps_set (i := 2) scBag.nd rfl (.inl rfl) (pe_ifExp (pt_cmpR op_lt (pv 1) (pe_callB call_len_seq (by rfl) mLen PySem.boot_len (pa_cons (pv 0) pa_nil)) (nomark _)) (pe_ix ix_list (pv 0) (pv 1) (fun _ _ => rfl)) pe_int))
      (pss_cons (ps_set (i := 3) scBag.nd rfl (.inl rfl) (pe_ifExp (pt_cmpR op_ge (pe_callB call_abs (by rfl) mAbs (by decide +kernel) (pa_cons (pv 2) pa_nil)) (pe_op op_pow pe_int pe_int) (nomark _)) (pe_callB call_abs (by rfl) mAbs (by decide +kernel) (pa_cons (pv 2) pa_nil)) pe_int))
      (pss_one (ps_ret (pe_lst (pa_cons (pv 3) (pa_cons (pe_op op_mod (pe_op op_add (pe_op op_add (pe_op op_mul (pe_op op_mod (pv 2) pe_int) pe_int) (pe_op op_mul pe_int (pv 1))) pe_int) pe_int) (pa_cons pe_int pa_nil))))))), ?_⟩
    have fin : ∀ (cell great : Int), 0 ≤ great → ∀ p, H p = none → Q (.ref p) (upd H p (.lst [V.int great, V.int ((cell % 2305843009213693951 * 90917 + 31337 * (i : Int) + 271) % 2305843009213693907), V.int 0])) := fun cell great hg p hp => by
      refine q p _ hp ⟨great, _, 0, rfl, hg, ?_, ?_, by decide, by decide⟩
      · exact Int.emod_nonneg _ (by decide)
      · exact Int.lt_trans (Int.emod_lt_of_pos _ (by decide)) (by decide)
    have mid : ∀ (cell : Int), (-(2 ^ 64) < cell % 2305843009213693951 ∧ cell % 2305843009213693951 < 2 ^ 64) := fun cell => by
      have h1 := Int.emod_nonneg cell (show (2305843009213693951 : Int) ≠ 0 by decide)
      have h2 := Int.emod_lt_of_pos cell (show (0 : Int) < 2305843009213693951 by decide)
      omega
    have half : ∀ (cell : Int) (y3 : Option V), (tSeq (tAsg (tIf (tTest (tOp (rI0 fun i j => V.bl (decide (j ≤ i))) (tCB (fun xs H Q => ∃ i, xs = [V.int i] ∧ Q (V.int (if i < 0 then -i else i)) H) (tCons (tVar 2) tNil)) (tOp (rI CPow fun i j => V.int (i ^ j.toNat)) (tC (V.int 10)) (tC (V.int 18)))))
          (tCB (fun xs H Q => ∃ i, xs = [V.int i] ∧ Q (V.int (if i < 0 then -i else i)) H) (tCons (tVar 2) tNil)) (tC (V.int 0))) (gName 3))
        (tRet (tLst (tCons (tVar 3) (tCons (tOp (rI (fun _ j => 0 < j) fun i j => V.int (i % j)) (tOp (rI0 fun i j => V.int (i + j)) (tOp (rI0 fun i j => V.int (i + j)) (tOp (rI CMul fun i j => V.int (i * j)) (tOp (rI (fun _ j => 0 < j) fun i j => V.int (i % j)) (tVar 2) (tC (V.int 2305843009213693951))) (tC (V.int 90917)))
          (tOp (rI CMul fun i j => V.int (i * j)) (tC (V.int 31337)) (tVar 1))) (tC (V.int 271))) (tC (V.int 2305843009213693907))) (tCons (tC (V.int 0)) tNil))))))
        { nx := fun _ H' => Q .non H', rt := Q } [some (.ref a), some (.int (i : Int)), some (.int cell), y3] H := fun cell y3 => by
      refine ⟨.int cell, rfl, cell, rfl, 10, 18, rfl, rfl, ⟨by decide, by decide, by decide⟩, _, _, rfl, rfl, _, rfl, ?_⟩
      by_cases hg : (10 : Int) ^ (18 : Int).toNat ≤ (if cell < 0 then -cell else cell)
      · rw [decide_eq_true hg]
        refine ⟨.int cell, rfl, cell, rfl, ?_⟩
        refine ⟨_, rfl, _, rfl, cell, 2305843009213693951, rfl, rfl, posA, _, _, rfl, rfl, .inl (mid cell), .int (i : Int), rfl, _, _, rfl, rfl, .inl ⟨by decide, by decide⟩, _, _, rfl, rfl, _, _, rfl, rfl, _, _, rfl, rfl, posB, ?_⟩
        refine ⟨by show 3 ≤ sizeLine; decide, fun p hp => fin cell _ (by split <;> omega) p hp⟩
      · rw [decide_eq_false hg]
        refine ⟨_, rfl, _, rfl, cell, 2305843009213693951, rfl, rfl, posA, _, _, rfl, rfl, .inl (mid cell), .int (i : Int), rfl, _, _, rfl, rfl, .inl ⟨by decide, by decide⟩, _, _, rfl, rfl, _, _, rfl, rfl, _, _, rfl, rfl, posB, ?_⟩
        refine ⟨by show 3 ≤ sizeLine; decide, fun p hp => fin cell 0 (by decide) p hp⟩
    refine ⟨.int (i : Int), rfl, .ref a, rfl, a, ns.map V.int, rfl, .inl hS, _, _, rfl, rfl, _, rfl, ?_⟩
    by_cases hl : (i : Int) < ((ns.map V.int).length : Int)
    · rw [decide_eq_true hl]
      have hl' : i < ns.length := by
        rw [List.length_map] at hl
        omega
      refine ⟨.ref a, rfl, .int (i : Int), rfl, a, _, _, .int ns[i], rfl, rfl, hS, atI_nat (j := i) (by rw [List.getElem?_map, List.getElem?_eq_getElem hl']; rfl), ?_⟩
      exact half ns[i] none
    · rw [decide_eq_false hl]
      exact half 0 none
end
end K03
set_option Elab.async false
set_option linter.all false
set_option maxRecDepth 100000
set_option maxHeartbeats 4000000
namespace K03
open PySem PySem.Spec PyProof.Rows L2
theorem posC : (0 : Int) < 8192 ∧ (8192 : Int) < 1073741824 := ⟨by decide, by decide⟩
section
variable {P : Program} {w : World} {K : PySem.W.Frag} {mg : Str → Option Value} {base : Heap}
/-- _law_take(bag, many) -/
def spTak : Sp := fun vs H Q _ => ∃ (b : Addr) (n many : Int) (l : List V), vs = [.ref b, .int many] ∧ H b = some (.lst l) ∧ BagL n l ∧ n ≤ 10000 ∧ 1 ≤ many ∧ many ≤ 1000 ∧
  ∀ l' d, BagL (n + 1) l' → 0 ≤ d → d < many → Q (.int d) (upd H b (.lst l'))
theorem ok_tak {f : Addr} {fd : FuncData} (F : Fun K "_law_take" "_law_take" sTak f fd) : FnOk P w K mg base CX0 1 f fd ["_law_bag_here", "_law_many"] spTak := by
  refine F.ok scTak (fun vs H Q E h => ?_) (fun cdv A outer s H vs Q E hr h => ?_)
  · obtain ⟨b, n, many, l, rfl, _⟩ := h
    rfl
  · obtain ⟨b, n, many, l, rfl, hb, ⟨g, c, z, rfl, g0, c0, c1, z0, z1⟩, hn, m1, m2, q⟩ := h
    refine ⟨_, pss_cons (ps_if (pt_cmpR op_gt (pe_ix ix_list (pv 0) pe_int (fun _ _ => rfl)) pe_int (nomark _))
        (pss_cons (ps_set (i := 2) scTak.nd rfl (.inl rfl) (pe_op op_mod (pe_ix ix_list (pv 0) pe_int (fun _ _ => rfl)) (pv 1)))
        (pss_cons (ps_asg (pe_op op_fdiv (pe_ix ix_list (pv 0) pe_int (fun _ _ => rfl)) (pv 1)) (pg_sub (pv 0) pe_int set_list))
        (pss_one (ps_ret (pv 2))))) pss_nil)
      (pss_cons (ps_asg (pe_op op_add (pe_ix ix_list (pv 0) pe_int (fun _ _ => rfl)) pe_int) (pg_sub (pv 0) pe_int set_list))
      (pss_cons (ps_set (i := 3) scTak.nd rfl (.inl rfl) (pe_op op_mod (pe_op op_pow (pe_op op_add (pe_op op_add (pe_ix ix_list (pv 0) pe_int (fun _ _ => rfl))
          (pe_op op_mul (pe_op op_mul pe_int (pe_ix ix_list (pv 0) pe_int (fun _ _ => rfl))) (pe_ix ix_list (pv 0) pe_int (fun _ _ => rfl)))) pe_int) pe_int) pe_int))
      (pss_one (ps_ret (pe_op op_mod (pe_op op_fdiv (pe_op op_mod (pe_op op_add (pe_op op_mul (pv 3) pe_int) (pe_op op_mul pe_int (pe_ix ix_list (pv 0) pe_int (fun _ _ => rfl)))) pe_int) pe_int) (pv 1)))))), ?_⟩
    have mp : (0 : Int) < many := by omega
    have hd : ∀ x : Int, 0 ≤ x % many ∧ x % many < many := fun x => ⟨Int.emod_nonneg _ (by omega), Int.emod_lt_of_pos _ mp⟩
    refine ⟨.ref b, rfl, b, _, 0, .int g, rfl, rfl, .of hb, atI_nat (j := 0) rfl, _, _, rfl, rfl, _, rfl, ?_⟩
    by_cases hg : (0 : Int) < g
    · rw [decide_eq_true hg]
      refine ⟨.ref b, rfl, b, _, 0, .int g, rfl, rfl, .of hb, atI_nat (j := 0) rfl, .int many, rfl, _, _, rfl, rfl, mp, ?_⟩
      refine ⟨.ref b, rfl, b, _, 0, .int g, rfl, rfl, .of hb, atI_nat (j := 0) rfl, .int many, rfl, _, _, rfl, rfl, ⟨mp, by omega⟩, ?_⟩
      refine ⟨.ref b, rfl, b, _, 0, 0, rfl, rfl, hb, rfl, ?_⟩
      refine ⟨.int (g % many), rfl, q _ _ ⟨g / many, c, z, rfl, ?_, c0, c1, z0, by omega⟩ (hd g).1 (hd g).2⟩
      exact Int.ediv_nonneg g0 (by omega)
    · rw [decide_eq_false hg]
      refine ⟨.ref b, rfl, b, _, 2, .int z, rfl, rfl, .of hb, atI_nat (j := 2) rfl, _, _, rfl, rfl, ?_⟩
      refine ⟨.ref b, rfl, b, _, 2, 2, rfl, rfl, hb, rfl, ?_⟩
      have hb2 : (upd H b (.lst [V.int g, V.int c, V.int (z + 1)])) b = some (.lst [V.int g, V.int c, V.int (z + 1)]) := upd_same
      have hq := q [V.int g, V.int c, V.int (z + 1)]
      show (tSeq _ _ : TS) _ _ (upd H b (.lst [V.int g, V.int c, V.int (z + 1)]))
      generalize upd H b (.lst [V.int g, V.int c, V.int (z + 1)]) = H2 at hb2 hq ⊢
      have hz2 : 60493 * (z + 1) * (z + 1) ≤ 60493 * 10001 * 10001 := Int.mul_le_mul (by omega) (by omega) (by omega) (by omega)
      have hz3 : 0 ≤ 60493 * (z + 1) * (z + 1) := Int.mul_nonneg (by omega) (by omega)
      refine ⟨.ref b, rfl, b, _, 1, .int c, rfl, rfl, .of hb2, atI_nat (j := 1) rfl, .ref b, rfl, b, _, 2, .int (z + 1), rfl, rfl, .of hb2, atI_nat (j := 2) rfl, 60493, z + 1, rfl, rfl, .inl ⟨by decide, by decide⟩, ?_⟩
      refine ⟨.ref b, rfl, b, _, 2, .int (z + 1), rfl, rfl, .of hb2, atI_nat (j := 2) rfl, _, _, rfl, rfl, .inl ⟨by omega, by omega⟩, _, _, rfl, rfl, _, _, rfl, rfl, ?_⟩
      generalize 60493 * (z + 1) * (z + 1) = y at hz2 hz3 ⊢
      refine ⟨c + y + 7, 3, rfl, rfl, ⟨by decide, by decide, ?_⟩, _, _, rfl, rfl, posA, ?_⟩
      · show (c + y + 7).natAbs < 2 ^ 64
        omega
      · have x0 := Int.emod_nonneg ((c + y + 7) ^ (3 : Int).toNat) (show (2305843009213693951 : Int) ≠ 0 by decide)
        have x1 := Int.emod_lt_of_pos ((c + y + 7) ^ (3 : Int).toNat) posA
        refine ⟨.int ((c + y + 7) ^ (3 : Int).toNat % 2305843009213693951), rfl, _, 52361, rfl, rfl, .inl ⟨Int.lt_of_lt_of_le (by decide) x0, Int.lt_trans x1 (by decide)⟩, .ref b, rfl, b, _, 2, .int (z + 1), rfl, rfl, .of hb2, atI_nat (j := 2) rfl, 99991, z + 1, rfl, rfl, .inl ⟨by decide, by decide⟩, ?_⟩
        refine ⟨_, _, rfl, rfl, _, _, rfl, rfl, posB, _, _, rfl, rfl, posC, .int many, rfl, _, _, rfl, rfl, mp, ?_⟩
        exact hq _ ⟨g, c, z + 1, rfl, g0, c0, c1, by omega, by omega⟩ (hd _).1 (hd _).2
end
end K03
set_option Elab.async false
set_option linter.all false
set_option maxRecDepth 100000
set_option maxHeartbeats 4000000
namespace K03
open PySem PySem.Spec PyProof.Rows L2
/-! ### what is written and what is kept -/
/-- all that was tracked but what is to be avoided is as it was -/
def Keep (av : Addr → Prop) (H H' : Hp) : Prop := ∀ c o, ¬ av c → H c = some o → H' c = some o
theorem Keep.refl (av : Addr → Prop) (H : Hp) : Keep av H H := fun _ _ _ h => h
theorem Keep.trans {av : Addr → Prop} {H H1 H2 : Hp} (a : Keep av H H1) (b : Keep av H1 H2) : Keep av H H2 := fun c o n h => b c o n (a c o n h)
theorem Keep.mono {av av' : Addr → Prop} {H H1 : Hp} (a : Keep av H H1) (h : ∀ c, av c → av' c) : Keep av' H H1 := fun c o n e => a c o (fun z => n (h c z)) e
theorem Keep.new {av : Addr → Prop} {H : Hp} {p : Addr} {o : HO} (h : H p = none) : Keep av H (upd H p o) := fun c x _ e => same_new h c x e
theorem Keep.put {av : Addr → Prop} {H : Hp} {p : Addr} {o : HO} (h : av p) : Keep av H (upd H p o) := fun c x n e => by
  have ne : c ≠ p := fun q => n (by rw [q]; exact h)
  rw [upd_ne ne]
  exact e
theorem Keep.of {av : Addr → Prop} {H H1 : Hp} (s : Same H H1) : Keep av H H1 := fun c o _ h => s c o h
theorem LLa.keep {av : Addr → Prop} {H H' : Hp} {a : Addr} {ls : List (List Str)} (h : LLa av H a ls) (ha : ¬ av a) (k : Keep av H H') : LLa av H' a ls := by
  obtain ⟨ps, h1, h2, h3, h4⟩ := h
  exact ⟨ps, k _ _ ha h1, h2, fun p hp => k _ _ (h4 p hp) (h3 p hp), h4⟩
theorem LLa.wide {av av' : Addr → Prop} {H : Hp} {a : Addr} {ls : List (List Str)} (h : LLa av H a ls) (w : ∀ c o, H c = some o → av' c → av c) : LLa av' H a ls := by
  obtain ⟨ps, h1, h2, h3, h4⟩ := h
  exact ⟨ps, h1, h2, h3, fun p hp z => h4 p hp (w _ _ (h3 p hp) z)⟩
theorem LLa.keep2 {av av' : Addr → Prop} {H H' : Hp} {a : Addr} {ls : List (List Str)} (h : LLa av H a ls) (ha : ¬ av' a) (w : ∀ c o, H c = some o → av' c → av c) (k : Keep av' H H') : LLa av H' a ls := by
  obtain ⟨ps, h1, h2, h3, h4⟩ := h
  exact ⟨ps, k _ _ ha h1, h2, fun p hp => k _ _ (fun z => h4 p hp (w _ _ (h3 p hp) z)) (h3 p hp), h4⟩
/-- one more list -/
theorem LLa.snoc {av : Addr → Prop} {H : Hp} {a b : Addr} {ls : List (List Str)} {l : List Str} (h : LLa av H a ls) (ha : av a) (hb : SL H b l) (nb : ¬ av b) :
    ∃ xs, H a = some (.lst xs) ∧ xs.length = ls.length ∧ LLa av (upd H a (.lst (xs ++ [.ref b]))) a (ls ++ [l]) := by
  obtain ⟨ps, h1, h2, h3, h4⟩ := h
  refine ⟨ps.map pV, h1, by rw [List.length_map, LL.len h2], ps ++ [(b, l)], ?_, by rw [List.map_append, h2]; rfl, fun p hp => ?_, fun p hp => ?_⟩
  · rw [upd_same, List.map_append]
    rfl
  · have ne : p.1 ≠ a := by
      rcases List.mem_append.mp hp with q | q
      · exact fun e => h4 p q (by rw [e]; exact ha)
      · rw [List.mem_singleton.mp q]
        exact fun e => nb (by rw [show b = a from e]; exact ha)
    unfold SL
    rw [upd_ne ne]
    rcases List.mem_append.mp hp with q | q
    · exact h3 p q
    · rw [List.mem_singleton.mp q]
      exact hb
  · rcases List.mem_append.mp hp with q | q
    · exact h4 p q
    · rw [List.mem_singleton.mp q]
      exact nb
theorem BagL.mono {n m : Int} {l : List V} (h : BagL n l) (e : n ≤ m) : BagL m l := by
  obtain ⟨g, c, z, h1, h2, h3, h4, h5, h6⟩ := h
  exact ⟨g, c, z, h1, h2, h3, h4, h5, by omega⟩
theorem BagL.eq {n m : Int} {l : List V} (h : BagL n l) (e : n = m) : BagL m l := h.mono (by omega)
/-! ### drawing without putting back -/
abbrev letters : List Str := ["p", "q", "r", "s", "t", "u"]
theorem letters_nodup : letters.Nodup := by decide +kernel
theorem draw_nodup {lf ln : List Str} {k : Nat} {s : Str} (h : lf[k]? = some s) (hn : (lf ++ ln).Nodup) : (lf.eraseIdx k ++ (ln ++ [s])).Nodup := by
  obtain ⟨hk, e⟩ := List.getElem?_eq_some_iff.mp h
  have el : lf = lf.take k ++ s :: lf.drop (k + 1) := by
    rw [← e, ← List.drop_eq_getElem_cons hk, List.take_append_drop]
  rw [List.eraseIdx_eq_take_drop_succ]
  have p : (lf.take k ++ lf.drop (k + 1) ++ (ln ++ [s])).Perm (lf ++ ln) := by
    have p1 : (lf.take k ++ lf.drop (k + 1) ++ (ln ++ [s])).Perm (s :: (lf.take k ++ lf.drop (k + 1) ++ ln)) := by
      rw [← List.append_assoc]
      exact List.perm_append_singleton _ _
    refine p1.trans ?_
    have p2 : (lf ++ ln).Perm (s :: (lf.take k ++ lf.drop (k + 1) ++ ln)) := by
      rw [show lf ++ ln = lf.take k ++ s :: (lf.drop (k + 1) ++ ln) by
        conv => lhs; rw [el]
        simp]
      rw [List.append_assoc]
      exact List.perm_middle
    exact p2.symm
  exact p.nodup_iff.mpr hn
theorem seqIx {d : Int} {n : Nat} (h0 : 0 ≤ d) (h1 : d < n) : seqIndex? d n = some d.toNat := by
  unfold seqIndex?
  simp only [if_neg (show ¬ d < 0 by omega), h0, h1, decide_true, Bool.and_self, if_true]
theorem at3 (m : Int) {d : Int} (h0 : 0 ≤ d) (h1 : d < 3) : ∃ x, atI [V.int 2, V.int 2, V.int m] d = some (V.int x) ∧ (x = 2 ∨ x = m) := by
  have : d = 0 ∨ d = 1 ∨ d = 2 := by omega
  rcases this with e | e | e
  · subst e; exact ⟨2, atI_nat (j := 0) rfl, .inl rfl⟩
  · subst e; exact ⟨2, atI_nat (j := 1) rfl, .inl rfl⟩
  · subst e; exact ⟨m, atI_nat (j := 2) rfl, .inr rfl⟩
section
variable {P : Program} {w : World} {K : PySem.W.Frag} {mg : Str → Option Value} {base : Heap}
/-- _law_drawn_lists(bag) -/
def spDrw : Sp := fun vs H Q _ => ∃ (b : Addr) (n : Int) (l : List V), vs = [.ref b] ∧ H b = some (.lst l) ∧ BagL n l ∧ n ≤ 9000 ∧
  ∀ H' p l' lists, Keep (· = b) H H' → H' b = some (.lst l') → BagL (n + 46) l' → p ≠ b → LLa (· = b) H' p lists → lists.length ≤ 5 → (∀ x ∈ lists, x.Nodup ∧ x.length ≤ 4) → Q (.ref p) H'
theorem ok_drw {f fT : Addr} {fd fdT : FuncData} (F : Fun K "_law_drawn_lists" "_law_drawn_lists" sDrw f fd) (FT : Fun K "_law_take" "_law_take" sTak fT fdT) (bT : Binds K fdT ["_law_bag_here", "_law_many"] []) (gT : mg "_law_take" = some (.ref fT))
    (mRange : mg "range" = none) (mLen : mg "len" = none) : FnOk P w K mg base CX0 2 f fd ["_law_bag_here"] spDrw := by
  have GT : FnOk P w K mg base CX0 1 fT fdT ["_law_bag_here", "_law_many"] spTak := ok_tak FT
  refine F.ok scDrw (fun vs H Q E h => ?_) (fun cdv A outer s H vs Q E hr h => ?_)
  · obtain ⟨b, n, l, rfl, _⟩ := h
    rfl
  · obtain ⟨b, n, l, rfl, hb, hl, hn, q⟩ := h
    refine ⟨_, pss_cons (ps_set (i := 1) scDrw.nd rfl (.inl rfl) (pe_lst pa_nil))
      (pss_cons (ps_for PassesOwn.never rfl (pi_range1 (by rfl) mRange (pa_cons (pe_call GT hr (by rfl) gT FT.kp bT .nil pass0 (pa_cons (pv 0) (pa_cons pe_int pa_nil))) pa_nil)) (pg_name (i := 2) scDrw.nd rfl (.inl rfl))
        (pss_cons (ps_par (i := 3) (j := 4) rfl scDrw.nd rfl rfl (by decide) rfl rfl (pa_cons (pe_lst (pa_cons pe_str (pa_cons pe_str (pa_cons pe_str (pa_cons pe_str (pa_cons pe_str (pa_cons pe_str pa_nil))))))) (pa_cons (pe_lst pa_nil) pa_nil)) (by rfl))
        (pss_cons (ps_for PassesOwn.never rfl (pi_range1 (by rfl) mRange (pa_cons (pe_call GT hr (by rfl) gT FT.kp bT .nil pass0 (pa_cons (pv 0) (pa_cons pe_int pa_nil))) pa_nil)) (pg_name (i := 5) scDrw.nd rfl (.inl rfl))
          (pss_one (ps_expr (pe_bm PySem.F.plainAttrs_list PySem.F.slot_list_append PySem.F.type_list_append mt_append (pv 4)
            (pa_cons (pe_bm PySem.F.plainAttrs_list PySem.F.slot_list_pop PySem.F.type_list_pop mt_popAt (pv 3)
              (pa_cons (pe_call GT hr (by rfl) gT FT.kp bT .nil pass0 (pa_cons (pv 0) (pa_cons
                (pe_ix ix_list (pe_lst (pa_cons pe_int (pa_cons pe_int (pa_cons (pe_callB call_len_seq (by rfl) mLen PySem.boot_len (pa_cons (pv 3) pa_nil)) pa_nil))))
                  (pe_call GT hr (by rfl) gT FT.kp bT .nil pass0 (pa_cons (pv 0) (pa_cons pe_int pa_nil))) (fun _ _ => rfl)) pa_nil))) pa_nil)) pa_nil)))))
        (pss_one (ps_expr (pe_bm PySem.F.plainAttrs_list PySem.F.slot_list_append PySem.F.type_list_append mt_append (pv 1) (pa_cons (pv 4) pa_nil)))))))
      (pss_one (ps_ret (pv 1)))), ?_⟩
    refine ⟨Nat.zero_le _, fun fa nfa => ?_⟩
    have nfb : b ≠ fa := ne_of_none hb nfa
    have hb1 : (upd H fa (.lst [])) b = some (.lst l) := (upd_ne nfb).trans hb
    have k1 : Keep (· = b) H (upd H fa (.lst [])) := .new nfa
    have hf1 : (upd H fa (.lst [])) fa = some (.lst []) := upd_same
    generalize upd H fa (.lst []) = H1 at hb1 k1 hf1 ⊢
    refine ⟨.ref b, rfl, b, n, 6, l, rfl, hb1, hl, by omega, by decide, by decide, fun l1 d hl1 d0 d6 => ⟨d, rfl, by omega, by omega, for_range (lo := 0) (n := d.toNat)
      (fun i σ G => ∃ y2 y3 y4 y5 l' lists, σ = [some (.ref b), some (.ref fa), y2, y3, y4, y5] ∧ Keep (· = b) H G ∧ G b = some (.lst l') ∧ BagL (n + 1 + 9 * (i : Int)) l' ∧ LLa (fun c => c = b ∨ c = fa) G fa lists ∧ lists.length = i ∧ ∀ x ∈ lists, x.Nodup ∧ x.length ≤ 4)
      ⟨none, none, none, none, l1, [], rfl, k1.trans (.put rfl), upd_same, hl1.mono (by omega), ⟨[], (upd_ne nfb.symm).trans hf1, rfl, fun p hp => (nomatch hp), fun p hp => nomatch hp⟩, rfl, fun x hx => nomatch hx⟩ ?_ ?_⟩⟩
    · rintro i σ G hi ⟨y2, y3, y4, y5, l', lists, rfl, kG, hbG, hlG, hfG, hlen, hall⟩
      refine ⟨by show 6 ≤ sizeLine; decide, fun Le nLe => ⟨Nat.zero_le _, fun La nLa => ⟨_, _, rfl, ?_⟩⟩⟩
      have nLeb : b ≠ Le := ne_of_none hbG nLe
      have nLab : b ≠ La := ne_of_none ((upd_ne nLeb).trans hbG) nLa
      have nLL : Le ≠ La := ne_of_none (upd_same) nLa
      have nLa' : G La = none := by
        rw [upd_ne nLL.symm] at nLa
        exact nLa
      obtain ⟨fps, hfG1, _⟩ := id hfG
      have nfLe : fa ≠ Le := ne_of_none hfG1 nLe
      have nfLa : fa ≠ La := ne_of_none hfG1 nLa'
      have hb2 : (upd (upd G Le (.lst (letters.map V.str))) La (.lst [])) b = some (.lst l') := (upd_ne nLab).trans ((upd_ne nLeb).trans hbG)
      have k2 : Keep (fun c => c = b ∨ c = Le ∨ c = La) G (upd (upd G Le (.lst (letters.map V.str))) La (.lst [])) := (Keep.new nLe).trans (.new nLa)
      have hLe2 : SL (upd (upd G Le (.lst (letters.map V.str))) La (.lst [])) Le letters := (upd_ne nLL).trans upd_same
      have hLa2 : SL (upd (upd G Le (.lst (letters.map V.str))) La (.lst [])) La [] := upd_same
      show (tSeq _ _ : TS) _ _ (upd (upd G Le (.lst (letters.map V.str))) La (.lst []))
      generalize upd (upd G Le (.lst (letters.map V.str))) La (.lst []) = G2 at hb2 k2 hLe2 hLa2 ⊢
      have hi5 : i < 5 := by omega
      refine ⟨.ref b, rfl, b, n + 1 + 9 * (i : Int), 5, l', rfl, hb2, hlG, by omega, by decide, by decide, fun l2 e hl2 e0 e5 => ⟨e, rfl, by omega, by omega, for_range (lo := 0) (n := e.toNat)
        (fun j σ T => ∃ y5 l' lf ln, σ = [some (.ref b), some (.ref fa), some (.int (0 + (i : Int))), some (.ref Le), some (.ref La), y5] ∧ Keep (fun c => c = b ∨ c = Le ∨ c = La) G T ∧ T b = some (.lst l') ∧ BagL (n + 1 + 9 * (i : Int) + 1 + 2 * (j : Int)) l' ∧
          SL T Le lf ∧ SL T La ln ∧ (lf ++ ln).Nodup ∧ lf.length + j = 6 ∧ ln.length = j)
        ⟨y5, l2, letters, [], rfl, k2.trans (.put (.inl rfl)), upd_same, hl2.mono (by omega), (upd_ne nLeb.symm).trans hLe2, (upd_ne nLab.symm).trans hLa2, by rw [List.append_nil]; exact letters_nodup, rfl, rfl⟩ ?_ ?_⟩⟩
      · rintro j σ T hj ⟨z5, lb, lf, ln, rfl, kT, hbT, hlT, hLe, hLa, hnd, hlf, hln⟩
        have hj4 : j < 4 := by omega
        refine ⟨.ref La, rfl, .inl ⟨rfl, _, SqL.of hLa⟩, .ref Le, rfl, .inl ⟨rfl, _, SqL.of hLe⟩, .ref b, rfl, .ref Le, rfl, Le, _, rfl, .inl (.of hLe), by show 3 ≤ sizeLine; decide, fun p np => ?_⟩
        have npb : b ≠ p := ne_of_none hbT np
        have npe : Le ≠ p := ne_of_none hLe np
        have npa : La ≠ p := ne_of_none hLa np
        refine ⟨.ref b, rfl, b, _, 3, lb, rfl, (upd_ne npb).trans hbT, hlT, by omega, by decide, by decide, fun l3 d3 hl3 h30 h33 => ?_⟩
        obtain ⟨x, hx, hx2⟩ := at3 (((lf.map V.str).length : Nat) : Int) h30 h33
        rw [List.length_map] at hx2
        refine ⟨p, _, d3, .int x, rfl, rfl, .of ((upd_ne npb.symm).trans upd_same), hx, ?_⟩
        refine ⟨b, _, x, l3, rfl, upd_same, hl3, by omega, by omega, by omega, fun l4 d4 hl4 h40 h4x => ?_⟩
        have hd4 : d4 < (lf.length : Int) := by omega
        have hk : d4.toNat < lf.length := by omega
        have hs : lf[d4.toNat]? = some lf[d4.toNat] := List.getElem?_eq_getElem hk
        generalize lf[d4.toNat] = s at hs
        have hLe4 : (upd (upd (upd T p (.lst [V.int 2, V.int 2, V.int (((lf.map V.str).length : Nat) : Int)])) b (.lst l3)) b (.lst l4)) Le = some (.lst (lf.map V.str)) := (upd_ne nLeb.symm).trans ((upd_ne nLeb.symm).trans ((upd_ne npe).trans hLe))
        have hLa4 : (upd (upd (upd T p (.lst [V.int 2, V.int 2, V.int (((lf.map V.str).length : Nat) : Int)])) b (.lst l3)) b (.lst l4)) La = some (.lst (ln.map V.str)) := (upd_ne nLab.symm).trans ((upd_ne nLab.symm).trans ((upd_ne npa).trans hLa))
        have hb4 : (upd (upd (upd T p (.lst [V.int 2, V.int 2, V.int (((lf.map V.str).length : Nat) : Int)])) b (.lst l3)) b (.lst l4)) b = some (.lst l4) := upd_same
        have k4 : Keep (fun c => c = b ∨ c = Le ∨ c = La) T (upd (upd (upd T p (.lst [V.int 2, V.int 2, V.int (((lf.map V.str).length : Nat) : Int)])) b (.lst l3)) b (.lst l4)) := ((Keep.new np).trans (.put (.inl rfl))).trans (.put (.inl rfl))
        show rPopAt _ _ (upd (upd (upd T p (.lst [V.int 2, V.int 2, V.int (((lf.map V.str).length : Nat) : Int)])) b (.lst l3)) b (.lst l4)) _
        generalize upd (upd (upd T p (.lst [V.int 2, V.int 2, V.int (((lf.map V.str).length : Nat) : Int)])) b (.lst l3)) b (.lst l4) = T4 at hLe4 hLa4 hb4 k4 ⊢
        refine ⟨Le, lf.map V.str, d4, d4.toNat, .str s, rfl, rfl, hLe4, by omega, by omega, seqIx h40 (by rw [List.length_map]; exact hd4), by rw [List.getElem?_map, hs]; rfl, ?_⟩
        refine ⟨La, ln.map V.str, .str s, rfl, rfl, (upd_ne nLL.symm).trans hLa4, by rw [List.length_map]; exact small1000 (by omega), ?_⟩
        refine ⟨_, l4, lf.eraseIdx d4.toNat, ln ++ [s], rfl, (kT.trans k4).trans ((Keep.put (.inr (.inl rfl))).trans (.put (.inr (.inr rfl)))), (upd_ne nLab).trans ((upd_ne nLeb).trans hb4), ?_, ?_, ?_, draw_nodup hs hnd, ?_, ?_⟩
        · exact hl4.mono (by omega)
        · refine (upd_ne nLL).trans ?_
          rw [upd_same, List.eraseIdx_eq_take_drop_succ, List.eraseIdx_eq_take_drop_succ, List.map_append, List.map_take, List.map_drop]
        · unfold SL
          rw [upd_same, List.map_append]
          rfl
        · rw [List.length_eraseIdx, if_pos hk]
          omega
        · rw [List.length_append, List.length_singleton, hln]
      · rintro σ T ⟨z5, lb, lf, ln, rfl, kT, hbT, hlT, hLe, hLa, hnd, hlf, hln⟩
        have hfT : LLa (fun c => c = b ∨ c = fa) T fa lists := hfG.keep2 (av' := fun c => c = b ∨ c = Le ∨ c = La) (by
            rintro (z | z | z)
            · exact nfb z.symm
            · exact nfLe z
            · exact nfLa z) (by
            rintro c o hc (z | z | z)
            · exact .inl z
            · rw [z, nLe] at hc; cases hc
            · rw [z, nLa'] at hc; cases hc) kT
        obtain ⟨xs, hxs, hxl, hsn⟩ := hfT.snoc (.inr rfl) hLa (by
          rintro (z | z)
          · exact nLab z.symm
          · exact nfLa z.symm)
        refine ⟨.ref fa, rfl, .inl ⟨rfl, _, SqL.of hxs⟩, .ref La, rfl, fa, xs, _, rfl, rfl, hxs, small1000 (by omega), ?_⟩
        refine ⟨_, _, _, _, lb, lists ++ [ln], rfl, ?_, (upd_ne nfb).trans hbT, hlT.mono (by omega), hsn, by rw [List.length_append, List.length_singleton, hlen], ?_⟩
        · intro c o nc hc
          have hcG := kG c o nc hc
          have ncf : c ≠ fa := ne_of_none hc nfa
          rw [upd_ne ncf]
          refine kT c o ?_ hcG
          rintro (z | z | z)
          · exact nc z
          · rw [z, nLe] at hcG; cases hcG
          · rw [z, nLa'] at hcG; cases hcG
        · intro x hx
          rcases List.mem_append.mp hx with z | z
          · exact hall x z
          · rw [List.mem_singleton.mp z]
            exact ⟨(List.nodup_append.mp hnd).2.1, by omega⟩
    · rintro σ G ⟨y2, y3, y4, y5, l', lists, rfl, kG, hbG, hlG, hfG, hlen, hall⟩
      exact ⟨.ref fa, rfl, q G fa l' lists kG hbG (hlG.mono (by omega)) nfb.symm (hfG.wide fun c o _ z => .inl z) (by omega) hall⟩
end
end K03
set_option Elab.async false
set_option linter.all false
set_option maxRecDepth 100000
set_option maxHeartbeats 4000000
namespace K03
open PySem PySem.Spec PyProof.Rows L2
/-! ### a for over anything, by a word of the turn's number -/
theorem for_by {J : It} {g : TG} {tb : TS} {D : Ends} {σ : L2.St} {H : Hp} (n : Nat) (Pv : Nat → L2.St → Hp → Prop) (h0 : Pv 0 σ H) (hgo : ∀ i σ H, i < n → Pv i σ H → J.go i H) (hstop : ∀ σ H, Pv n σ H → J.stop n H)
    (hs : ∀ i x σ H H', i < n → Pv i σ H → J.yld i H x H' → g x σ H' fun σ2 H2 => tb { D with nx := Pv (i + 1), ct := Pv (i + 1), bk := D.nx } σ2 H2) (hd : ∀ σ H, Pv n σ H → D.nx σ H) :
    ∃ W : Nat → Nat → L2.St → Hp → Prop, (∃ m, W 0 m σ H) ∧ ∀ i m σ H, W i m σ H →
      (J.stop i H ∧ D.nx σ H) ∨ (J.go i H ∧ ∃ N : L2.St → Hp → Prop, (∀ σ' H', N σ' H' → ∃ m', m' < m ∧ W (i + 1) m' σ' H') ∧ ∀ x H', J.yld i H x H' → g x σ H' fun σ2 H2 => tb { D with nx := N, ct := N, bk := D.nx } σ2 H2) := by
  refine ⟨fun i m σ H => m + i = n ∧ Pv i σ H, ⟨n, by omega, h0⟩, ?_⟩
  rintro i m σ H ⟨e, p⟩
  by_cases c : i < n
  · exact .inr ⟨hgo i σ H c p, Pv (i + 1), fun σ' H' p' => ⟨m - 1, by omega, by omega, p'⟩, fun x H' y => hs i x σ H H' c p y⟩
  · have ei : i = n := by omega
    subst ei
    exact .inl ⟨hstop σ H p, hd σ H p⟩
/-! ### the dict of what comes behind -/
theorem any_key (k : Key) : ∀ kvs : List (Key × V), (kvs.any fun kv => decide (kv.1 = k)) = true ↔ k ∈ kvs.map (·.1)
  | [] => by simp
  | p :: r => by
    rw [List.any_cons, List.map_cons, List.mem_cons, Bool.or_eq_true, any_key k r, decide_eq_true_eq]
    exact ⟨fun h => h.imp Eq.symm id, fun h => h.imp Eq.symm id⟩
theorem keys_put_in {kvs : List (Key × V)} {k : Key} (v : V) (h : k ∈ kvs.map (·.1)) : (putK kvs k v).map (·.1) = kvs.map (·.1) := by
  unfold putK
  rw [if_pos ((any_key k kvs).mpr h), List.map_map]
  apply List.map_congr_left
  intro p _
  show (if p.1 = k then (p.1, v) else p).1 = p.1
  by_cases e : p.1 = k
  · rw [if_pos e]
  · rw [if_neg e]
theorem keys_put_new {kvs : List (Key × V)} {k : Key} (v : V) (h : k ∉ kvs.map (·.1)) : (putK kvs k v).map (·.1) = kvs.map (·.1) ++ [k] := by
  unfold putK
  rw [if_neg (fun z => h ((any_key k kvs).mp z)), List.map_append]
  rfl
abbrev Evs := List (Str × List Str)
/-- the entries of the dict: behind the events es -/
def BehK (H : Hp) (kvs : List (Key × V)) (es : Evs) : Prop := kvs.map (·.1) = (Mg.keys es).map Sum.inr ∧
  ∀ s, (s ∈ Mg.keys es → ∃ b, valV kvs (.inr s) = some (.ref b) ∧ SL H b (Mg.succ es s)) ∧ (s ∉ Mg.keys es → valV kvs (.inr s) = none)
def BehAt (H : Hp) (d : Addr) (es : Evs) : Prop := ∃ kvs, H d = some (.dK kvs) ∧ BehK H kvs es
theorem BehK.same {H H' : Hp} {kvs : List (Key × V)} {es : Evs} (h : BehK H kvs es) (s : Same H H') : BehK H' kvs es :=
  ⟨h.1, fun x => ⟨fun hx => let ⟨b, e, q⟩ := (h.2 x).1 hx; ⟨b, e, q.same s⟩, (h.2 x).2⟩⟩
theorem BehAt.same {H H' : Hp} {d : Addr} {es : Evs} (h : BehAt H d es) (s : Same H H') : BehAt H' d es := by
  obtain ⟨kvs, h1, h2⟩ := h
  exact ⟨kvs, s _ _ h1, h2.same s⟩
theorem inr_mem {s : Str} {l : List Str} : (Sum.inr s : Key) ∈ l.map Sum.inr ↔ s ∈ l := by
  rw [List.mem_map]
  exact ⟨fun ⟨x, hx, e⟩ => Sum.inr.inj e ▸ hx, fun h => ⟨s, h, rfl⟩⟩
/-- one more event -/
theorem BehAt.put {H : Hp} {d p : Addr} {es : Evs} {x : Str} {t : List Str} {kvs : List (Key × V)} (hd : H d = some (.dK kvs)) (hk : BehK H kvs es) (hp : SL H p (Mg.succ es x ++ t)) : BehAt (upd H d (.dK (putK kvs (.inr x) (.ref p)))) d (es ++ [(x, t)]) := by
  have nd : ∀ {b : Addr} {l : List Str}, SL H b l → SL (upd H d (.dK (putK kvs (.inr x) (.ref p)))) b l := fun {b l} h => by
    have ne : b ≠ d := ne_of (show H b = some (.lst (l.map V.str)) from h) hd (fun q => nomatch q)
    exact (upd_ne ne).trans h
  refine ⟨_, upd_same, ?_, fun s => ?_⟩
  · rw [Mg.keys_snoc]
    unfold Mg.addKey
    by_cases c : x ∈ Mg.keys es
    · rw [keys_put_in _ (by rw [hk.1]; exact inr_mem.mpr c), hk.1, if_pos (show (x, t).1 ∈ Mg.keys es from c)]
    · rw [keys_put_new _ (by rw [hk.1]; exact fun z => c (inr_mem.mp z)), hk.1, if_neg (show ¬ (x, t).1 ∈ Mg.keys es from c), List.map_append]
      rfl
  · rw [valV_put, Mg.succ_snoc, Mg.keys_snoc]
    by_cases e : s = x
    · subst e
      refine ⟨fun _ => ⟨p, if_pos rfl, nd ?_⟩, fun h => ?_⟩
      · rw [if_pos rfl]
        exact hp
      · refine absurd ?_ h
        unfold Mg.addKey
        by_cases c : s ∈ Mg.keys es
        · rw [if_pos (show (s, t).1 ∈ Mg.keys es from c)]
          exact c
        · rw [if_neg (show ¬ (s, t).1 ∈ Mg.keys es from c)]
          simp
    · have ne : ¬ (Sum.inr s : Key) = Sum.inr x := fun q => e (Sum.inr.inj q)
      have ne2 : ¬ x = s := fun q => e q.symm
      have mk : s ∈ Mg.addKey (Mg.keys es) (x, t) ↔ s ∈ Mg.keys es := by
        unfold Mg.addKey
        by_cases c : (x, t).1 ∈ Mg.keys es
        · rw [if_pos c]
        · rw [if_neg c]
          simp [e]
      rw [if_neg ne, if_neg ne2, List.append_nil, mk]
      exact ⟨fun hs => let ⟨b, e1, q⟩ := (hk.2 s).1 hs; ⟨b, e1, nd q⟩, (hk.2 s).2⟩
section
variable {P : Program} {w : World} {K : PySem.W.Frag} {mg : Str → Option Value} {base : Heap}
/-- _law_behind(lists) -/
def spBeh : Sp := fun vs H Q _ => ∃ (a : Addr) (lists : List (List Str)), vs = [.ref a] ∧ LL H a lists ∧ Mg.size lists ≤ 1000 ∧ ∀ H' d, Same H H' → H d = none → BehAt H' d (Mg.events lists) → Q (.ref d) H'
theorem ok_beh {f : Addr} {fd : FuncData} (F : Fun K "_law_behind" "_law_behind" sBeh f fd) (mEnum : mg "enumerate" = none) : FnOk P w K mg base CX0 1 f fd ["_law_lists"] spBeh := by
  refine F.ok scBeh (fun vs H Q E h => ?_) (fun cdv A outer s H vs Q E hr h => ?_)
  · obtain ⟨a, lists, rfl, _⟩ := h
    rfl
  · obtain ⟨a, lists, rfl, hL, hz, q⟩ := h
    obtain ⟨ps, h1, h2, h3⟩ := id hL
    refine ⟨_, pss_cons (ps_set (i := 1) scBeh.nd rfl (.inl rfl) pe_dnewK)
      (pss_cons (ps_for PassesOwn.never rfl (pi_list (pv 0)) (pg_name (i := 2) scBeh.nd rfl (.inl rfl))
        (pss_one (ps_for PassesOwn.never rfl (pi_enum (by rfl) mEnum (pa_cons (pv 2) pa_nil)) (pg_tup rfl (pgs_cons (pg_name (i := 3) scBeh.nd rfl (.inl rfl)) (pgs_cons (pg_name (i := 4) scBeh.nd rfl (.inl rfl)) pgs_nil)))
          (pss_one (ps_dput (hu_of hr) (pv 1) (pv 4) (pe_op op_cat (pe_dget2 (hu_of hr) (pv 1) (pv 4) (pe_lst pa_nil) ⟨rfl, rfl, rfl, rfl⟩)
            (pe_slice sl_list (pv 2) (po_some (pe_op op_add (pv 3) pe_int)) (po_some (pe_op op_add (pv 3) pe_int)))) rfl)))))
      (pss_one (ps_ret (pv 1)))), ?_⟩
    intro d nd
    have s1 : Same H (upd H d (.dK [])) := same_new nd
    refine ⟨.ref a, rfl, a, rfl, ⟨_, .of (s1 _ _ h1)⟩, for_list (K := K) (a := a) (xs := ps.map pV)
      (fun i σ G => ∃ y2 y3 y4, σ = [some (.ref a), some (.ref d), y2, y3, y4] ∧ Same H G ∧ BehAt G d (Mg.events ((ps.take i).map (·.2))))
      ⟨none, none, none, rfl, s1, [], upd_same, rfl, fun s => ⟨fun h => (nomatch h), fun _ => rfl⟩⟩ (fun i σ G _ ⟨_, _, _, _, sg, _⟩ => sg.seq (.of h1)) ?_ ?_⟩
    · rintro i x σ G hx ⟨y2, y3, y4, rfl, sG, bG⟩
      rw [List.getElem?_map] at hx
      cases hi : ps[i]? with
      | none => rw [hi] at hx; cases hx
      | some p =>
        rw [hi] at hx
        have ex : pV p = x := Option.some.inj hx
        subst ex
        have hp : p ∈ ps := List.mem_of_getElem? hi
        have hpH : SL H p.1 p.2 := h3 p hp
        have etk : (ps.take (i + 1)).map (·.2) = (ps.take i).map (·.2) ++ [p.2] := by
          rw [List.take_add_one, hi, List.map_append]
          rfl
        have hsz : Mg.size ((ps.take i).map (·.2)) + p.2.length ≤ 1000 := by
          have q1 := Mg.size_take lists (i + 1)
          rw [← h2, ← List.map_take, etk, Mg.size_snoc, h2] at q1
          omega
        generalize hes : Mg.events ((ps.take i).map (·.2)) = es at bG
        have hel : es.length = Mg.size ((ps.take i).map (·.2)) := by rw [← hes, Mg.events_len]
        have he1 : ∀ e ∈ es, e.2.length ≤ 1 := by rw [← hes]; exact Mg.events_one _
        refine ⟨.ref p.1, rfl, p.1, p.2.map V.str, rfl, (hpH.same sG).sq, for_by p.2.length
          (fun k σ T => ∃ y3 y4, σ = [some (.ref a), some (.ref d), some (.ref p.1), y3, y4] ∧ Same H T ∧ BehAt T d (es ++ (Mg.evs p.2).take k))
          ⟨y3, y4, rfl, sG, by rw [List.take_zero, List.append_nil]; exact bG⟩ ?_ ?_ ?_ ?_⟩
        · rintro k σ T hk ⟨_, _, _, sT, _⟩
          exact ⟨p.2.map V.str, .str p.2[k], (hpH.same sT).sq, by rw [List.getElem?_map, List.getElem?_eq_getElem hk]; rfl⟩
        · rintro σ T ⟨_, _, _, sT, _⟩
          exact ⟨p.2.map V.str, (hpH.same sT).sq, by rw [List.length_map]; exact Nat.le_refl _⟩
        · rintro k x σ T T' hk ⟨z3, z4, rfl, sT, bT⟩ ⟨Tp, x', rfl, nTp, rfl, hy⟩
          have hks : p.2[k]? = some p.2[k] := List.getElem?_eq_getElem hk
          generalize p.2[k] = s at hks
          have ex : x' = .str s := by
            have q1 := hy (p.2.map V.str) (hpH.same sT).sq
            rw [List.getElem?_map, hks] at q1
            exact (Option.some.inj q1).symm
          subst ex
          have sT1 : Same T (upd T Tp (.tup [.int (k : Nat), .str s])) := same_new nTp
          refine ⟨Tp, [.int (k : Nat), .str s], rfl, .inl (.inl upd_same), rfl, .int (k : Nat), [.str s], rfl, .str s, [], rfl, rfl, ?_⟩
          show sDPut _ _ _ _ _ (upd T Tp (.tup [.int (k : Nat), .str s]))
          generalize upd T Tp (.tup [.int (k : Nat), .str s]) = T1 at sT1 ⊢
          obtain ⟨kvs, hd, hk1⟩ := bT.same sT1
          generalize hes2 : es ++ (Mg.evs p.2).take k = es2 at hk1
          have hl2 : es2.length ≤ 1000 := by
            rw [← hes2, List.length_append, List.length_take, hel]
            omega
          have he2 : ∀ e ∈ es2, e.2.length ≤ 1 := by
            intro e he
            rw [← hes2] at he
            rcases List.mem_append.mp he with z | z
            · exact he1 e z
            · exact Mg.evs_one p.2 e (List.mem_of_mem_take z)
          have hkl : kvs.length ≤ 1000 := by
            have q1 : (kvs.map (·.1)).length = (Mg.keys es2).length := by rw [hk1.1, List.length_map]
            rw [List.length_map] at q1
            have q2 := Mg.keys_len es2
            omega
          refine ⟨.ref d, rfl, d, rfl, .inl ⟨kvs, .inl hd⟩, .str s, rfl, Nat.zero_le _, fun e he => ⟨valV kvs (.inr s), DGet.k (k := Sum.inr s) ((same_new he) _ _ hd), ?_⟩⟩
          have sT2 : Same T1 (upd T1 e (.lst [])) := same_new he
          obtain ⟨l, el, hl⟩ : ∃ l, (valV kvs (.inr s)).getD (.ref e) = .ref l ∧ SL (upd T1 e (.lst [])) l (Mg.succ es2 s) := by
            by_cases c : s ∈ Mg.keys es2
            · obtain ⟨b, eb, hb⟩ := (hk1.2 s).1 c
              exact ⟨b, by rw [eb]; rfl, hb.same sT2⟩
            · refine ⟨e, by rw [(hk1.2 s).2 c]; rfl, ?_⟩
              rw [Mg.succ_out c]
              exact upd_same
          show tSl _ _ _ _ _ (upd T1 e (.lst [])) _
          generalize upd T1 e (.lst []) = T2 at sT2 hl ⊢
          have sHT2 : Same H T2 := (sT.trans sT1).trans sT2
          refine ⟨.ref p.1, rfl, .int (k : Nat), rfl, _, _, rfl, rfl, _, rfl, .int (k : Nat), rfl, _, _, rfl, rfl, _, rfl, p.1, p.2.map V.str, rfl, (hpH.same sHT2).sq, fun c nc => ?_⟩
          have hlen : (Mg.succ es2 s).length ≤ 1000 := Nat.le_trans (Mg.succ_len he2 s) hl2
          have ecut : cutV (p.2.map V.str) (some ((k : Nat) + 1 : Int)) (some ((k : Nat) + 2 : Int)) = ((p.2.drop (k + 1)).take 1).map V.str := by
            refine (cut_mid (p.2.map V.str) (k + 1) (k + 2) (by omega)).trans ?_
            rw [show k + 2 - (k + 1) = 1 by omega, List.map_take, List.map_drop]
          have sT3 : Same T2 (upd T2 c (.lst (cutV (p.2.map V.str) (some ((k : Nat) + 1 : Int)) (some ((k : Nat) + 2 : Int))))) := same_new nc
          have hc3 : SL (upd T2 c (.lst (cutV (p.2.map V.str) (some ((k : Nat) + 1 : Int)) (some ((k : Nat) + 2 : Int))))) c ((p.2.drop (k + 1)).take 1) := by
            unfold SL
            rw [upd_same, ecut]
          refine ⟨l, c, _, _, el, rfl, hl.same sT3, hc3, ?_, fun r nr => ?_⟩
          · rw [List.length_map, List.length_map, List.length_take]
            exact Nat.le_trans (show _ ≤ 1001 by omega) (by decide)
          · have sT4 := same_new (o := .lst ((Mg.succ es2 s).map V.str ++ ((p.2.drop (k + 1)).take 1).map V.str)) nr
            have hr4 : SL (upd (upd T2 c (.lst (cutV (p.2.map V.str) (some ((k : Nat) + 1 : Int)) (some ((k : Nat) + 2 : Int))))) r (.lst ((Mg.succ es2 s).map V.str ++ ((p.2.drop (k + 1)).take 1).map V.str))) r (Mg.succ es2 s ++ (p.2.drop (k + 1)).take 1) := by
              unfold SL
              rw [upd_same, List.map_append]
            have sT5 := (sT2.trans sT3).trans sT4
            refine ⟨.ref d, rfl, .str s, rfl, d, _, rfl, DPut.k (k := Sum.inr s) (sT5 _ _ hd) (small1000 hkl), _, _, rfl, ?_, ?_⟩
            · intro b o hb
              rw [upd_ne (ne_of_none hb nd)]
              exact sT5 _ _ (sT1 _ _ (sT _ _ hb))
            · have e3 : es ++ (Mg.evs p.2).take (k + 1) = es2 ++ [(s, (p.2.drop (k + 1)).take 1)] := by
                rw [List.take_add_one, Mg.evs_at p.2 k s hks, ← List.append_assoc, hes2]
                rfl
              rw [e3]
              exact BehAt.put (sT5 _ _ hd) (hk1.same sT5) hr4
        · rintro σ T ⟨z3, z4, rfl, sT, bT⟩
          refine ⟨_, _, _, rfl, sT, ?_⟩
          rw [etk, Mg.events_snoc, hes]
          rw [List.take_of_length_le (by rw [Mg.evs_len]; exact Nat.le_refl _)] at bT
          exact bT
    · rintro σ G ⟨y2, y3, y4, rfl, sG, bG⟩
      rw [List.length_map, List.take_length, h2] at bG
      exact ⟨.ref d, rfl, q G d sG nd bG⟩
end
end K03
set_option Elab.async false
set_option linter.all false
set_option maxRecDepth 100000
set_option maxHeartbeats 4000000
namespace K03
open PySem PySem.Spec PyProof.Rows L2
/-- an entry is read, locked or not -/
theorem dget_rd {H : Hp} {d : Addr} {kvs : List (Key × V)} {s : Str} {b : Addr} (h : Rd H d (.dK kvs)) (e : valV kvs (.inr s) = some (.ref b)) : DGet H d (.str s) (some (.ref b)) := .inl ⟨kvs, .inr s, h, rfl, e.symm⟩
theorem snoc_of {α : Type} {l : List α} (h : l ≠ []) : ∃ t x, l = t ++ [x] := ⟨l.dropLast, l.getLast h, (List.dropLast_concat_getLast h).symm⟩
/-- what is new may be written -/
theorem same_put {G T : Hp} {p : Addr} {o : HO} (s : Same G T) (h : G p = none) : Same G (upd T p o) := fun b x e => by
  rw [upd_ne (ne_of_none e h)]
  exact s b x e
section
variable {P : Program} {w : World} {K : PySem.W.Frag} {mg : Str → Option Value} {base : Heap}
/-- _law_has_ring(behind) -/
def spRin : Sp := fun vs H Q _ => ∃ (d : Addr) (es : Evs), vs = [.ref d] ∧ BehAt H d es ∧ es.length ≤ 30 ∧ (∀ e ∈ es, e.2.length ≤ 1) ∧ (∀ s y, y ∈ Mg.succ es s → y ∈ Mg.keys es) ∧
  ∀ H' c, Same H H' → (c = true ↔ Mg.Ring fun s y => y ∈ Mg.succ es s) → Q (.bl c) H'
theorem ok_rin {f : Addr} {fd : FuncData} (F : Fun K "_law_has_ring" "_law_has_ring" sRin f fd) (mList : mg "list" = none) : FnOk P w K mg base CX0 1 f fd ["_law_behind_here"] spRin := by
  refine F.ok scRin (fun vs H Q E h => ?_) (fun cdv A outer s H vs Q E hr h => ?_)
  · obtain ⟨d, es, rfl, _⟩ := h
    rfl
  · obtain ⟨d, es, rfl, ⟨kvs, hd, hk⟩, hel, he1, hcl, q⟩ := h
    refine ⟨_, pss_cons (ps_lock (ps_for PassesOwn.never rfl (pi_keys (pv 0)) (pg_name (i := 1) scRin.nd rfl (.inl rfl))
        (pss_cons (ps_par (i := 2) (j := 3) rfl scRin.nd rfl rfl (by decide) rfl rfl (pa_cons (pe_lst pa_nil) (pa_cons (pe_callTy cl_list (by rfl) mList (by decide +kernel) (pa_cons (pe_dget (hu_of hr) (pv 0) (pv 1) (fun _ _ => rfl)) pa_nil)) pa_nil)) (by rfl))
        (pss_one (ps_while PassesOwn.never (pt_cmpR (op_neS hr.units) (pv 3) (pe_lst pa_nil) (nomark _))
          (pss_cons (ps_set (i := 4) scRin.nd rfl (.inl rfl) (pe_bm0 PySem.F.plainAttrs_list PySem.F.slot_list_pop PySem.F.type_list_pop mt_pop (pv 3)))
          (pss_cons (ps_if (pt_cmpR op_eq (pv 4) (pv 1) (nomark _)) (pss_one (ps_ret pe_bl)) pss_nil)
          (pss_one (ps_if (pt_cmpR op_notInL (pv 4) (pv 2) (by rfl))
            (pss_cons (ps_expr (pe_bm PySem.F.plainAttrs_list PySem.F.slot_list_append PySem.F.type_list_append mt_append (pv 2) (pa_cons (pv 4) pa_nil)))
            (pss_one (ps_expr (pe_bm PySem.F.plainAttrs_list PySem.F.slot_list_extend PySem.F.type_list_extend mt_extend (pv 3) (pa_cons (pe_dget (hu_of hr) (pv 0) (pv 4) (fun _ _ => rfl)) pa_nil))))) pss_nil)))))))))
      (pss_one (ps_ret pe_bl)), ?_⟩
    refine ⟨d, .dK kvs, hd, trivial, fun od => ?_⟩
    have hd1 : (upd H d (.frz od (.dK kvs))) d = some (.frz od (.dK kvs)) := upd_same
    have k1 : Keep (· = d) H (upd H d (.frz od (.dK kvs))) := .put rfl
    have hk1 : BehK (upd H d (.frz od (.dK kvs))) kvs es := ⟨hk.1, fun s => ⟨fun hs => by
      obtain ⟨b, e, hb⟩ := (hk.2 s).1 hs
      exact ⟨b, e, k1 _ _ (ne_of (show H b = some (.lst _) from hb) hd fun z => nomatch z) hb⟩, (hk.2 s).2⟩⟩
    generalize upd H d (.frz od (.dK kvs)) = H1 at hd1 k1 hk1 ⊢
    have back : ∀ G, Same H1 G → G d = some (.frz od (.dK kvs)) ∧ Same H (upd G d (.dK kvs)) := fun G sG => ⟨sG _ _ hd1, fun b o hb => by
      by_cases e : b = d
      · subst e
        rw [upd_same, ← hb, hd]
      · rw [upd_ne e]
        exact sG _ _ (k1 _ _ e hb)⟩
    have hkl : kvs.length = (Mg.keys es).length := by
      have z : (kvs.map (·.1)).length = ((Mg.keys es).map (Sum.inr : Str → Key)).length := by rw [hk.1]
      rw [List.length_map, List.length_map] at z
      exact z
    have hks : (Mg.keys es).length ≤ 30 := Nat.le_trans (Mg.keys_len es) hel
    have hsl : ∀ s, (Mg.succ es s).length ≤ 30 := fun s => Nat.le_trans (Mg.succ_len he1 s) hel
    refine ⟨.ref d, rfl, d, od, rfl, .inl ⟨kvs, hd1, for_by kvs.length
      (fun i σ G => ∃ y1 y2 y3 y4, σ = [some (.ref d), y1, y2, y3, y4] ∧ Same H1 G ∧ ∀ (j : Nat) s, j < i → (Mg.keys es)[j]? = some s → ¬ Mg.Way (fun s y => y ∈ Mg.succ es s) s s)
      ⟨none, none, none, none, rfl, Same.refl _, fun j s hj => absurd hj (Nat.not_lt_zero j)⟩ ?_ ?_ ?_ ?_⟩⟩
    · rintro i σ G hi ⟨_, _, _, _, _, sG, _⟩
      exact ⟨sG _ _ hd1, hi⟩
    · rintro σ G ⟨_, _, _, _, _, sG, _⟩
      exact ⟨sG _ _ hd1, Nat.le_refl _⟩
    · rintro i x σ G G' hi ⟨y1, y2, y3, y4, rfl, sG, hno⟩ ⟨rfl, k, v, hkv, rfl⟩
      obtain ⟨st, hst, rfl⟩ : ∃ st, (Mg.keys es)[i]? = some st ∧ k = Sum.inr st := by
        have z : (kvs.map (·.1))[i]? = some k := by rw [List.getElem?_map, hkv]; rfl
        rw [hk.1, List.getElem?_map] at z
        cases e : (Mg.keys es)[i]? with
        | none => rw [e] at z; cases z
        | some st =>
          rw [e] at z
          exact ⟨st, rfl, (Option.some.inj z).symm⟩
      have hsm : st ∈ Mg.keys es := List.mem_of_getElem? hst
      have hdG : Rd G' d (.dK kvs) := .inr ⟨od, sG _ _ hd1⟩
      have hkG := hk1.same sG
      refine ⟨Nat.zero_le _, fun se nse => ?_⟩
      have sG1 : Same G' (upd G' se (.lst [])) := same_new nse
      obtain ⟨b, eb, hb⟩ := (hkG.2 st).1 hsm
      refine ⟨.ref d, rfl, .str st, rfl, d, .ref b, rfl, dget_rd (.inr ⟨od, sG1 _ _ (sG _ _ hd1)⟩) eb, b, _, rfl, .inl (hb.same sG1).sq, fun ah nah => ⟨_, _, rfl, ?_⟩⟩
      have nae : ah ≠ se := (ne_of_none (upd_same (H := G') (a := se)) nah).symm
      have nah' : G' ah = none := by
        rw [upd_ne nae] at nah
        exact nah
      refine ⟨fun m σ T => ∃ y4 seen ahead, σ = [some (.ref d), some (.str st), some (.ref se), some (.ref ah), y4] ∧ Same G' T ∧ SL T se seen ∧ SL T ah ahead ∧ Mg.Dfs (fun s y => y ∈ Mg.succ es s) st seen ahead ∧
          (∀ y ∈ ahead, y ∈ Mg.keys es) ∧ seen.length + Mg.unseen (Mg.keys es) seen ≤ 30 ∧ Mg.unseen (Mg.keys es) seen * 31 + ahead.length = m ∧ m ≤ 1000,
        ⟨_, y4, [], Mg.succ es st, rfl, sG1.trans (same_new nah), (upd_ne nae.symm).trans upd_same, upd_same, .init fun y => Iff.rfl, fun y hy => hcl st y hy, ?_, rfl, ?_⟩, ?_⟩
      · have := Mg.unseen_le (Mg.keys es) []
        show 0 + _ ≤ _
        omega
      · have h1 := Mg.unseen_le (Mg.keys es) []
        have h2 := hsl st
        omega
      · rintro m σ T ⟨z4, seen, ahead, rfl, sT, hse, hah, D, hak, hsz, hm, hm1⟩
        refine ⟨.ref ah, rfl, Nat.zero_le _, fun e he => ⟨ah, e, ahead, [], rfl, rfl, hah.same (same_new he), upd_same, _, rfl, ?_⟩⟩
        have se1 : Same T (upd T e (.lst [])) := same_new he
        have sT1 := sT.trans se1
        have hse1 := hse.same se1
        have hah1 := hah.same se1
        generalize upd T e (.lst []) = T1 at sT1 hse1 hah1 ⊢
        by_cases c : ahead = []
        · rw [decide_eq_true c]
          refine ⟨_, _, _, _, rfl, sG.trans sT1, fun j s hj hjs => ?_⟩
          by_cases ej : j < i
          · exact hno j s ej hjs
          · have : j = i := by omega
            subst this
            rw [hst] at hjs
            rw [← Option.some.inj hjs]
            subst c
            exact D.done
        · rw [decide_eq_false c]
          obtain ⟨t, x, rfl⟩ := snoc_of c
          refine ⟨fun σ' H' => ∃ m', m' < m ∧ ∃ y4 seen ahead, σ' = [some (.ref d), some (.str st), some (.ref se), some (.ref ah), y4] ∧ Same G' H' ∧ SL H' se seen ∧ SL H' ah ahead ∧ Mg.Dfs (fun s y => y ∈ Mg.succ es s) st seen ahead ∧
            (∀ y ∈ ahead, y ∈ Mg.keys es) ∧ seen.length + Mg.unseen (Mg.keys es) seen ≤ 30 ∧ Mg.unseen (Mg.keys es) seen * 31 + ahead.length = m' ∧ m' ≤ 1000, fun σ' H' h => h, ?_⟩
          refine ⟨.ref ah, rfl, .inl ⟨rfl, _, SqL.of hah1⟩, ah, _, .str x, rfl, rfl, hah1, ?_, ?_⟩
          · rw [List.map_append, List.length_append]
            simp
          · have edl : ((t ++ [x]).map V.str).dropLast = t.map V.str := by
              rw [List.map_append]
              exact List.dropLast_concat
            rw [edl]
            have sT2 : Same G' (upd T1 ah (.lst (t.map V.str))) := same_put sT1 nah'
            have hse2 : SL (upd T1 ah (.lst (t.map V.str))) se seen := (upd_ne nae.symm).trans hse1
            have hah2 : SL (upd T1 ah (.lst (t.map V.str))) ah t := upd_same
            generalize upd T1 ah (.lst (t.map V.str)) = T2 at sT2 hse2 hah2 ⊢
            have hxk : x ∈ Mg.keys es := hak x (by simp)
            rw [List.length_append, List.length_singleton] at hm
            refine ⟨.str x, rfl, .str st, rfl, rfl, _, rfl, ?_⟩
            by_cases c1 : x = st
            · rw [decide_eq_true (show V.str x = V.str st by rw [c1])]
              obtain ⟨b1, b2⟩ := back T2 (sG.trans sT2)
              refine ⟨b1, q _ true b2 ⟨fun _ => ⟨st, ?_⟩, fun _ => rfl⟩⟩
              have wy := D.way x (.inr (by simp))
              rw [c1] at wy
              exact wy
            · rw [decide_eq_false (show ¬ V.str x = V.str st from fun z => c1 (V.str.inj z))]
              refine ⟨.str x, rfl, .ref se, rfl, x, se, seen, rfl, rfl, hse2, _, rfl, ?_⟩
              by_cases c2 : x ∈ seen
              · rw [decide_eq_true c2]
                exact ⟨_, by omega, _, seen, t, rfl, sT2, hse2, hah2, D.skip c2, fun y hy => hak y (List.mem_append_left _ hy), hsz, rfl, by omega⟩
              · rw [decide_eq_false c2]
                have hun := Mg.unseen_lt c2 hxk
                refine ⟨.ref se, rfl, .inl ⟨rfl, _, SqL.of hse2⟩, .str x, rfl, se, _, _, rfl, rfl, hse2, by rw [List.length_map]; exact small1000 (by omega), ?_⟩
                have sT3 : Same G' (upd T2 se (.lst (seen.map V.str ++ [V.str x]))) := same_put sT2 nse
                have hse3 : SL (upd T2 se (.lst (seen.map V.str ++ [V.str x]))) se (seen ++ [x]) := by
                  unfold SL
                  rw [upd_same, List.map_append]
                  rfl
                have hah3 : SL (upd T2 se (.lst (seen.map V.str ++ [V.str x]))) ah t := (upd_ne nae).trans hah2
                generalize upd T2 se (.lst (seen.map V.str ++ [V.str x])) = T3 at sT3 hse3 hah3 ⊢
                obtain ⟨b, eb, hb⟩ := ((hkG.same sT3).2 x).1 hxk
                have h2 := hsl x
                refine ⟨.ref ah, rfl, .inl ⟨rfl, _, SqL.of hah3⟩, .ref d, rfl, .str x, rfl, d, .ref b, rfl, dget_rd (.inr ⟨od, sT3 _ _ (sG _ _ hd1)⟩) eb, ah, b, _, _, rfl, rfl, hah3, hb, ?_, ?_⟩
                · rw [List.length_map, List.length_map]
                  exact Nat.le_trans (show _ ≤ 1030 by omega) (by decide)
                · refine ⟨_, ?_, _, seen ++ [x], t ++ Mg.succ es x, rfl, same_put sT3 nah', (upd_ne nae.symm).trans hse3, ?_, D.add c1 fun y => Iff.rfl, ?_, ?_, rfl, ?_⟩
                  · rw [List.length_append]
                    omega
                  · unfold SL
                    rw [upd_same, List.map_append]
                  · intro y hy
                    rcases List.mem_append.mp hy with z | z
                    · exact hak y (List.mem_append_left _ z)
                    · exact hcl x y z
                  · rw [List.length_append, List.length_singleton]
                    omega
                  · rw [List.length_append]
                    omega
    · rintro σ G ⟨y1, y2, y3, y4, rfl, sG, hno⟩
      obtain ⟨b1, b2⟩ := back G sG
      refine ⟨b1, q _ false b2 ⟨fun z => (nomatch z), fun ⟨s, ws⟩ => ?_⟩⟩
      have hsk : s ∈ Mg.keys es := by
        apply Classical.byContradiction
        intro hn
        have e0 := Mg.succ_out hn
        cases ws with
        | one r => rw [e0] at r; cases r
        | more r _ => rw [e0] at r; cases r
      obtain ⟨j, hj⟩ := List.getElem?_of_mem hsk
      exact absurd ws (hno j s (by rw [hkl]; exact (List.getElem?_eq_some_iff.mp hj).1) hj)
end
end K03
set_option Elab.async false
set_option linter.all false
set_option maxRecDepth 100000
set_option maxHeartbeats 4000000
namespace K03
open PySem PySem.Spec PyProof.Rows L2
def retScope : Stmt → Scope
  | .Return (some e) _ => lcScope e
  | _ => { kind := .function, names := [], isGenerator := false, isCoroutine := false }
def scLeft : Scope := asgScope ((defBody sFst).getD 0 noStmt)
def scHead : Scope := retScope ((defBody sFst).getD 2 noStmt)
theorem filter_if {α : Type} (p : α → Bool) : ∀ l : List α, (l.filterMap fun s => if p s = true then some s else none) = l.filter p
  | [] => rfl
  | s :: l => by
    rw [List.filterMap_cons, List.filter_cons, filter_if p l]
    by_cases h : p s = true
    · rw [if_pos h, if_pos h]
    · rw [if_neg h, if_neg h]
theorem filter_out (known : List Str) : ∀ l : List Str, (l.filterMap fun s => if s ∈ known then none else some s) = l.filter fun s => decide (s ∉ known)
  | [] => rfl
  | s :: l => by
    rw [List.filterMap_cons, List.filter_cons, filter_out known l]
    by_cases h : s ∈ known
    · simp [h]
    · simp [h]
/-- the lines in which a string stands behind another one -/
theorem tails_nil (x : Str) : ∀ ps : List PL, decide ((ps.filterMap fun p => if x ∈ p.2.tail then some p.2 else none) = []) = Mg.canFirst (ps.map (·.2)) x
  | [] => by simp [Mg.canFirst]
  | p :: ps => by
    have ih := tails_nil x ps
    unfold Mg.canFirst at ih ⊢
    rw [List.filterMap_cons, List.map_cons, List.all_cons, ← ih]
    by_cases h : x ∈ p.2.tail
    · simp [h]
    · simp [h]
section
variable {P : Program} {w : World} {K : PySem.W.Frag} {mg : Str → Option Value} {base : Heap}
/-- _law_first_ones(lists, known) -/
def spFst : Sp := fun vs H Q _ => ∃ (a kn : Addr) (lists : List (List Str)) (known : List Str), vs = [.ref a, .ref kn] ∧ LL H a lists ∧ SL H kn known ∧ lists.length ≤ 100 ∧ Mg.size lists ≤ 1000 ∧
  ∀ H' p, Same H H' → H p = none → SL H' p (Mg.firsts lists known) → Q (.ref p) H'
theorem ok_fst {f : Addr} {fd : FuncData} (F : Fun K "_law_first_ones" "_law_first_ones" sFst f fd) : FnOk P w K mg base CX0 1 f fd ["_law_lists", "_law_known"] spFst := by
  refine F.ok scFst (fun vs H Q E h => ?_) (fun cdv A outer s H vs Q E hr h => ?_)
  · obtain ⟨a, kn, lists, known, rfl, _⟩ := h
    rfl
  · obtain ⟨a, kn, lists, known, rfl, hL, hkn, hz, hz2, q⟩ := h
    obtain ⟨ps, h1, h2, h3⟩ := id hL
    refine ⟨_, pss_cons (ps_set (i := 2) scFst.nd rfl (.inr rfl) (pe_lc (own := [("_law_line", 4)]) (g := gName 4) (tt := tYes) rfl scFst.nd (pi_list (pv 0))
        (blkOk_by (own := [("_law_line", 4)]) (N := nFst) (sc := defScope sFst) (by decide +kernel))
        (fun _ _ _ _ _ => pg_name (i := 4) scFst.nd rfl (Or.inl rfl)) (fun _ _ _ _ _ => pts_nil)
        (fun _ _ _ _ _ => pe_lc (own := [("_law_one", 5)]) (g := gName 5) (wi := iList K (tVar 4)) rfl scFst.nd (pi_list (pv 4))
          (blkOk_by (own := [("_law_one", 5)]) (N := nFst) (sc := relS scLeft (defScope sFst)) (by decide +kernel))
          (fun _ _ _ _ _ => pg_name (i := 5) scFst.nd rfl (Or.inl rfl)) (fun _ _ _ _ _ => pts_one (pt_cmpR op_notInL (pv 5) (pv 1) (by rfl))) (fun _ _ _ _ _ => pv 5))))
      (pss_cons (ps_setLc (i := 3) (own := [("_law_line", 4)]) (g := gName 4) rfl scFst.nd rfl rfl (sw_true rfl rfl rfl (by decide +kernel)) (pi_list (pv 2))
        (blkOk_by (own := [("_law_line", 4)]) (N := nFst) (sc := defScope sFst) (by decide +kernel))
        (fun _ _ _ _ _ => pg_name (i := 4) scFst.nd rfl (Or.inl rfl)) (fun _ _ _ _ _ => pts_one (pt_cmpR (op_neS hr.units) (pv 4) (pe_lst pa_nil) (nomark _)))
        (fun _ _ _ _ _ => pe_ix (r := rIxL K) ix_list (pv 4) pe_int (fun _ _ => rfl)))
      (pss_one (ps_ret (pe_lc (own := [("_law_one", 5)]) (g := gName 5) rfl scFst.nd (pi_list (pv 3))
        (blkOk_by (own := [("_law_one", 5)]) (N := nFst) (sc := defScope sFst) (by decide +kernel))
        (fun _ _ _ _ _ => pg_name (i := 5) scFst.nd rfl (Or.inr rfl))
        (fun _ _ _ _ _ => pts_one (pt_cmpR (op_eq0 hr.units) (pe_lc (own := [("_law_line", 4)]) (g := gName 4) (wi := iList K (tVar 2)) rfl scFst.nd (pi_list (pv 2))
            (blkOk_by (own := [("_law_line", 4)]) (N := nFst) (sc := relS scHead (defScope sFst)) (by decide +kernel))
            (fun _ _ _ _ _ => pg_name (i := 4) scFst.nd rfl (Or.inl rfl)) (fun _ _ _ _ _ => pts_one (pt_cmpR op_inL (pv 5) (pe_slice (r := rSlL K) sl_list (pv 4) (po_some pe_int) po_none) (by rfl))) (fun _ _ _ _ _ => pv 4))
          (pe_lst pa_nil) (nomark _)))
        (fun _ _ _ _ _ => pv 5))))), ?_⟩
    have hlen : ps.length ≤ 100 := by
      rw [LL.len h2]
      exact hz
    have hlin : ∀ p ∈ ps, p.2.length ≤ 1000 := fun p hp => Nat.le_trans (Mg.len_size (ls := lists) (by rw [← h2]; exact List.mem_map.mpr ⟨p, hp, rfl⟩)) hz2
    refine ⟨.ref a, rfl, a, rfl, ⟨_, .of h1⟩, fun w1 nw1 => lc_lists (src := ps) (val := pV) (fun _ => False) (fun p => some (p.2.filter fun s => decide (s ∉ known))) (.of h1) nw1 (by omega) (fun p hp H2 s2 hd Nx _ n2 => ?_) fun H1 s1 hw => ?_⟩
    · have hb : SL H2 p.1 p.2 := (h3 p hp).same s2
      refine ⟨rfl, .ref p.1, rfl, p.1, rfl, ⟨_, hb.sq⟩, fun w2 nw2 => lc_val (src := p.2) (val := V.str) (fun s => if s ∈ known then none else some s) V.str hb.sq nw2 (hlin p hp) (fun s hs H3 s3 hd3 Nx2 m1 m2 => ?_) fun H3 s3 hl3 => ?_⟩
      · refine ⟨rfl, .str s, rfl, .ref kn, rfl, s, kn, known, rfl, rfl, (hkn.same s2).same s3, _, rfl, ?_⟩
        by_cases c : s ∈ known
        · rw [decide_eq_true c]
          exact m1 (if_pos c) _ (Same.refl _)
        · rw [decide_eq_false c]
          exact ⟨.str s, rfl, m2 s (if_neg c) _ (Same.refl _)⟩
      · rw [filter_out] at hl3
        obtain ⟨acc, hacc⟩ := hd
        exact n2 _ rfl w2 H3 s3 (ne_of_none hacc nw2).symm (fun z => z) hl3
    · have ew : (ps.filterMap fun p => some (p.2.filter fun s => decide (s ∉ known))) = Mg.left lists known := by
        rw [← h2]
        unfold Mg.left
        rw [List.map_map]
        show List.filterMap (some ∘ fun p : PL => p.2.filter fun s => decide (s ∉ known)) ps = _
        rw [List.filterMap_eq_map]
        rfl
      rw [ew] at hw
      obtain ⟨p2, k1, k2, k3, _⟩ := hw
      have hp2 : p2.length ≤ 100 := by
        rw [LL.len k2]
        unfold Mg.left
        rw [List.length_map]
        exact hz
      refine ⟨.ref w1, rfl, w1, rfl, ⟨_, .of k1⟩, fun w2 nw2 => lc_val (src := p2) (val := pV) (fun p => p.2.head?) V.str (.of k1) nw2 (by omega) (fun p hp H2 s2 hd Nx n1 n2 => ?_) fun H2 s2 hh => ?_⟩
      · have hb : SL H2 p.1 p.2 := (k3 p hp).same s2
        refine ⟨rfl, .ref p.1, rfl, Nat.zero_le _, fun e he => ⟨p.1, e, p.2, [], rfl, rfl, hb.same (same_new he), upd_same, _, rfl, ?_⟩⟩
        by_cases c : p.2 = []
        · rw [decide_eq_true c]
          exact n1 (by rw [c]; rfl) _ (same_new he)
        · rw [decide_eq_false c]
          obtain ⟨x, r, ex⟩ := List.exists_cons_of_ne_nil c
          refine ⟨.ref p.1, rfl, p.1, p.2.map V.str, 0, .str x, rfl, rfl, (hb.same (same_new he)).sq, atI_nat (j := 0) (by rw [ex]; rfl), ?_⟩
          exact n2 x (by rw [ex]; rfl) _ (same_new he)
      · have eh : (p2.filterMap fun p => p.2.head?) = Mg.heads (Mg.left lists known) := by
          rw [← k2]
          unfold Mg.heads
          rw [List.filterMap_map]
          rfl
        rw [eh] at hh
        have hhl : (Mg.heads (Mg.left lists known)).length ≤ 1000 := by
          rw [← eh]
          exact Nat.le_trans (List.length_filterMap_le _ _) (by omega)
        refine ⟨.ref w2, rfl, w2, rfl, ⟨_, .of hh⟩, fun w3 nw3 => lc_val (src := Mg.heads (Mg.left lists known)) (val := V.str) (fun x => if Mg.canFirst (Mg.left lists known) x = true then some x else none) V.str (.of hh) nw3 hhl (fun x hx H3 s3 hd Nx n1 n2 => ?_) fun H3 s3 hl => ?_⟩
        · have kw1 : H3 w1 = some (.lst (p2.map pV)) := s3 _ _ (s2 _ _ k1)
          refine ⟨rfl, .ref w1, rfl, w1, rfl, ⟨_, .of kw1⟩, fun w4 nw4 => lc_lists (src := p2) (val := pV) (fun _ => False) (fun p => if x ∈ p.2.tail then some p.2 else none) (.of kw1) nw4 (by omega) (fun p hp H4 s4 hd4 Nx2 m1 m2 => ?_) fun H4 s4 hl4 => ?_⟩
          · have hb : SL H4 p.1 p.2 := (((k3 p hp).same s2).same s3).same s4
            refine ⟨rfl, .str x, rfl, .ref p.1, rfl, 1, rfl, p.1, p.2.map V.str, rfl, hb.sq, fun c nc => ?_⟩
            refine ⟨x, c, p.2.tail, rfl, rfl, ?_, _, rfl, ?_⟩
            · show (upd H4 c _) c = _
              rw [upd_same, cut1, ← List.drop_one, List.map_drop]
            · have s5 := same_new (H := H4) (o := .lst (cutV (p.2.map V.str) (some 1) none)) nc
              by_cases ct : x ∈ p.2.tail
              · rw [decide_eq_true ct]
                refine ⟨.ref p.1, rfl, m2 p.2 (if_pos ct) p.1 _ s5 ?_ (fun z => z) (hb.same s5)⟩
                exact ne_of_none (((k3 p hp).same s2).same s3) nw4
              · rw [decide_eq_false ct]
                exact m1 (if_neg ct) _ s5
          · refine ⟨Nat.zero_le _, fun e he => ⟨w4, e, _, rfl, rfl, hl4.ll.same (same_new he), upd_same, _, rfl, ?_⟩⟩
            rw [tails_nil, k2]
            by_cases cf : Mg.canFirst (Mg.left lists known) x = true
            · rw [cf]
              exact ⟨.str x, rfl, n2 x (if_pos cf) _ (s4.trans (same_new he))⟩
            · rw [eq_false_of_ne_true cf]
              exact n1 (if_neg cf) _ (s4.trans (same_new he))
        · rw [filter_if] at hl
          exact q H3 w3 ((s1.trans s2).trans s3) ((s1.trans s2).free nw3) hl
end
end K03
set_option Elab.async false
set_option linter.all false
set_option maxRecDepth 100000
set_option maxHeartbeats 4000000
namespace K03
open PySem PySem.Spec PyProof.Rows L2
/-! ### two sorted lists of the same texts are one -/
theorem rise_pair : ∀ (l : List Str) (p : Str), risingS p l = true → (p :: l).Pairwise fun a b => a.cps.toList ≤ b.cps.toList
  | [], p, _ => List.pairwise_singleton _ _
  | x :: r, p, h => by
    have h : (!ltCps x.cps.toList p.cps.toList && risingS x r) = true := h
    rw [Bool.and_eq_true, Bool.not_eq_true', ltCps_eq, decide_eq_false_iff_not, List.not_lt] at h
    have ih := rise_pair r x h.2
    refine List.pairwise_cons.mpr ⟨fun y hy => ?_, ih⟩
    rcases List.mem_cons.mp hy with e | hy
    · rw [e]; exact h.1
    · exact List.le_trans h.1 ((List.pairwise_cons.mp ih).1 y hy)
theorem sorted_pair : ∀ l : List Str, sortedS l = true → l.Pairwise fun a b => a.cps.toList ≤ b.cps.toList
  | [], _ => .nil
  | x :: r, h => rise_pair r x h
theorem sorted_one {a b : List Str} (ha : sortedS a = true) (hb : sortedS b = true) (p : a.Perm b) : a = b := by
  refine List.Perm.eq_of_pairwise (fun x y _ _ h1 h2 => ?_) (sorted_pair a ha) (sorted_pair b hb) p
  have e := List.le_antisymm h1 h2
  cases x
  cases y
  exact congrArg Str.mk (Array.toList_inj.mp e)
/-! ### sizes of what is drawn -/
theorem size_le {α : Type} [DecidableEq α] : ∀ {ls : List (List α)}, (∀ l ∈ ls, l.length ≤ 4) → Mg.size ls ≤ ls.length * 4
  | [], _ => Nat.le_refl _
  | l :: ls, h => by
    have h1 := h l List.mem_cons_self
    have h2 := size_le fun x hx => h x (List.mem_cons_of_mem l hx)
    unfold Mg.size at h2 ⊢
    rw [List.map_cons, List.sum_cons, List.length_cons]
    omega
def testScope : Stmt → Scope
  | .If (.Compare e _ _ _) _ _ _ => lcScope e
  | _ => { kind := .function, names := [], isGenerator := false, isCoroutine := false }
def inLaw1 : List Stmt := bodyOf ((defBody sLaw).getD 0 noStmt)
def inLaw2 : List Stmt := bodyOf (inLaw1.getD 1 noStmt)
def inLaw3 : List Stmt := bodyOf (inLaw2.getD 3 noStmt)
def scSub : Scope := testScope (inLaw3.getD 1 noStmt)
section
variable {P : Program} {w : World} {K : PySem.W.Frag} {mg : Str → Option Value} {base : Heap}
/-- where the defs stand, and that the built-ins are still those -/
structure Txt (K : PySem.W.Frag) (mg : Str → Option Value) (fC fM fB fT fD fH fR fF : Addr) (dC dM dB dT dD dH dR dF : FuncData) : Prop where
  C : Fun K "can_be_first" "can_be_first" sCan fC dC
  bC : Binds K dC ["name", "lists"] []
  gC : mg "can_be_first" = some (.ref fC)
  M : Fun K "merged" "merged" sMer fM dM
  bM : Binds K dM ["lists"] []
  gM : mg "merged" = some (.ref fM)
  B : Fun K "_law_bag" "_law_bag" sBag fB dB
  bB : Binds K dB ["_law_script", "_law_at"] []
  gB : mg "_law_bag" = some (.ref fB)
  T : Fun K "_law_take" "_law_take" sTak fT dT
  bT : Binds K dT ["_law_bag_here", "_law_many"] []
  gT : mg "_law_take" = some (.ref fT)
  D : Fun K "_law_drawn_lists" "_law_drawn_lists" sDrw fD dD
  bD : Binds K dD ["_law_bag_here"] []
  gD : mg "_law_drawn_lists" = some (.ref fD)
  H : Fun K "_law_behind" "_law_behind" sBeh fH dH
  bH : Binds K dH ["_law_lists"] []
  gH : mg "_law_behind" = some (.ref fH)
  R : Fun K "_law_has_ring" "_law_has_ring" sRin fR dR
  bR : Binds K dR ["_law_behind_here"] []
  gR : mg "_law_has_ring" = some (.ref fR)
  F : Fun K "_law_first_ones" "_law_first_ones" sFst fF dF
  bF : Binds K dF ["_law_lists", "_law_known"] []
  gF : mg "_law_first_ones" = some (.ref fF)
  all : mg "all" = none
  list : mg "list" = none
  len : mg "len" = none
  abs : mg "abs" = none
  range : mg "range" = none
  enum : mg "enumerate" = none
  max : mg "max" = none
  min : mg "min" = none
  sorted : mg "sorted" = none
def spLaw (K : PySem.W.Frag) : Sp := fun vs H Q _ => ∃ (a : Addr) (ns : List Int), vs = [.ref a] ∧ SqL K H a (ns.map V.int) ∧ ns.length ≤ 63 ∧ ∀ H', Q (.bl true) H'
theorem ok_law {f fC fM fB fT fD fH fR fF : Addr} {fd dC dM dB dT dD dH dR dF : FuncData} (F : Fun K "law" "law" sLaw f fd) (X : Txt K mg fC fM fB fT fD fH fR fF dC dM dB dT dD dH dR dF) : FnOk P w K mg base CX0 3 f fd ["_law_script"] (spLaw K) := by
  have GM : FnOk P w K mg base CX0 2 fM dM ["lists"] spMer := ok_mer X.M X.C X.bC X.gC X.all X.list
  have GB : FnOk P w K mg base CX0 1 fB dB ["_law_script", "_law_at"] (spBag K) := ok_bag X.B X.len X.abs
  have GD : FnOk P w K mg base CX0 2 fD dD ["_law_bag_here"] spDrw := ok_drw X.D X.T X.bT X.gT X.range X.len
  have GH : FnOk P w K mg base CX0 1 fH dH ["_law_lists"] spBeh := ok_beh X.H X.enum
  have GR : FnOk P w K mg base CX0 1 fR dR ["_law_behind_here"] spRin := ok_rin X.R X.list
  have GF : FnOk P w K mg base CX0 1 fF dF ["_law_lists", "_law_known"] spFst := ok_fst X.F
  refine F.ok scLaw (fun vs H Q E h => ?_) (fun cdv A outer s H vs Q E hr h => ?_)
  · obtain ⟨a, ns, rfl, _⟩ := h
    rfl
  · obtain ⟨a, ns, rfl, hS, hlen, q⟩ := h
    have hr1 : Room 1 _ := hr.mono (by decide)
    refine ⟨_, pss_cons (ps_for PassesOwn.never rfl (pi_range1 (by rfl) X.range (pa_cons (pe_callB (call_max2 rfl) (by rfl) X.max (by decide +kernel) (pa_cons pe_int (pa_cons
          (pe_callB (call_min2 rfl) (by rfl) X.min (by decide +kernel) (pa_cons pe_int (pa_cons (pe_callB call_len_seq (by rfl) X.len PySem.boot_len (pa_cons (pv 0) pa_nil)) pa_nil))) pa_nil))) pa_nil)) (pg_name (i := 1) scLaw.nd rfl (.inl rfl))
        (pss_cons (ps_set (i := 2) scLaw.nd rfl (.inl rfl) (pe_call GB hr1 (by rfl) X.gB X.B.kp X.bB .nil pass0 (pa_cons (pv 0) (pa_cons (pv 1) pa_nil))))
        (pss_one (ps_for PassesOwn.never rfl (pi_range1 (by rfl) X.range (pa_cons pe_int pa_nil)) (pg_name (i := 3) scLaw.nd rfl (.inl rfl))
          (pss_cons (ps_set (i := 4) scLaw.nd rfl (.inl rfl) (pe_call GD hr (by rfl) X.gD X.D.kp X.bD .nil pass0 (pa_cons (pv 2) pa_nil)))
          (pss_cons (ps_asg (pe_tup (pa_cons (pe_call GM hr (by rfl) X.gM X.M.kp X.bM .nil pass0 (pa_cons (pv 4) pa_nil)) (pa_cons (pe_call GH hr1 (by rfl) X.gH X.H.kp X.bH .nil pass0 (pa_cons (pv 4) pa_nil)) pa_nil)))
              (pg_tup rfl (pgs_cons (pg_name (i := 5) scLaw.nd rfl (.inr rfl)) (pgs_cons (pg_name (i := 6) scLaw.nd rfl (.inl rfl)) pgs_nil))))
          (pss_cons (ps_if (pt_cmpR op_ne (pe_cmp (pc_isN (pv 5)) rfl) (pe_call GR hr1 (by rfl) X.gR X.R.kp X.bR .nil pass0 (pa_cons (pv 6) pa_nil)) (nomark _)) (pss_one (ps_ret pe_bl)) pss_nil)
          (pss_one (ps_if (pt_cmpR op_notN (pv 5) pe_non (nomark _))
            (pss_cons (ps_if (pt_cmpR (op_neS hr.units) (pe_callB cr_sortedS (by rfl) X.sorted (by decide +kernel) (pa_cons (pv 5) pa_nil)) (pe_callB (call_sortedD rfl) (by rfl) X.sorted (by decide +kernel) (pa_cons (pv 6) pa_nil)) (nomark _)) (pss_one (ps_ret pe_bl)) pss_nil)
            (pss_cons (ps_if (pt_cmpR (op_ne0 hr.units) (pe_lc (own := [("_law_line", 9)]) (g := gName 9) rfl scLaw.nd (pi_list (pv 4))
                  (blkOk_by (own := [("_law_line", 9)]) (N := nLaw) (sc := defScope sLaw) (by decide +kernel))
                  (fun _ _ _ _ _ => pg_name (i := 9) scLaw.nd rfl (Or.inr rfl))
                  (fun _ _ _ _ _ => pts_one (pt_cmpR (op_neS hr.units) (pe_lc (own := [("_law_one", 7)]) (g := gName 7) (wi := iList K (tVar 5)) rfl scLaw.nd (pi_list (pv 5))
                      (blkOk_by (own := [("_law_one", 7)]) (N := nLaw) (sc := relS scSub (defScope sLaw)) (by decide +kernel))
                      (fun _ _ _ _ _ => pg_name (i := 7) scLaw.nd rfl (Or.inl rfl)) (fun _ _ _ _ _ => pts_one (pt_cmpR op_inL (pv 7) (pv 9) (by rfl))) (fun _ _ _ _ _ => pv 7)) (pv 9) (nomark _)))
                  (fun _ _ _ _ _ => pv 9)) (pe_lst pa_nil) (nomark _)) (pss_one (ps_ret pe_bl)) pss_nil)
            (pss_one (ps_for PassesOwn.never rfl (pi_enum (by rfl) X.enum (pa_cons (pv 5) pa_nil)) (pg_tup rfl (pgs_cons (pg_name (i := 8) scLaw.nd rfl (.inl rfl)) (pgs_cons (pg_name (i := 7) scLaw.nd rfl (.inl rfl)) pgs_nil)))
              (pss_one (ps_if (pt_cmpR (op_neS hr.units) (pe_slice sl_list (pe_call GF hr1 (by rfl) X.gF X.F.kp X.bF .nil pass0 (pa_cons (pv 4) (pa_cons (pe_slice sl_list (pv 5) po_none (po_some (pv 8))) pa_nil))) po_none (po_some pe_int))
                (pe_lst (pa_cons (pv 7) pa_nil)) (nomark _)) (pss_one (ps_ret pe_bl)) pss_nil)))))) pss_nil)))))))))
      (pss_one (ps_ret pe_bl)), ?_⟩
    have hrg : ∀ L : Int, 0 ≤ L → -(2 ^ 62) ≤ (if (if L < 6 then L else 6) > 2 then (if L < 6 then L else 6) else 2) ∧ (if (if L < 6 then L else 6) > 2 then (if L < 6 then L else 6) else 2) < 2 ^ 62 ∧
        (if (if L < 6 then L else 6) > 2 then (if L < 6 then L else 6) else 2).toNat ≤ 6 := fun L h => by
      by_cases h6 : L < 6
      · rw [if_pos h6]
        by_cases h2 : L > 2
        · rw [if_pos h2]; omega
        · rw [if_neg h2]; omega
      · rw [if_neg h6, if_pos (show (6 : Int) > 2 by decide)]; omega
    obtain ⟨r1, r2, r3⟩ := hrg ((ns.map V.int).length : Int) (Int.natCast_nonneg _)
    refine ⟨.ref a, rfl, a, _, rfl, .inl hS, _, _, rfl, _, _, rfl, _, rfl, r1, r2, for_range (lo := 0) (n := _)
      (fun i σ G => ∃ y1 y2 y3 y4 y5 y6 y7 y8 y9, σ = [some (.ref a), y1, y2, y3, y4, y5, y6, y7, y8, y9] ∧ Same H G)
      ⟨none, none, none, none, none, none, none, none, none, rfl, Same.refl _⟩ ?_ ?_⟩
    · rintro i σ G hi ⟨y1, y2, y3, y4, y5, y6, y7, y8, y9, rfl, sG⟩
      refine ⟨.ref a, rfl, .int (0 + (i : Int)), rfl, a, ns, i, by rw [Int.zero_add]; rfl, sG.seq hS, by omega, fun b l nb hl => ?_⟩
      have nbH : H b = none := sG.free nb
      refine ⟨30, rfl, by decide, by decide, for_range (lo := 0) (n := 30)
        (fun t σ T => ∃ y3 y4 y5 y6 y7 y8 y9 l', σ = [some (.ref a), some (.int (0 + (i : Int))), some (.ref b), y3, y4, y5, y6, y7, y8, y9] ∧ Same H T ∧ T b = some (.lst l') ∧ BagL (46 * (t : Int)) l')
        ⟨y3, y4, y5, y6, y7, y8, y9, l, rfl, sG.trans (same_new nb), upd_same, hl.mono (by omega)⟩ ?_ ?_⟩
      · rintro t σ T ht ⟨y3, y4, y5, y6, y7, y8, y9, l', rfl, sT, hb, hl'⟩
        refine ⟨.ref b, rfl, b, 46 * (t : Int), l', rfl, hb, hl', by omega, fun G1 p l1 lists k1 hb1 hl1 npb hL hll hall => ?_⟩
        have s1 : Same H G1 := fun c o hc => k1 c o (ne_of_none hc nbH) (sT c o hc)
        have hLL := hL.ll
        have hnd : ∀ x ∈ lists, x.Nodup := fun x hx => (hall x hx).1
        have hsz : Mg.size lists ≤ 20 := Nat.le_trans (size_le fun x hx => (hall x hx).2) (by omega)
        have hring : Mg.Ring (fun s y => y ∈ Mg.succ (Mg.events lists) s) ↔ Mg.Ring (Mg.Edge lists) := by
          have e : (fun s y => y ∈ Mg.succ (Mg.events lists) s) = Mg.Edge lists := by
            funext s y
            exact propext (Mg.succ_edge lists s y)
          rw [e]
        have hcl : ∀ s y, y ∈ Mg.succ (Mg.events lists) s → y ∈ Mg.keys (Mg.events lists) := fun s y h => (Mg.edge_key ((Mg.succ_edge lists s y).mp h)).2
        have hel : (Mg.events lists).length ≤ 30 := by rw [Mg.events_len]; omega
        have hbag : BagL (46 * ((t + 1 : Nat) : Int)) l1 := hl1.mono (by omega)
        refine ⟨.ref p, rfl, p, lists, rfl, hLL, by omega, fun x hx => Nat.le_trans (hall x hx).2 (by decide), by omega, fun G2 f s2 run hne hp => ?_, fun G2 fp f s2 nfp hf run he => ?_⟩
        · refine ⟨.ref p, rfl, p, lists, rfl, hLL.same s2, by omega, fun G3 d s3 nd beh => ⟨by show 2 ≤ sizeLine; decide, fun tp ntp => ?_⟩⟩
          have s4 : Same G3 (upd G3 tp (.tup [V.non, V.ref d])) := same_new ntp
          refine ⟨tp, [.non, .ref d], rfl, .inl (.inl upd_same), rfl, .non, [.ref d], rfl, .ref d, [], rfl, rfl, ?_⟩
          refine ⟨.non, rfl, .ref d, rfl, d, Mg.events lists, rfl, beh.same s4, hel, Mg.events_one lists, hcl, fun G5 c s5 hc => ⟨rfl, _, rfl, ?_⟩⟩
          have ec : c = true := hc.mpr (hring.mpr (Mg.stuck_ring hnd run hne hp))
          subst ec
          have e1 : (!decide (V.bl (decide (V.non = V.non)) = V.bl true)) = false := by decide
          have e2 : (!decide (V.non = V.non)) = false := by decide
          rw [e1]
          refine ⟨.non, rfl, rfl, _, rfl, ?_⟩
          rw [e2]
          have s15 : Same G1 G5 := ((s2.trans s3).trans s4).trans s5
          exact ⟨_, _, _, _, _, _, _, l1, rfl, s1.trans s15, s15 _ _ hb1, hbag⟩
        · refine ⟨.ref p, rfl, p, lists, rfl, hLL.same s2, by omega, fun G3 d s3 nd beh => ⟨by show 2 ≤ sizeLine; decide, fun tp ntp => ?_⟩⟩
          have s4 : Same G3 (upd G3 tp (.tup [V.ref fp, V.ref d])) := same_new ntp
          refine ⟨tp, [.ref fp, .ref d], rfl, .inl (.inl upd_same), rfl, .ref fp, [.ref d], rfl, .ref d, [], rfl, rfl, ?_⟩
          refine ⟨.ref fp, rfl, .ref d, rfl, d, Mg.events lists, rfl, beh.same s4, hel, Mg.events_one lists, hcl, fun G5 c s5 hc => ⟨rfl, _, rfl, ?_⟩⟩
          have ec : c = false := by
            cases c with
            | false => rfl
            | true => exact absurd (hring.mp (hc.mp rfl)) (Mg.done_no_ring hnd run he)
          subst ec
          have e0 : decide (V.ref fp = V.non) = false := decide_eq_false fun z => nomatch z
          have e1 : (!decide (V.bl (decide (V.ref fp = V.non)) = V.bl false)) = false := by rw [e0]; decide
          have e2 : (!decide (V.ref fp = V.non)) = true := by rw [e0]; rfl
          rw [e1]
          refine ⟨.ref fp, rfl, rfl, _, rfl, ?_⟩
          rw [e2]
          have s15 : Same G1 G5 := ((s2.trans s3).trans s4).trans s5
          have hf5 : SL G5 fp f := ((hf.same s3).same s4).same s5
          obtain ⟨kvs, hd5, hk5⟩ := (beh.same s4).same s5
          have hperm : f.Perm (Mg.keys (Mg.events lists)) := (List.perm_ext_iff_of_nodup run.nodup (Mg.keys_nodup _)).mpr fun x =>
            ⟨fun hx => (Mg.keys_lists lists x).mpr (run.sub x hx), fun hx => let ⟨l, hl, hx⟩ := (Mg.keys_lists lists x).mp hx; Mg.done_all he l hl x hx⟩
          have hkl : (Mg.keys (Mg.events lists)).length ≤ 30 := Nat.le_trans (Mg.keys_len _) hel
          have hfl : f.length ≤ 30 := by rw [hperm.length_eq]; exact hkl
          refine ⟨.ref fp, rfl, fp, f, rfl, hf5.sq, by omega, fun ys p1 perm1 srt1 np1 => ?_⟩
          have s6 : Same G5 (upd G5 p1 (.lst (ys.map V.str))) := same_new np1
          refine ⟨.ref d, rfl, d, kvs, Mg.keys (Mg.events lists), rfl, .inl (s6 _ _ hd5), hk5.1, by omega, fun ys2 p2 perm2 srt2 np2 => ?_⟩
          have s7 : Same (upd G5 p1 (.lst (ys.map V.str))) (upd (upd G5 p1 (.lst (ys.map V.str))) p2 (.lst (ys2.map V.str))) := same_new np2
          refine ⟨p1, p2, ys, ys2, rfl, rfl, s7 _ _ upd_same, upd_same, _, rfl, ?_⟩
          rw [decide_eq_true (sorted_one srt1 srt2 (perm1.trans (hperm.trans perm2.symm)))]
          have s17 := s15.trans (s6.trans s7)
          have hf7 : SL (upd (upd G5 p1 (.lst (ys.map V.str))) p2 (.lst (ys2.map V.str))) fp f := hf5.same (s6.trans s7)
          generalize upd (upd G5 p1 (.lst (ys.map V.str))) p2 (.lst (ys2.map V.str)) = G7 at s17 hf7 ⊢
          have hL7 := hLL.same s17
          obtain ⟨ps, h1, h2, h3⟩ := id hL7
          have hps : ps.length ≤ 5 := by rw [LL.len h2]; exact hll
          refine ⟨.ref p, rfl, p, rfl, ⟨_, .of h1⟩, fun w1 nw1 => lc_lists (src := ps) (val := pV) (fun _ => False) (fun x => if f.filter (fun s => decide (s ∈ x.2)) = x.2 then none else some x.2) (.of h1) nw1 (by omega) (fun x hx G8 s8 hd8 Nx n1 n2 => ?_) fun G8 s8 hl8 => ?_⟩
          · have hb8 : SL G8 x.1 x.2 := (h3 x hx).same s8
            have hf8 : SL G8 fp f := hf7.same s8
            refine ⟨rfl, .ref fp, rfl, fp, rfl, ⟨_, hf8.sq⟩, fun w2 nw2 => lc_val (src := f) (val := V.str) (fun s => if decide (s ∈ x.2) = true then some s else none) V.str hf8.sq nw2 (by omega) (fun s hs G9 s9 hd9 Nx2 m1 m2 => ?_) fun G9 s9 hl9 => ?_⟩
            · refine ⟨rfl, .str s, rfl, .ref x.1, rfl, s, x.1, x.2, rfl, rfl, hb8.same s9, _, rfl, ?_⟩
              by_cases cs : s ∈ x.2
              · rw [decide_eq_true cs]
                exact ⟨.str s, rfl, m2 s (if_pos (decide_eq_true cs)) _ (Same.refl _)⟩
              · rw [decide_eq_false cs]
                exact m1 (if_neg (by simpa using cs)) _ (Same.refl _)
            · rw [filter_if] at hl9
              have eline := Mg.done_line hnd run he x.2 (by rw [← h2]; exact List.mem_map.mpr ⟨x, hx, rfl⟩)
              refine ⟨.ref x.1, rfl, w2, x.1, _, x.2, rfl, rfl, hl9, hb8.same s9, _, rfl, ?_⟩
              rw [decide_eq_true eline]
              exact n1 (if_pos eline) _ s9
          · have enone : (ps.filterMap fun x => if f.filter (fun s => decide (s ∈ x.2)) = x.2 then none else some x.2) = [] := by
              rw [List.filterMap_eq_nil_iff]
              intro x hx
              exact if_pos (Mg.done_line hnd run he x.2 (by rw [← h2]; exact List.mem_map.mpr ⟨x, hx, rfl⟩))
            rw [enone] at hl8
            refine ⟨Nat.zero_le _, fun e9 he9 => ⟨w1, e9, [], rfl, rfl, hl8.ll.same (same_new he9), upd_same, _, rfl, ?_⟩⟩
            rw [decide_eq_true (rfl : ([] : List (List Str)) = [])]
            have s9 : Same G8 (upd G8 e9 (.lst [])) := same_new he9
            have s19 := s17.trans (s8.trans s9)
            have hf9 : SL (upd G8 e9 (.lst [])) fp f := (hf7.same s8).same s9
            generalize upd G8 e9 (.lst []) = G9 at s19 hf9 ⊢
            refine ⟨.ref fp, rfl, fp, f.map V.str, rfl, hf9.sq, for_by f.length
              (fun k σ T => ∃ y7 y8, σ = [some (.ref a), some (.int (0 + (i : Int))), some (.ref b), some (.int (0 + (t : Int))), some (.ref p), some (.ref fp), some (.ref d), y7, y8, y9] ∧ Same G9 T)
              ⟨y7, y8, rfl, Same.refl _⟩ ?_ ?_ ?_ ?_⟩
            · rintro k σ T hk ⟨_, _, _, sk⟩
              exact ⟨f.map V.str, .str f[k], (hf9.same sk).sq, by rw [List.getElem?_map, List.getElem?_eq_getElem hk]; rfl⟩
            · rintro σ T ⟨_, _, _, sk⟩
              exact ⟨f.map V.str, (hf9.same sk).sq, by rw [List.length_map]; exact Nat.le_refl _⟩
            · rintro k v σ T T' hk ⟨z7, z8, rfl, sk⟩ ⟨Tp, v', rfl, nTp, rfl, hy⟩
              have hks : f[k]? = some f[k] := List.getElem?_eq_getElem hk
              generalize f[k] = x at hks
              have ex : v' = .str x := by
                have q1 := hy (f.map V.str) (hf9.same sk).sq
                rw [List.getElem?_map, hks] at q1
                exact (Option.some.inj q1).symm
              subst ex
              have sk1 : Same G9 (upd T Tp (.tup [.int (k : Nat), .str x])) := sk.trans (same_new nTp)
              refine ⟨Tp, [.int (k : Nat), .str x], rfl, .inl (.inl upd_same), rfl, .int (k : Nat), [.str x], rfl, .str x, [], rfl, rfl, ?_⟩
              show (tIfS _ _ _ : TS) _ _ (upd T Tp (.tup [.int (k : Nat), .str x]))
              generalize upd T Tp (.tup [.int (k : Nat), .str x]) = T1 at sk1 ⊢
              refine ⟨.ref p, rfl, .ref fp, rfl, .int (k : Nat), rfl, _, rfl, fp, f.map V.str, rfl, (hf9.same sk1).sq, fun c1 nc1 => ?_⟩
              have sc1 : Same T1 (upd T1 c1 (.lst (cutV (f.map V.str) none (some ((k : Nat) : Int))))) := same_new nc1
              have hc1 : SL (upd T1 c1 (.lst (cutV (f.map V.str) none (some ((k : Nat) : Int))))) c1 (f.take k) := by
                unfold SL
                rw [upd_same, cut_to, List.map_take]
              refine ⟨p, c1, lists, f.take k, rfl, hLL.same ((s19.trans sk1).trans sc1), hc1, by omega, by omega, fun T2 r s2' nr hr' => ?_⟩
              refine ⟨1, rfl, r, _, rfl, hr'.sq, fun c2 nc2 => ⟨.str x, rfl, by show 1 ≤ sizeLine; decide, fun c3 nc3 => ?_⟩⟩
              have ec2 : cutV ((Mg.firsts lists (f.take k)).map V.str) none (some 1) = ((Mg.firsts lists (f.take k)).take 1).map V.str := by
                refine (cut_to ((Mg.firsts lists (f.take k)).map V.str) 1).trans ?_
                rw [List.map_take]
              have sc2 := same_new (o := .lst (cutV ((Mg.firsts lists (f.take k)).map V.str) none (some 1))) nc2
              have sc3 := same_new (o := .lst [V.str x]) nc3
              refine ⟨c2, c3, (Mg.firsts lists (f.take k)).take 1, [x], rfl, rfl, ?_, upd_same, _, rfl, ?_⟩
              · refine sc3 _ _ ?_
                rw [upd_same, ec2]
              · rw [decide_eq_true (run.firsts k x hks)]
                exact ⟨_, _, rfl, ((sk1.trans sc1).trans s2').trans (sc2.trans sc3)⟩
            · rintro σ T ⟨z7, z8, rfl, sk⟩
              exact ⟨_, _, _, _, _, _, _, l1, rfl, s1.trans (s19.trans sk), (s19.trans sk) _ _ hb1, hbag⟩
      · rintro σ T ⟨y3, y4, y5, y6, y7, y8, y9, l', rfl, sT, _, _⟩
        exact ⟨_, _, _, _, _, _, _, _, _, rfl, sT⟩
    · rintro σ G ⟨y1, y2, y3, y4, y5, y6, y7, y8, y9, rfl, sG⟩
      exact q G
end
end K03
set_option Elab.async false
set_option linter.all false
set_option maxRecDepth 100000
set_option maxHeartbeats 4000000
namespace K03
open PySem PySem.Spec PyProof.Rows L2
/-! ### what the top has left -/
theorem all_mk {l : PySem.W.OpenLaw} {w : World} {K : PySem.W.Frag} {h : Heap} {mg : Str → Option Value} {fa f1 f2 f3 f4 f5 f6 f7 f8 f9 : Addr} (X : K.In h) (G : h.Ns mainGlobals mg) (hfa : mg "law" = some (.ref fa))
    {od1 an1 od2 an2 od3 an3 od4 an4 od5 an5 od6 an6 od7 an7 od8 an8 od9 an9 : Option Addr} {sl1 sl2 sl3 sl4 sl5 sl6 sl7 sl8 sl9 : Array (Option Value)}
    {oc1 kV1 dc1 pm1 cd1 ct1 oc2 kV2 dc2 pm2 cd2 ct2 oc3 kV3 dc3 pm3 cd3 ct3 oc4 kV4 dc4 pm4 cd4 ct4 oc5 kV5 dc5 pm5 cd5 ct5 oc6 kV6 dc6 pm6 cd6 ct6 oc7 kV7 dc7 pm7 cd7 ct7 oc8 kV8 dc8 pm8 cd8 ct8 oc9 kV9 dc9 pm9 cd9 ct9 : Value}
    (a1 : PySem.W.nsIn K mainGlobals "can_be_first" = some (some (.ref f1))) (l1 : K.lookup f1 = some ⟨oc1, od1, .func (PySem.W.fnOf "can_be_first" "can_be_first" (defArgs sCan) (defBody sCan) (defScope sCan) .none kV1 dc1 pm1 an1 cd1 ct1), sl1⟩) (c1 : PySem.W.codeIn K cd1 "can_be_first" = true) (k1 : PySem.W.keepIn K (.ref f1) = true)
    (a2 : PySem.W.nsIn K mainGlobals "merged" = some (some (.ref f2))) (l2 : K.lookup f2 = some ⟨oc2, od2, .func (PySem.W.fnOf "merged" "merged" (defArgs sMer) (defBody sMer) (defScope sMer) .none kV2 dc2 pm2 an2 cd2 ct2), sl2⟩) (c2 : PySem.W.codeIn K cd2 "merged" = true) (k2 : PySem.W.keepIn K (.ref f2) = true)
    (a3 : PySem.W.nsIn K mainGlobals "_law_bag" = some (some (.ref f3))) (l3 : K.lookup f3 = some ⟨oc3, od3, .func (PySem.W.fnOf "_law_bag" "_law_bag" (defArgs sBag) (defBody sBag) (defScope sBag) .none kV3 dc3 pm3 an3 cd3 ct3), sl3⟩) (c3 : PySem.W.codeIn K cd3 "_law_bag" = true) (k3 : PySem.W.keepIn K (.ref f3) = true)
    (a4 : PySem.W.nsIn K mainGlobals "_law_take" = some (some (.ref f4))) (l4 : K.lookup f4 = some ⟨oc4, od4, .func (PySem.W.fnOf "_law_take" "_law_take" (defArgs sTak) (defBody sTak) (defScope sTak) .none kV4 dc4 pm4 an4 cd4 ct4), sl4⟩) (c4 : PySem.W.codeIn K cd4 "_law_take" = true) (k4 : PySem.W.keepIn K (.ref f4) = true)
    (a5 : PySem.W.nsIn K mainGlobals "_law_drawn_lists" = some (some (.ref f5))) (l5 : K.lookup f5 = some ⟨oc5, od5, .func (PySem.W.fnOf "_law_drawn_lists" "_law_drawn_lists" (defArgs sDrw) (defBody sDrw) (defScope sDrw) .none kV5 dc5 pm5 an5 cd5 ct5), sl5⟩) (c5 : PySem.W.codeIn K cd5 "_law_drawn_lists" = true) (k5 : PySem.W.keepIn K (.ref f5) = true)
    (a6 : PySem.W.nsIn K mainGlobals "_law_behind" = some (some (.ref f6))) (l6 : K.lookup f6 = some ⟨oc6, od6, .func (PySem.W.fnOf "_law_behind" "_law_behind" (defArgs sBeh) (defBody sBeh) (defScope sBeh) .none kV6 dc6 pm6 an6 cd6 ct6), sl6⟩) (c6 : PySem.W.codeIn K cd6 "_law_behind" = true) (k6 : PySem.W.keepIn K (.ref f6) = true)
    (a7 : PySem.W.nsIn K mainGlobals "_law_has_ring" = some (some (.ref f7))) (l7 : K.lookup f7 = some ⟨oc7, od7, .func (PySem.W.fnOf "_law_has_ring" "_law_has_ring" (defArgs sRin) (defBody sRin) (defScope sRin) .none kV7 dc7 pm7 an7 cd7 ct7), sl7⟩) (c7 : PySem.W.codeIn K cd7 "_law_has_ring" = true) (k7 : PySem.W.keepIn K (.ref f7) = true)
    (a8 : PySem.W.nsIn K mainGlobals "_law_first_ones" = some (some (.ref f8))) (l8 : K.lookup f8 = some ⟨oc8, od8, .func (PySem.W.fnOf "_law_first_ones" "_law_first_ones" (defArgs sFst) (defBody sFst) (defScope sFst) .none kV8 dc8 pm8 an8 cd8 ct8), sl8⟩) (c8 : PySem.W.codeIn K cd8 "_law_first_ones" = true) (k8 : PySem.W.keepIn K (.ref f8) = true)
    (a9 : PySem.W.nsIn K mainGlobals "law" = some (some (.ref f9))) (l9 : K.lookup f9 = some ⟨oc9, od9, .func (PySem.W.fnOf "law" "law" (defArgs sLaw) (defBody sLaw) (defScope sLaw) .none kV9 dc9 pm9 an9 cd9 ct9), sl9⟩) (c9 : PySem.W.codeIn K cd9 "law" = true) (k9 : PySem.W.keepIn K (.ref f9) = true)
    (z1 : PySem.W.nsIn K mainGlobals "all" = some none)
    (z2 : PySem.W.nsIn K mainGlobals "list" = some none)
    (z3 : PySem.W.nsIn K mainGlobals "len" = some none)
    (z4 : PySem.W.nsIn K mainGlobals "abs" = some none)
    (z5 : PySem.W.nsIn K mainGlobals "range" = some none)
    (z6 : PySem.W.nsIn K mainGlobals "enumerate" = some none)
    (z7 : PySem.W.nsIn K mainGlobals "max" = some none)
    (z8 : PySem.W.nsIn K mainGlobals "min" = some none)
    (z9 : PySem.W.nsIn K mainGlobals "sorted" = some none) :
    ∃ fd : FuncData, (∀ (s : Shared) (v : Value), BindsTo s fd ⟨[v], []⟩ [("_law_script", v)]) ∧ ∀ base : Heap, K.In base → base.Ns mainGlobals mg → FnOk l.prog w K mg base CX0 3 fa fd ["_law_script"] (spLaw K) := by
  have e := hfa.symm.trans (PySem.W.mg_of X G a9)
  cases e
  have F1 := fun_mk (st := sCan) l1 c1 k1
  have F2 := fun_mk (st := sMer) l2 c2 k2
  have F3 := fun_mk (st := sBag) l3 c3 k3
  have F4 := fun_mk (st := sTak) l4 c4 k4
  have F5 := fun_mk (st := sDrw) l5 c5 k5
  have F6 := fun_mk (st := sBeh) l6 c6 k6
  have F7 := fun_mk (st := sRin) l7 c7 k7
  have F8 := fun_mk (st := sFst) l8 c8 k8
  have F9 := fun_mk (st := sLaw) l9 c9 k9
  have b1 := F1.binds (ps := ["name", "lists"]) fun _ _ _ _ _ _ us hl => match us, hl with | [_, _], _ => rfl
  have b2 := F2.binds (ps := ["lists"]) fun _ _ _ _ _ _ us hl => match us, hl with | [_], _ => rfl
  have b3 := F3.binds (ps := ["_law_script", "_law_at"]) fun _ _ _ _ _ _ us hl => match us, hl with | [_, _], _ => rfl
  have b4 := F4.binds (ps := ["_law_bag_here", "_law_many"]) fun _ _ _ _ _ _ us hl => match us, hl with | [_, _], _ => rfl
  have b5 := F5.binds (ps := ["_law_bag_here"]) fun _ _ _ _ _ _ us hl => match us, hl with | [_], _ => rfl
  have b6 := F6.binds (ps := ["_law_lists"]) fun _ _ _ _ _ _ us hl => match us, hl with | [_], _ => rfl
  have b7 := F7.binds (ps := ["_law_behind_here"]) fun _ _ _ _ _ _ us hl => match us, hl with | [_], _ => rfl
  have b8 := F8.binds (ps := ["_law_lists", "_law_known"]) fun _ _ _ _ _ _ us hl => match us, hl with | [_, _], _ => rfl
  have T : Txt K mg f1 f2 f3 f4 f5 f6 f7 f8 _ _ _ _ _ _ _ _ := ⟨F1, b1, PySem.W.mg_of X G a1, F2, b2, PySem.W.mg_of X G a2, F3, b3, PySem.W.mg_of X G a3, F4, b4, PySem.W.mg_of X G a4, F5, b5, PySem.W.mg_of X G a5, F6, b6, PySem.W.mg_of X G a6, F7, b7, PySem.W.mg_of X G a7, F8, b8, PySem.W.mg_of X G a8,
    PySem.W.mg_none_of X G z1, PySem.W.mg_none_of X G z2, PySem.W.mg_none_of X G z3, PySem.W.mg_none_of X G z4, PySem.W.mg_none_of X G z5, PySem.W.mg_none_of X G z6, PySem.W.mg_none_of X G z7, PySem.W.mg_none_of X G z8, PySem.W.mg_none_of X G z9⟩
  exact ⟨_, fun s v => .of_eq rfl, fun base _ _ => ok_law F9 T⟩
end K03
open PySem PySem.W PyProof.Rows
set_option maxRecDepth 100000 in
set_option maxHeartbeats 0 in
theorem PySem.Challenge.cw_sworntypes_k03_whole_merges_and_rings_holds : PySem.Challenge.rw_sworntypes_k03_whole_merges_and_rings.Holds := by
  w_on; o_law; k_head; (case hw => w_witness2)
  k_fill
  refine L2.walk_of (l := PySem.Challenge.rw_sworntypes_k03_whole_merges_and_rings) (n := 63) (k := 3) (x := "_law_script") (CX := fun _ => L2.CX0) (sp := fun w => K03.spLaw _) rfl (by decide) rfl ⟨rfl, by decide, by decide⟩ (fun w h Y => PySem.W.kIn_of Y) ?F (fun _ _ a ns hl _ hS => ⟨a, ns, rfl, hS, hl, fun _ => rfl⟩) (fun _ _ _ _ _ h => h)
  case F =>
    intro w mg fa h KX G hmg
    refine' K03.all_mk KX G hmg ?a1 ?l1 ?c1 ?k1 ?a2 ?l2 ?c2 ?k2 ?a3 ?l3 ?c3 ?k3 ?a4 ?l4 ?c4 ?k4 ?a5 ?l5 ?c5 ?k5 ?a6 ?l6 ?c6 ?k6 ?a7 ?l7 ?c7 ?k7 ?a8 ?l8 ?c8 ?k8 ?a9 ?l9 ?c9 ?k9 ?z1 ?z2 ?z3 ?z4 ?z5 ?z6 ?z7 ?z8 ?z9
    (case a1 => k_is)
    (case l1 => k_is)
    (case c1 => k_is)
    (case k1 => k_is)
    (case a2 => k_is)
    (case l2 => k_is)
    (case c2 => k_is)
    (case k2 => k_is)
    (case a3 => k_is)
    (case l3 => k_is)
    (case c3 => k_is)
    (case k3 => k_is)
    (case a4 => k_is)
    (case l4 => k_is)
    (case c4 => k_is)
    (case k4 => k_is)
    (case a5 => k_is)
    (case l5 => k_is)
    (case c5 => k_is)
    (case k5 => k_is)
    (case a6 => k_is)
    (case l6 => k_is)
    (case c6 => k_is)
    (case k6 => k_is)
    (case a7 => k_is)
    (case l7 => k_is)
    (case c7 => k_is)
    (case k7 => k_is)
    (case a8 => k_is)
    (case l8 => k_is)
    (case c8 => k_is)
    (case k8 => k_is)
    (case a9 => k_is)
    (case l9 => k_is)
    (case c9 => k_is)
    (case k9 => k_is)
    (case z1 => k_is)
    (case z2 => k_is)
    (case z3 => k_is)
    (case z4 => k_is)
    (case z5 => k_is)
    (case z6 => k_is)
    (case z7 => k_is)
    (case z8 => k_is)
    (case z9 => k_is)
