import PyProof.Rows.All
import Wide.All
import OpenK.AllK
import Wide.FinOn
import HandS.ForMost
import HandS.Conv
import HandS.ClsMeth
import HandS.ListItems
import HandS.IsInst
import HandS.TupAny
import HandS.Defaults
import HandS.Walk
import HandS.Evl
import KE.SortData
import KE.DataEq
import PySem.Challenge.RW_groupbooks_k34_movements
set_option Elab.async false
set_option linter.all false
set_option maxRecDepth 100000
set_option maxHeartbeats 4000000

/-! the plain law: lines, their figures, sums over lists of lines; no program here -/
namespace K34
open PySem

/-- a line; a row of figures -/
structure Ln where
  firm : Str
  acc : Str
  coin : Str
  amt : Int
  wor : Int
structure Fg where
  acc : Str
  coin : Str
  amt : Int
  wor : Int

/-- the sum of f over the lines of one place -/
def tot (f : Ln → Int) : List Ln → Str → Str → Int
  | [], _, _ => 0
  | l :: r, a, c => (if l.acc = a ∧ l.coin = c then f l else 0) + tot f r a c
abbrev amtOf : List Ln → Str → Str → Int := tot Ln.amt
abbrev worOf : List Ln → Str → Str → Int := tot Ln.wor
theorem tot_append (f : Ln → Int) (xs ys : List Ln) (a c : Str) : tot f (xs ++ ys) a c = tot f xs a c + tot f ys a c := by
  induction xs with
  | nil => simp [tot]
  | cons x r ih =>
    show (if x.acc = a ∧ x.coin = c then f x else 0) + tot f (r ++ ys) a c = _
    rw [ih]
    simp only [tot]
    omega
theorem tot_none (f : Ln → Int) {xs : List Ln} {a c : Str} (h : ∀ l ∈ xs, ¬ (l.acc = a ∧ l.coin = c)) : tot f xs a c = 0 := by
  induction xs with
  | nil => rfl
  | cons x r ih =>
    simp only [tot]
    rw [if_neg (h x (List.mem_cons_self ..)), ih fun l hl => h l (List.mem_cons_of_mem _ hl)]
    rfl

/-! ### the order of places -/
def PLt (p q : Str × Str) : Prop := p.1.cps.toList < q.1.cps.toList ∨ (p.1 = q.1 ∧ p.2.cps.toList < q.2.cps.toList)
theorem sirr (x : List Nat) : ¬ x < x := List.lt_irrefl x
theorem sasym {x y : List Nat} (h : x < y) : ¬ y < x := fun g => sirr x (List.lt_trans h g)
theorem plt_irr (p : Str × Str) : ¬ PLt p p := fun h => by
  rcases h with h | ⟨_, h⟩
  · exact sirr _ h
  · exact sirr _ h
theorem plt_asym {p q : Str × Str} (h : PLt p q) : ¬ PLt q p := fun g => by
  rcases h with h | ⟨e, h⟩
  · rcases g with g | ⟨e2, g⟩
    · exact sasym h g
    · rw [e2] at h
      exact sirr _ h
  · rcases g with g | ⟨e2, g⟩
    · rw [e] at g
      exact sirr _ g
    · exact sasym h g
theorem str_ext {a b : Str} (h : a.cps.toList = b.cps.toList) : a = b := by
  cases a
  cases b
  have e := Array.toList_inj.mp h
  simp only at e
  rw [e]
theorem slt_or {x y : List Nat} (h : x ≠ y) : x < y ∨ y < x := by
  by_cases h1 : x < y
  · exact .inl h1
  · by_cases h2 : y < x
    · exact .inr h2
    · exact absurd (List.le_antisymm (List.not_lt.mp h2) (List.not_lt.mp h1)) h
theorem plt_or {p q : Str × Str} (h : p ≠ q) : PLt p q ∨ PLt q p := by
  by_cases e : p.1 = q.1
  · have e2 : p.2.cps.toList ≠ q.2.cps.toList := fun z => h (Prod.ext e (str_ext z))
    rcases slt_or e2 with g | g
    · exact .inl (.inr ⟨e, g⟩)
    · exact .inr (.inr ⟨e.symm, g⟩)
  · have e2 : p.1.cps.toList ≠ q.1.cps.toList := fun z => e (str_ext z)
    rcases slt_or e2 with g | g
    · exact .inl (.inl g)
    · exact .inr (.inl g)
theorem plt_trans {p q r : Str × Str} (h : PLt p q) (g : PLt q r) : PLt p r := by
  rcases h with h | ⟨e, h⟩
  · rcases g with g | ⟨e2, g⟩
    · exact .inl (List.lt_trans h g)
    · exact .inl (e2 ▸ h)
  · rcases g with g | ⟨e2, g⟩
    · exact .inl (e ▸ g)
    · exact .inr ⟨e.trans e2, List.lt_trans h g⟩

/-! ### figures by what they say -/
def FLt (r s : Fg) : Prop := PLt (r.acc, r.coin) (s.acc, s.coin)
/-- sorted rows, one for each place at which f or g is not 0 -/
structure IsFigs (fs : List Fg) (f g : Str → Str → Int) : Prop where
  srt : fs.Pairwise FLt
  mem : ∀ a c x y, (⟨a, c, x, y⟩ : Fg) ∈ fs ↔ (x = f a c ∧ y = g a c ∧ (x ≠ 0 ∨ y ≠ 0))
theorem srt_eq : ∀ {fs gs : List Fg}, fs.Pairwise FLt → gs.Pairwise FLt → (∀ r, r ∈ fs ↔ r ∈ gs) → fs = gs
  | [], [], _, _, _ => rfl
  | [], s :: gs, _, _, h => absurd ((h s).mpr (List.mem_cons_self ..)) (by simp)
  | r :: fs, [], _, _, h => absurd ((h r).mp (List.mem_cons_self ..)) (by simp)
  | r :: fs, s :: gs, h1, h2, h => by
    obtain ⟨a1, b1⟩ := List.pairwise_cons.mp h1
    obtain ⟨a2, b2⟩ := List.pairwise_cons.mp h2
    have e : r = s := by
      rcases List.mem_cons.mp ((h r).mp (List.mem_cons_self ..)) with e | m1
      · exact e
      · rcases List.mem_cons.mp ((h s).mpr (List.mem_cons_self ..)) with e | m2
        · exact e.symm
        · exact absurd (a2 r m1) (plt_asym (a1 s m2))
    subst e
    have ht : ∀ t, t ∈ fs ↔ t ∈ gs := fun t => by
      constructor
      · intro m
        rcases List.mem_cons.mp ((h t).mp (List.mem_cons_of_mem _ m)) with e | m2
        · subst e
          exact absurd (a1 t m) (plt_irr _)
        · exact m2
      · intro m
        rcases List.mem_cons.mp ((h t).mpr (List.mem_cons_of_mem _ m)) with e | m2
        · subst e
          exact absurd (a2 t m) (plt_irr _)
        · exact m2
    rw [srt_eq b1 b2 ht]
theorem IsFigs.uniq {fs gs : List Fg} {f g f' g' : Str → Str → Int} (h1 : IsFigs fs f g) (h2 : IsFigs gs f' g') (ef : ∀ a c, f a c = f' a c) (eg : ∀ a c, g a c = g' a c) : fs = gs :=
  srt_eq h1.srt h2.srt fun ⟨a, c, x, y⟩ => by rw [h1.mem, h2.mem, ef, eg]
theorem IsFigs.nil {f g : Str → Str → Int} (ef : ∀ a c, f a c = 0) (eg : ∀ a c, g a c = 0) : IsFigs [] f g :=
  ⟨List.Pairwise.nil, fun a c x y => by rw [ef, eg]; simp; omega⟩
theorem IsFigs.to {fs : List Fg} {f g f' g' : Str → Str → Int} (h : IsFigs fs f g) (ef : ∀ a c, f a c = f' a c) (eg : ∀ a c, g a c = g' a c) : IsFigs fs f' g' :=
  ⟨h.srt, fun a c x y => by rw [h.mem, ef, eg]⟩
/-- a list of figures read as lines -/
def Fg.ln (z : Str) (r : Fg) : Ln := ⟨z, r.acc, r.coin, r.amt, r.wor⟩
theorem tot_row (f : Ln → Int) (z : Str) {a c : Str} : ∀ {fs : List Fg}, fs.Pairwise FLt → ∀ {r : Fg}, r ∈ fs → r.acc = a → r.coin = c → tot f (fs.map (Fg.ln z)) a c = f (r.ln z)
  | [], _, r, m, _, _ => by simp at m
  | s :: fs, h, r, m, ea, ec => by
    obtain ⟨h1, h2⟩ := List.pairwise_cons.mp h
    show (if s.acc = a ∧ s.coin = c then f (s.ln z) else 0) + tot f (fs.map (Fg.ln z)) a c = _
    rcases List.mem_cons.mp m with e | m
    · subst e
      rw [if_pos ⟨ea, ec⟩, tot_none f, Int.add_zero]
      intro l hl
      obtain ⟨t, ht, e⟩ := List.mem_map.mp hl
      subst e
      intro ⟨e1, e2⟩
      have q := h1 t ht
      have e1 : t.acc = a := e1
      have e2 : t.coin = c := e2
      unfold FLt at q
      rw [ea, ec, e1, e2] at q
      exact plt_irr _ q
    · rw [if_neg, tot_row f z h2 m ea ec, Int.zero_add]
      intro ⟨e1, e2⟩
      have q := h1 r m
      unfold FLt at q
      rw [ea, ec, e1, e2] at q
      exact plt_irr _ q
theorem IsFigs.amt {fs : List Fg} {f g : Str → Str → Int} (h : IsFigs fs f g) (z : Str) (a c : Str) : amtOf (fs.map (Fg.ln z)) a c = f a c := by
  by_cases e : f a c ≠ 0 ∨ g a c ≠ 0
  · have m := (h.mem a c (f a c) (g a c)).mpr ⟨rfl, rfl, e⟩
    exact tot_row Ln.amt z h.srt m rfl rfl
  · have e0 : f a c = 0 := by omega
    rw [e0]
    refine tot_none _ fun l hl ⟨e1, e2⟩ => ?_
    obtain ⟨⟨a', c', x, y⟩, hr, q⟩ := List.mem_map.mp hl
    subst q
    have e1 : a' = a := e1
    have e2 : c' = c := e2
    subst e1 e2
    have q := (h.mem a' c' x y).mp hr
    omega
theorem IsFigs.wor {fs : List Fg} {f g : Str → Str → Int} (h : IsFigs fs f g) (z : Str) (a c : Str) : worOf (fs.map (Fg.ln z)) a c = g a c := by
  by_cases e : f a c ≠ 0 ∨ g a c ≠ 0
  · have m := (h.mem a c (f a c) (g a c)).mpr ⟨rfl, rfl, e⟩
    exact tot_row Ln.wor z h.srt m rfl rfl
  · have e0 : g a c = 0 := by omega
    rw [e0]
    refine tot_none _ fun l hl ⟨e1, e2⟩ => ?_
    obtain ⟨⟨a', c', x, y⟩, hr, q⟩ := List.mem_map.mp hl
    subst q
    have e1 : a' = a := e1
    have e2 : c' = c := e2
    subst e1 e2
    have q := (h.mem a' c' x y).mp hr
    omega

/-! ### the figures out of the places: sorted, those with nothing left out -/
def rowOf (f g : Str → Str → Int) (p : Str × Str) : Fg := ⟨p.1, p.2, f p.1 p.2, g p.1 p.2⟩
def keepP (f g : Str → Str → Int) (p : Str × Str) : Bool := decide (f p.1 p.2 ≠ 0 ∨ g p.1 p.2 ≠ 0)
def figsBy (f g : Str → Str → Int) (qs : List (Str × Str)) : List Fg := (qs.filter (keepP f g)).map (rowOf f g)
theorem figsBy_is {f g : Str → Str → Int} {qs : List (Str × Str)} (hs : qs.Pairwise PLt) (h : ∀ p, p ∉ qs → f p.1 p.2 = 0 ∧ g p.1 p.2 = 0) : IsFigs (figsBy f g qs) f g := by
  refine ⟨?_, fun a c x y => ?_⟩
  · unfold figsBy
    rw [List.pairwise_map]
    exact (hs.filter _).imp fun q => q
  · unfold figsBy
    constructor
    · intro m
      obtain ⟨p, hp, e⟩ := List.mem_map.mp m
      obtain ⟨_, k⟩ := List.mem_filter.mp hp
      unfold rowOf at e
      injection e with e1 e2 e3 e4
      have k := of_decide_eq_true k
      rw [e1, e2] at e3 e4 k
      rw [e3, e4] at k
      exact ⟨e3.symm, e4.symm, k⟩
    · rintro ⟨e1, e2, k⟩
      have hm : (a, c) ∈ qs := by
        by_cases hm : (a, c) ∈ qs
        · exact hm
        · have q := h (a, c) hm
          simp only at q
          omega
      refine List.mem_map.mpr ⟨(a, c), List.mem_filter.mpr ⟨hm, ?_⟩, ?_⟩
      · refine decide_eq_true ?_
        show f a c ≠ 0 ∨ g a c ≠ 0
        rw [← e1, ← e2]
        exact k
      · unfold rowOf
        show (⟨a, c, f a c, g a c⟩ : Fg) = _
        rw [← e1, ← e2]
theorem figsBy_yes {f g : Str → Str → Int} (qs : List (Str × Str)) {q : Str × Str} (h : keepP f g q = true) : figsBy f g (qs ++ [q]) = figsBy f g qs ++ [rowOf f g q] := by
  unfold figsBy
  rw [List.filter_append, List.map_append, List.filter_cons, if_pos h]
  rfl
theorem figsBy_no {f g : Str → Str → Int} (qs : List (Str × Str)) {q : Str × Str} (h : keepP f g q = false) : figsBy f g (qs ++ [q]) = figsBy f g qs := by
  unfold figsBy
  rw [List.filter_append, List.map_append, List.filter_cons, if_neg (by rw [h]; decide)]
  simp
theorem figsBy_len (f g : Str → Str → Int) (qs : List (Str × Str)) : (figsBy f g qs).length ≤ qs.length := by
  unfold figsBy
  rw [List.length_map]
  exact List.length_filter_le ..

/-! ### places in the order in which they first come -/
def adj (ps : List (Str × Str)) (q : Str × Str) : List (Str × Str) := if q ∈ ps then ps else ps ++ [q]
def plc (l : Ln) : Str × Str := (l.acc, l.coin)
def places : List Ln → List (Str × Str) := fun ls => ls.foldl (fun ps l => adj ps (plc l)) []
theorem places_snoc (ls : List Ln) (l : Ln) : places (ls ++ [l]) = adj (places ls) (plc l) := by
  unfold places
  rw [List.foldl_append]
  rfl
theorem adj_nodup {ps : List (Str × Str)} {q : Str × Str} (h : ps.Nodup) : (adj ps q).Nodup := by
  unfold adj
  split
  · exact h
  · rename_i hq
    rw [List.nodup_append]
    refine ⟨h, by simp, fun a ha b hb => ?_⟩
    have e : b = q := by simpa using hb
    subst e
    intro z
    subst z
    exact hq ha
theorem adj_len (ps : List (Str × Str)) (q : Str × Str) : (adj ps q).length ≤ ps.length + 1 := by
  unfold adj
  split
  · omega
  · rw [List.length_append]
    simp
theorem mem_adj {ps : List (Str × Str)} {q p : Str × Str} : p ∈ adj ps q ↔ p ∈ ps ∨ p = q := by
  unfold adj
  split
  · rename_i hq
    constructor
    · exact .inl
    · rintro (h | h)
      · exact h
      · subst h
        exact hq
  · simp
theorem snoc_ind {α : Type} {P : List α → Prop} (h0 : P []) (hs : ∀ xs x, P xs → P (xs ++ [x])) (xs : List α) : P xs := by
  have h : ∀ ys : List α, P ys.reverse := fun ys => by
    induction ys with
    | nil => exact h0
    | cons y r ih =>
      rw [List.reverse_cons]
      exact hs _ _ ih
  have q := h xs.reverse
  rw [List.reverse_reverse] at q
  exact q
theorem places_nodup (ls : List Ln) : (places ls).Nodup := by
  induction ls using snoc_ind with
  | h0 => exact List.nodup_nil
  | hs xs x ih =>
    rw [places_snoc]
    exact adj_nodup ih
theorem places_len (ls : List Ln) : (places ls).length ≤ ls.length := by
  induction ls using snoc_ind with
  | h0 => exact Nat.le_refl _
  | hs xs x ih =>
    rw [places_snoc, List.length_append]
    have := adj_len (places xs) (plc x)
    simp
    omega
theorem mem_places {ls : List Ln} {p : Str × Str} : p ∈ places ls ↔ ∃ l ∈ ls, plc l = p := by
  induction ls using snoc_ind with
  | h0 => simp [places]
  | hs xs x ih =>
    rw [places_snoc, mem_adj, ih]
    constructor
    · rintro (⟨l, h, e⟩ | e)
      · exact ⟨l, List.mem_append_left _ h, e⟩
      · exact ⟨x, by simp, e.symm⟩
    · rintro ⟨l, h, e⟩
      rcases List.mem_append.mp h with h | h
      · exact .inl ⟨l, h, e⟩
      · have z : l = x := by simpa using h
        subst z
        exact .inr e.symm
theorem tot_places (f : Ln → Int) {ls : List Ln} {p : Str × Str} (h : p ∉ places ls) : tot f ls p.1 p.2 = 0 :=
  tot_none f fun l hl ⟨e1, e2⟩ => h (mem_places.mpr ⟨l, hl, Prod.ext e1 e2⟩)
theorem tot_snoc (f : Ln → Int) (ls : List Ln) (l : Ln) (a c : Str) : tot f (ls ++ [l]) a c = tot f ls a c + (if plc l = (a, c) then f l else 0) := by
  rw [tot_append]
  show _ + ((if l.acc = a ∧ l.coin = c then f l else 0) + 0) = _
  rw [Int.add_zero]
  congr 1
  by_cases e : l.acc = a ∧ l.coin = c
  · rw [if_pos e, if_pos (Prod.ext e.1 e.2)]
  · rw [if_neg e, if_neg fun z => e ⟨congrArg Prod.fst z, congrArg Prod.snd z⟩]
/-- sorted places give the figures of the lines -/
theorem figs_of {ls : List Ln} {qs : List (Str × Str)} (hp : qs.Perm (places ls)) (hs : qs.Pairwise PLt) : IsFigs (figsBy (amtOf ls) (worOf ls) qs) (amtOf ls) (worOf ls) ∧ (figsBy (amtOf ls) (worOf ls) qs).length ≤ ls.length := by
  refine ⟨figsBy_is hs fun p hn => ?_, ?_⟩
  · have hn' : p ∉ places ls := fun m => hn (hp.mem_iff.mpr m)
    exact ⟨tot_places _ hn', tot_places _ hn'⟩
  · refine Nat.le_trans (figsBy_len ..) ?_
    rw [hp.length_eq]
    exact places_len ls

/-! ### lines by months -/
def monthL (E : List (Int × List Ln)) (m : Int) : List Ln := (E.filter fun e => decide (e.1 = m)).flatMap (·.2)
def uptoL (E : List (Int × List Ln)) (m : Int) : List Ln := (E.filter fun e => decide (e.1 ≤ m)).flatMap (·.2)
def aheadL (E : List (Int × List Ln)) : Nat → List Ln
  | 0 => []
  | n + 1 => aheadL E n ++ monthL E (n : Int)
theorem monthL_cons (e : Int × List Ln) (E : List (Int × List Ln)) (m : Int) : monthL (e :: E) m = if e.1 = m then e.2 ++ monthL E m else monthL E m := by
  unfold monthL
  rw [List.filter_cons]
  by_cases h : e.1 = m
  · rw [if_pos (decide_eq_true h), if_pos h, List.flatMap_cons]
  · rw [if_neg (by simpa using h), if_neg h]
theorem uptoL_cons (e : Int × List Ln) (E : List (Int × List Ln)) (m : Int) : uptoL (e :: E) m = if e.1 ≤ m then e.2 ++ uptoL E m else uptoL E m := by
  unfold uptoL
  rw [List.filter_cons]
  by_cases h : e.1 ≤ m
  · rw [if_pos (decide_eq_true h), if_pos h, List.flatMap_cons]
  · rw [if_neg (by simpa using h), if_neg h]
theorem monthL_snoc (E : List (Int × List Ln)) (e : Int × List Ln) (m : Int) : monthL (E ++ [e]) m = if e.1 = m then monthL E m ++ e.2 else monthL E m := by
  induction E with
  | nil =>
    show monthL [e] m = _
    rw [monthL_cons]
    by_cases h : e.1 = m
    · rw [if_pos h, if_pos h]
      show e.2 ++ [] = [] ++ e.2
      simp
    · rw [if_neg h, if_neg h]
  | cons x r ih =>
    rw [List.cons_append, monthL_cons, monthL_cons, ih]
    by_cases h : e.1 = m <;> by_cases g : x.1 = m <;> simp [h, g]
theorem uptoL_snoc (E : List (Int × List Ln)) (e : Int × List Ln) (m : Int) : uptoL (E ++ [e]) m = if e.1 ≤ m then uptoL E m ++ e.2 else uptoL E m := by
  induction E with
  | nil =>
    show uptoL [e] m = _
    rw [uptoL_cons]
    by_cases h : e.1 ≤ m
    · rw [if_pos h, if_pos h]
      show e.2 ++ [] = [] ++ e.2
      simp
    · rw [if_neg h, if_neg h]
  | cons x r ih =>
    rw [List.cons_append, uptoL_cons, uptoL_cons, ih]
    by_cases h : e.1 ≤ m <;> by_cases g : x.1 ≤ m <;> simp [h, g]
/-- entries by days, as entries by months -/
def mE (E : List (Int × List Ln)) : List (Int × List Ln) := E.map fun e => (e.1 / 30, e.2)
theorem mE_snoc (E : List (Int × List Ln)) (e : Int × List Ln) : mE (E ++ [e]) = mE E ++ [(e.1 / 30, e.2)] := by
  unfold mE
  rw [List.map_append]
  rfl
theorem tot_upto_step (f : Ln → Int) (E : List (Int × List Ln)) (m : Int) (a c : Str) : tot f (uptoL E m) a c = tot f (uptoL E (m - 1)) a c + tot f (monthL E m) a c := by
  induction E with
  | nil => rfl
  | cons e r ih =>
    rw [monthL_cons, uptoL_cons, uptoL_cons]
    by_cases h1 : e.1 = m
    · rw [if_pos (show e.1 ≤ m by omega), if_neg (show ¬ e.1 ≤ m - 1 by omega), if_pos h1, tot_append, tot_append, ih]
      omega
    · by_cases h2 : e.1 ≤ m
      · rw [if_pos h2, if_pos (show e.1 ≤ m - 1 by omega), if_neg h1, tot_append, tot_append, ih]
        omega
      · rw [if_neg h2, if_neg (show ¬ e.1 ≤ m - 1 by omega), if_neg h1, ih]
theorem uptoL_low {E : List (Int × List Ln)} (h : ∀ e ∈ E, 0 ≤ e.1) : uptoL E (-1) = [] := by
  induction E with
  | nil => rfl
  | cons e r ih =>
    rw [uptoL_cons, if_neg (by have := h e (List.mem_cons_self ..); omega), ih fun x hx => h x (List.mem_cons_of_mem _ hx)]
theorem tot_ahead (f : Ln → Int) {E : List (Int × List Ln)} (h : ∀ e ∈ E, 0 ≤ e.1) (n : Nat) (a c : Str) : tot f (aheadL E n) a c = tot f (uptoL E ((n : Int) - 1)) a c := by
  induction n with
  | zero =>
    show tot f [] a c = tot f (uptoL E (((0 : Nat) : Int) - 1)) a c
    rw [show (((0 : Nat) : Int) - 1) = -1 from rfl, uptoL_low h]
  | succ n ih =>
    show tot f (aheadL E n ++ monthL E n) a c = _
    rw [tot_append, ih, tot_upto_step f E (((n + 1 : Nat) : Int) - 1), show (((n + 1 : Nat) : Int) - 1) = (n : Int) by omega]
theorem monthL_shift (E : List (Int × List Ln)) (k m : Int) : monthL (E.map fun e => (e.1 + k, e.2)) (m + k) = monthL E m := by
  induction E with
  | nil => rfl
  | cons e r ih =>
    rw [List.map_cons, monthL_cons, monthL_cons, ih]
    by_cases h : e.1 = m
    · rw [if_pos h, if_pos (show e.1 + k = m + k by omega)]
    · rw [if_neg h, if_neg (show ¬ e.1 + k = m + k by omega)]

/-- the entries of the plain book: months farther -/
def shf (k : Int) (E : List (Int × List Ln)) : List (Int × List Ln) := E.map fun e => (e.1 + 30 * k, e.2)
theorem shf_snoc (k : Int) (E : List (Int × List Ln)) (e : Int × List Ln) : shf k (E ++ [e]) = shf k E ++ [(e.1 + 30 * k, e.2)] := by
  unfold shf
  rw [List.map_append]
  rfl
theorem mE_shf (k : Int) (E : List (Int × List Ln)) : mE (shf k E) = (mE E).map fun e => (e.1 + k, e.2) := by
  unfold mE shf
  rw [List.map_map, List.map_map]
  refine List.map_congr_left fun e _ => ?_
  show ((e.1 + 30 * k) / 30, e.2) = (e.1 / 30 + k, e.2)
  rw [show (e.1 + 30 * k) / 30 = e.1 / 30 + k by omega]
theorem month_far (k m : Int) (E : List (Int × List Ln)) : monthL (mE (shf k E)) (m + k) = monthL (mE E) m := by
  rw [mE_shf]
  exact monthL_shift _ _ _
theorem mE_low {E : List (Int × List Ln)} (h : ∀ e ∈ E, 0 ≤ e.1) : ∀ e ∈ mE E, 0 ≤ e.1 := fun e he => by
  unfold mE at he
  obtain ⟨d, hd, rfl⟩ := List.mem_map.mp he
  have := h d hd
  show 0 ≤ d.1 / 30
  omega
theorem ahead_upto (f : Ln → Int) {R : List (Int × List Ln)} (h : ∀ e ∈ R, 0 ≤ e.1) (i : Nat) (a c : Str) : tot f (uptoL R ((i : Nat) : Int)) a c = tot f (aheadL R (i + 1)) a c := by
  rw [tot_ahead f h, show (((i + 1 : Nat) : Int) - 1) = ((i : Nat) : Int) by omega]

/-! ### sizes -/
def sizeL (E : List (Int × List Ln)) : Nat := (E.map fun e => e.2.length).sum
theorem sizeL_snoc (E : List (Int × List Ln)) (e : Int × List Ln) : sizeL (E ++ [e]) = sizeL E + e.2.length := by
  unfold sizeL
  rw [List.map_append, List.sum_append]
  simp
theorem sizeL_mE (E : List (Int × List Ln)) : sizeL (mE E) = sizeL E := by
  unfold sizeL mE
  rw [List.map_map]
  rfl
theorem sizeL_take (E : List (Int × List Ln)) (i : Nat) : sizeL (E.take i) ≤ sizeL E := by
  induction E generalizing i with
  | nil => simp
  | cons e r ih =>
    cases i with
    | zero => exact Nat.zero_le _
    | succ i =>
      show e.2.length + sizeL (r.take i) ≤ e.2.length + sizeL r
      have := ih i
      omega
theorem sizeL_shf (k : Int) (E : List (Int × List Ln)) : sizeL (shf k E) = sizeL E := by
  unfold sizeL shf
  rw [List.map_map]
  rfl
theorem shf_len (k : Int) (E : List (Int × List Ln)) : (shf k E).length = E.length := by
  unfold shf
  rw [List.length_map]
theorem monthL_len (E : List (Int × List Ln)) (m : Int) : (monthL E m).length ≤ sizeL E := by
  induction E with
  | nil => exact Nat.le_refl _
  | cons e r ih =>
    rw [monthL_cons]
    show _ ≤ e.2.length + sizeL r
    split
    · rw [List.length_append]
      omega
    · omega
theorem uptoL_len (E : List (Int × List Ln)) (m : Int) : (uptoL E m).length ≤ sizeL E := by
  induction E with
  | nil => exact Nat.le_refl _
  | cons e r ih =>
    rw [uptoL_cons]
    show _ ≤ e.2.length + sizeL r
    split
    · rw [List.length_append]
      omega
    · omega
theorem aheadL_len (E : List (Int × List Ln)) (n : Nat) : (aheadL E n).length ≤ n * sizeL E := by
  induction n with
  | zero => exact Nat.zero_le _
  | succ n ih =>
    show (aheadL E n ++ monthL E n).length ≤ _
    rw [List.length_append, Nat.succ_mul]
    have := monthL_len E (n : Int)
    omega

/-! ### what a book takes: amounts come to 0 in each coin, worths come to 0 -/
def coinTot : List Ln → Str → Int
  | [], _ => 0
  | l :: r, c => (if l.coin = c then l.amt else 0) + coinTot r c
theorem coinTot_snoc (ls : List Ln) (l : Ln) (c : Str) : coinTot (ls ++ [l]) c = coinTot ls c + (if l.coin = c then l.amt else 0) := by
  induction ls with
  | nil =>
    show (if l.coin = c then l.amt else 0) + 0 = 0 + (if l.coin = c then l.amt else 0)
    omega
  | cons x r ih =>
    show (if x.coin = c then x.amt else 0) + coinTot (r ++ [l]) c = (if x.coin = c then x.amt else 0) + coinTot r c + _
    rw [ih]
    omega
structure Bal (firm : Str) (ls : List Ln) : Prop where
  own : ∀ l ∈ ls, l.firm = firm
  coin : ∀ c, coinTot ls c = 0
  wor : (ls.map Ln.wor).sum = 0
def coins : List Ln → List Str := fun ls => ls.foldl (fun cs l => if l.coin ∈ cs then cs else cs ++ [l.coin]) []
theorem coins_snoc (ls : List Ln) (l : Ln) : coins (ls ++ [l]) = if l.coin ∈ coins ls then coins ls else coins ls ++ [l.coin] := by
  unfold coins
  rw [List.foldl_append]
  rfl
theorem coins_len (ls : List Ln) : (coins ls).length ≤ ls.length := by
  induction ls using snoc_ind with
  | h0 => exact Nat.le_refl _
  | hs xs x ih =>
    rw [coins_snoc, List.length_append]
    split
    · simp
      omega
    · rw [List.length_append]
      simp
      omega
theorem coinTot_none {ls : List Ln} {c : Str} (h : c ∉ coins ls) : coinTot ls c = 0 := by
  induction ls using snoc_ind with
  | h0 => rfl
  | hs xs x ih =>
    rw [coins_snoc] at h
    rw [coinTot_snoc]
    by_cases hx : x.coin ∈ coins xs
    · rw [if_pos hx] at h
      rw [ih h, if_neg fun e : x.coin = c => h (e ▸ hx)]
      rfl
    · rw [if_neg hx] at h
      rw [ih fun m => h (List.mem_append_left _ m), if_neg fun e : x.coin = c => h (by rw [← e]; simp)]
      rfl
/-- the lines that the law builds -/
theorem bal2 (f a1 a2 c : Str) (x y : Int) : Bal f [⟨f, a1, c, x, y⟩, ⟨f, a2, c, 0 - x, 0 - y⟩] := by
  refine ⟨fun l hl => ?_, fun d => ?_, ?_⟩
  · rcases List.mem_cons.mp hl with e | hl
    · rw [e]
    · rw [List.mem_singleton.mp hl]
  · show (if c = d then x else 0) + ((if c = d then 0 - x else 0) + 0) = 0
    split <;> omega
  · show y + (0 - y + 0) = 0
    omega
theorem bal4 (f a1 a2 c o r : Str) (x y : Int) : Bal f ([⟨f, a1, c, x, y⟩, ⟨f, a2, c, 0 - x, 0 - y⟩] ++ [⟨f, a2, o, 0, 1⟩, ⟨f, r, o, 0, -1⟩]) := by
  refine ⟨fun l hl => ?_, fun d => ?_, ?_⟩
  · simp at hl
    rcases hl with e | e | e | e <;> rw [e]
  · show (if c = d then x else 0) + ((if c = d then 0 - x else 0) + ((if o = d then 0 else 0) + ((if o = d then 0 else 0) + 0))) = 0
    split <;> split <;> omega
  · show y + (0 - y + (1 + (-1 + 0))) = 0
    omega
end K34

/-! rules of our own over the hand layer: sorted of a dict whose keys are pairs of texts, a class's def called by the class, dicts as functions over places, tuples at the items of a list -/
namespace K34
open PySem PySem.Spec PyProof.Rows L2

/-! ### a class's def, called by the class: C.m(x, ..) -/
def tClsFn (C : Addr) (sp : Sp) (dvs : List V) (E : XK) (ta : TE) (t : TA) : TE := fun σ H Q => ta σ H fun x H1 => x = .ref C ∧ t σ H1 fun vs H2 => sp (vs ++ dvs) H2 Q E
section
variable {X : Cx} {CX : CXT} {k : Nat} {C f : Addr} {mc : Value} {fd : FuncData} {ps : List Str} {sp : Sp} {E : XK} {ds : List Value} {dvs : List V} {o e : Expr} {es : List Expr} {m : Str} {pos apos : Pos} {ta : TE} {t : TA} {pl : Sem Bool}
theorem pe_clsfn (he : PE X o ta) (r : ClX.CRead X.K C mc) (c : PySem.W.findCls X.K (.ref C) mc m = some (.val (.ref f))) (hk : PySem.W.keepIn X.K (.ref f) = true) (F : FnOk X.prog X.w X.K X.mg X.base CX k f fd ps sp) (hr : Room k X.A)
    (hb : Binds X.K fd ps ds) (hd : Vals dvs ds) (hx : Passes CX X E) (ha : PA X (e :: es) t)
    (hst : starEach (e :: es) X.env = (false, eval e X.env) :: starEach es X.env := by rfl) (hpl : (backTo pos (starEach es X.env)).any (·.1) = false := by rfl)
    (ht : eval (.Call (.Attribute o m apos) (e :: es) [] pos) X.env = (do
      let ov ← eval o X.env
      standAt apos.atName
      let (f, first) ← holding [ov] (getMethod ov m pl)
      callWith pos f first (backTo pos (starEach (e :: es) X.env)) (backToKw pos (keywordEach [] X.env))) := by rfl) :
    PE X (.Call (.Attribute o m apos) (e :: es) [] pos) (tClsFn C sp dvs E ta t) := by
  refine ⟨fun pins s σ H Q I h => ?_⟩
  refine PySem.W.methodCall_KW (pl := pl) (thn (he.run pins s σ H _ I h) fun u s1 ⟨x, H1, I1, rx, ex, q⟩ => ?_) ht
  subst ex
  obtain rfl : u = Value.ref C := rx
  refine PySem.W.method_cls I1.kIn r.ga (PySem.W.cls_value I1.kIn r.rd c (by first | rfl | decide +kernel) ?_)
  refine PySem.W.callWith_K (first := []) (h₀ := X.base) I.ok.mod.kin hk (thn (ha.run pos pins _ σ H1 _ (I1.tok _) q) fun us s2 ⟨vs, H2, I2, r2, q2⟩ => ⟨I2.kIn, ?_⟩) hst hpl
  exact run_fn (us := us) (vs := vs) F hr hb hd hx I2 r2 q2
end

/-! ### sorted(d), the keys pairs of texts -/
def pkey (p : Str × Str) : List Key := [.inr p.1, .inr p.2]
theorem pkey_inj {p q : Str × Str} (h : pkey p = pkey q) : p = q := by
  unfold pkey at h
  injection h with h1 h2
  injection h2 with h2 _
  exact Prod.ext (Sum.inr.inj h1) (Sum.inr.inj h2)
def pairV (p : Str × Str) : List V := [.str p.1, .str p.2]
theorem pkey_map (p : Str × Str) : (pkey p).map kV = pairV p := rfl
def encP (b : (Str × Str) × Addr) : PyData := .tuple [.str b.1.1, .str b.1.2]
theorem lt_enc (x y : (Str × Str) × Addr) : PySem.W.dataLt (encP x) (encP y) = true ↔ PLt x.1 y.1 := by
  unfold encP
  rw [PySem.W.dataLt_pair (by simp [PySem.W.alike]) (by simp [PySem.W.alike]), PySem.W.dataLt_str, PySem.W.dataLt_str]
  simp only [PyData.eqv, beq_iff_eq]
  unfold PLt
  by_cases h1 : x.1.1 = y.1.1
  · rw [if_pos h1]
    have n1 : ¬ x.1.1.cps.toList < y.1.1.cps.toList := by
      rw [h1]
      exact sirr _
    by_cases h2 : x.1.2 = y.1.2
    · rw [if_pos h2]
      have n2 : ¬ x.1.2.cps.toList < y.1.2.cps.toList := by
        rw [h2]
        exact sirr _
      simp [n1, n2]
    · rw [if_neg h2]
      constructor
      · exact fun h => .inr ⟨h1, of_decide_eq_true h⟩
      · rintro (h | ⟨_, h⟩)
        · exact absurd h n1
        · exact decide_eq_true h
  · rw [if_neg h1]
    simp [h1]
theorem le_trans_enc (a b c : (Str × Str) × Addr) (h1 : PySem.W.dataLe false encP a b = true) (h2 : PySem.W.dataLe false encP b c = true) : PySem.W.dataLe false encP a c = true := by
  rw [PySem.W.dataLe_eq] at *
  simp only [cond_false, Bool.not_eq_true'] at *
  have n1 : ¬ PLt b.1 a.1 := fun z => by
    rw [(lt_enc b a).mpr z] at h1
    cases h1
  have n2 : ¬ PLt c.1 b.1 := fun z => by
    rw [(lt_enc c b).mpr z] at h2
    cases h2
  refine Bool.eq_false_iff.mpr fun z => ?_
  have z' := (lt_enc c a).mp z
  by_cases e : a.1 = b.1
  · rw [e] at z'
    exact n2 z'
  · rcases plt_or e with g | g
    · exact n2 (plt_trans z' g)
    · exact n1 g
theorem le_total_enc (a b : (Str × Str) × Addr) : (PySem.W.dataLe false encP a b || PySem.W.dataLe false encP b a) = true := by
  rw [PySem.W.dataLe_eq]
  simp only [cond_false]
  cases h1 : PySem.W.dataLt (encP b) (encP a) with
  | false => rfl
  | true =>
    cases h2 : PySem.W.dataLt (encP a) (encP b) with
    | false => rfl
    | true => exact absurd ((lt_enc a b).mp h2) (plt_asym ((lt_enc b a).mp h1))
/-- strictly up, where no place comes twice -/
theorem srt_enc {bs : List ((Str × Str) × Addr)} (hn : (bs.map (·.1)).Nodup) : ((bs.mergeSort (PySem.W.dataLe false encP)).map (·.1)).Pairwise PLt := by
  have p1 := List.pairwise_mergeSort (le := PySem.W.dataLe false encP) le_trans_enc le_total_enc bs
  have pm : ((bs.mergeSort (PySem.W.dataLe false encP)).map (·.1)).Perm (bs.map (·.1)) := (List.mergeSort_perm bs _).map _
  have nd : ((bs.mergeSort (PySem.W.dataLe false encP)).map (·.1)).Nodup := pm.nodup_iff.mpr hn
  rw [List.pairwise_map]
  have nd' : (bs.mergeSort (PySem.W.dataLe false encP)).Pairwise fun x y => x.1 ≠ y.1 := List.pairwise_map.mp nd
  refine (p1.and nd').imp fun {x y} ⟨h, ne⟩ => ?_
  rw [PySem.W.dataLe_eq] at h
  simp only [cond_false, Bool.not_eq_true'] at h
  rcases plt_or ne with g | g
  · exact g
  · rw [(lt_enc y x).mpr g] at h
    cases h
/-- pairs of texts at the refs -/
def PAt (H : Hp) : List Addr → List (Str × Str) → Prop := Paired fun a p => H a = some (.tup (pairV p))
def rSortedPl : List V → Hp → VK → Prop := fun xs H Q => ∃ (d : Addr) (kvs : List (List Key × V)) (ps : List (Str × Str)), xs = [V.ref d] ∧ H d = some (.dT kvs) ∧ kvs.map (·.1) = ps.map pkey ∧ ps.Nodup ∧
  ∀ (p : Addr) (as : List Addr) (qs : List (Str × Str)), H p = none → qs.Perm ps → qs.Pairwise PLt → PAt H as qs → Q (.ref p) (upd H p (.lst (as.map V.ref)))
theorem each_paired {α β : Type} {R : α → β → Prop} : ∀ {xs : List α} {ys : List β}, Paired R xs ys → PySem.W.EachIs R xs ys
  | _, _, .nil => .nil
  | _, _, .cons h t => .cons h (each_paired t)
theorem paired_each {α β : Type} {R : α → β → Prop} : ∀ {xs : List α} {ys : List β}, PySem.W.EachIs R xs ys → Paired R xs ys
  | _, _, .nil => .nil
  | _, _, .cons h t => .cons h (paired_each t)
theorem keysZip {H : Hp} : ∀ {kvs : List (List Key × V)} {ks : List (List Key × Addr × Value)} {ps : List (Str × Str)}, KT H kvs ks → kvs.map (·.1) = ps.map pkey →
    ∃ bs : List ((Str × Str) × Addr), bs.map (·.1) = ps ∧ bs.map (·.2) = ks.map (fun x => x.2.1) ∧ ∀ b ∈ bs, H b.2 = some (.tup (pairV b.1))
  | _, _, [], .nil, _ => ⟨[], rfl, rfl, fun _ h => by simp at h⟩
  | _, _, _ :: _, .nil, h => by simp at h
  | _, _, [], .cons _ _, h => by simp at h
  | (_ :: _), (_ :: _), p :: ps, .cons r t, h => by
    rw [List.map_cons, List.map_cons] at h
    injection h with h1 h2
    obtain ⟨bs, e1, e2, e3⟩ := keysZip t h2
    obtain ⟨r1, r2, r3⟩ := r
    refine ⟨(p, _) :: bs, by rw [List.map_cons, e1], by rw [List.map_cons, e2]; rfl, fun b hb => ?_⟩
    rcases List.mem_cons.mp hb with e | hb
    · subst e
      rw [h1] at r2
      exact r2
    · exact e3 b hb
section
variable {X : Cx}
theorem cr_sortedPl (hc : X.calm = true) (hu : X.A.units + 64 < cLine) : CallR X (.builtin "sorted") rSortedPl := by
  intro pins s σ H xs us Q I r q
  obtain ⟨d, kvs, ps, rfl, hd, hks, hnd, q⟩ := q
  obtain ⟨u, rfl, rx⟩ := vals1 r
  cases rx
  obtain ⟨z, hs, ks, pr, o, es, ep, ho, hx, hdt, he, hn⟩ := (show ObjOk X.prog X.w H s.heap d (.dT kvs) from I.hok d _ hd)
  have l1 : es.size = ks.length := size_of_entries he
  have l2 : kvs.length = ks.length := Paired.length pr
  obtain ⟨bs, b1, b2, b3⟩ := keysZip pr hks
  have lb : bs.length = ks.length := by
    have e := congrArg List.length b2
    rw [List.length_map, List.length_map] at e
    exact e
  refine Calls.call_function_entry PyProof.Rows.kind_sorted PyProof.Rows.plain_sorted PyProof.Rows.entry_sorted (PyProof.Rows.args_sorted1 _) ?_
  unfold Builtin.«sorted»
  refine wpAny_bind (m := checkCount "sorted" 1 1 _) (wpAny_pure ?_)
  refine wpAny_bind (PySem.W.kdu_collect (A := X.A.in1) (kdl_raw hs hx hdt) (I.ok.hd hc) ho (by omega) fun h' tk acc hk it => ?_)
  have ea : acc.toList = bs.map fun b => Value.ref b.2 := by
    have e0 : (bs.map fun b => Value.ref b.2) = ks.map fun x => Value.ref x.2.1 := by
      have e1 : (bs.map fun b => Value.ref b.2) = (bs.map (·.2)).map Value.ref := by
        rw [List.map_map]
        all_goals rfl
      rw [e1, b2, List.map_map]
      all_goals rfl
    rw [e0]
    have hl : acc.toList.length = ks.length := by rw [Array.length_toList, it.1]; exact l1
    apply List.ext_getElem?
    intro j
    rw [List.getElem?_map]
    cases hj : acc.toList[j]? with
    | none =>
      have h1 := List.getElem?_eq_none_iff.mp hj
      rw [List.getElem?_eq_none (by omega)]
      all_goals rfl
    | some v =>
      obtain ⟨en, hen, hv⟩ := it.2 j v (by rw [← Array.getElem?_toList]; exact hj)
      have qe := entry_at he j
      rw [hen] at qe
      cases hb : ks[j]? with
      | none =>
        rw [hb] at qe
        exact nomatch (show some en = none from qe)
      | some b =>
        rw [hb] at qe
        have e2 : en = entryOfKey (tupleKind (mixKind X.prog X.w)) b := Option.some.inj qe
        rw [hv, e2]
        all_goals rfl
  have I1 : Inv X pins σ H { s with heap := h', toks := tk } := I.kept hk
  have hal : acc.toList.length = bs.length := by rw [ea, List.length_map]
  refine wpAny_bind (wpAny_newList ?_ (by rw [hal]; omega))
  have hoL : (h'.push (seqObj "list" acc.toList.toArray 0)).get? h'.objs.size = some (seqObj "list" acc.toList.toArray 0) := Heap.get?_push_size _ rfl
  show wpAny _ _ _ _ _ { s with heap := h'.push (seqObj "list" acc.toList.toArray 0), toks := tk }
  have eR : PySem.W.EachIs (fun (v : Value) (b : (Str × Str) × Addr) => v = .ref b.2 ∧ b ∈ bs) acc.toList bs := by
    rw [ea]
    have all : ∀ cs : List ((Str × Str) × Addr), (∀ b ∈ cs, b ∈ bs) → PySem.W.EachIs (fun (v : Value) (b : (Str × Str) × Addr) => v = .ref b.2 ∧ b ∈ bs) (cs.map fun b => Value.ref b.2) cs := by
      intro cs
      induction cs with
      | nil => exact fun _ => .nil
      | cons b cs ih => exact fun h => .cons ⟨rfl, h b (List.mem_cons_self ..)⟩ (ih fun x hx => h x (List.mem_cons_of_mem _ hx))
    exact all bs fun _ h => h
  have rd : ∀ (b : (Str × Str) × Addr), b ∈ bs → Reads (h'.push (seqObj "list" acc.toList.toArray 0)) (.ref b.2) (encP b) [] := fun b hb => by
    obtain ⟨_, its, rv, oo, e1, e2, n, e3⟩ := (show ObjOk X.prog X.w H h' b.2 (.tup (pairV b.1)) from I1.hok _ _ (b3 b hb))
    cases rv with
    | cons r1 t1 =>
      cases t1 with
      | cons r2 t2 =>
        cases t2
        obtain ⟨t, rfl⟩ := r1
        obtain ⟨t', rfl⟩ := r2
        exact Reads.tuple (Heap.get?_push_of_some _ e1) e2 e3 (ReadsAll.cons (Reads.str _ t) (ReadsAll.cons (Reads.str _ t') ReadsAll.nil))
  have er : PySem.W.EachIs (fun (v : Value) (b : (Str × Str) × Addr) => ∃ as, Reads (h'.push (seqObj "list" acc.toList.toArray 0)) v (encP b) as ∧ h'.objs.size ∉ as) acc.toList bs :=
    eR.mono fun v b ⟨e, hb⟩ => ⟨[], by rw [e]; exact rd b hb, by simp⟩
  have hA : X.A.in1.units ≤ X.A.units + 1 := Nat.le_refl _
  refine wpAny_bind (wpAny_holding (PySem.W.list_sort_data (A := X.A.in1) (s := { s with heap := h'.push (seqObj "list" acc.toList.toArray 0), toks := tk }) hoL eR er (PySem.W.AllAlike.of fun b b' => by unfold encP; simp [PySem.W.alike, PySem.W.alikeAll])
    (PySem.W.Sortable.tuples fun b => ⟨_, _, rfl⟩) (by omega) (fun b _ => ?_) fun out hlen hout => ?_))
  · have e : (encP b).depth ≤ 2 := by
      unfold encP
      simp [PyData.depth, PyData.depthAll]
    omega
  have eo : out = (bs.mergeSort (PySem.W.dataLe false encP)).map fun b => Value.ref b.2 := by
    have all : ∀ {vs : List Value} {cs : List ((Str × Str) × Addr)}, PySem.W.EachIs (fun (v : Value) (b : (Str × Str) × Addr) => v = .ref b.2 ∧ b ∈ bs) vs cs → vs = cs.map fun b => Value.ref b.2 := by
      intro vs cs h
      induction h with
      | nil => rfl
      | cons h t ih => rw [List.map_cons, h.1, ih]
    exact all hout
  have pm := List.mergeSort_perm bs (PySem.W.dataLe false encP)
  generalize hms : bs.mergeSort (PySem.W.dataLe false encP) = ms at eo pm
  obtain ⟨e', he'⟩ := PyProof.Rows.sortedHeap_at (vs := acc.toList) (out := out.toArray) hoL
  have hlen2 : ((ms.map (·.2)).map V.ref).length ≤ sizeLine := by
    rw [List.length_map, List.length_map, pm.length_eq]
    omega
  have rv : Vals ((ms.map (·.2)).map V.ref) out := by
    rw [eo]
    have e1 : (ms.map fun b => Value.ref b.2) = (ms.map (·.2)).map Value.ref := by
      rw [List.map_map]
      all_goals rfl
    rw [e1]
    exact vals_refs _
  refine wpAny_pure ⟨_, rfl, .ref h'.objs.size, upd H h'.objs.size (.lst ((ms.map (·.2)).map V.ref)), I1.laid (t' := tk) (fun b u e => ?_) (Nat.le_refl _)
    (show ObjOk X.prog X.w _ _ _ (.lst ((ms.map (·.2)).map V.ref)) from ⟨hlen2, out, e', rv, he'⟩), rfl, q _ (ms.map (·.2)) (ms.map (·.1)) (I1.hok.fresh (Nat.le_refl _)) ?_ ?_ ?_⟩
  · have hb : b < h'.objs.size := Heap.lt_size e
    rw [PyProof.Rows.sortedHeap_old (Nat.ne_of_lt hb) (by rw [size_push']; exact Nat.lt_succ_of_lt hb)]
    exact Heap.get?_push_of_some _ e
  · rw [← b1]
    exact pm.map _
  · rw [← hms]
    exact srt_enc (by rw [b1]; exact hnd)
  · have all : ∀ cs : List ((Str × Str) × Addr), (∀ b ∈ cs, b ∈ bs) → PAt H (cs.map (·.2)) (cs.map (·.1)) := by
      intro cs
      induction cs with
      | nil => exact fun _ => .nil
      | cons b cs ih => exact fun h => .cons (b3 b (h b (List.mem_cons_self ..))) (ih fun x hx => h x (List.mem_cons_of_mem _ hx))
    exact all ms fun b hb => pm.mem_iff.mp hb
end

/-! ### == of plain data -/
def rEqP (K : PySem.W.Frag) : R2 := fun x y H Q => ∃ d e, Dp K H x d ∧ Dp K H y e ∧ d.plain = true ∧ e.plain = true ∧ d.depth ≤ 60 ∧ Q (.bl (PyData.eqv d e)) H
theorem op_eqP {X : Cx} (hu : X.A.units + 64 < cLine) : OpR X (compareOp .Eq) (rEqP X.K) := by
  intro pins s σ H x y v u Q I rx ry h
  obtain ⟨d, e, hd, he, sd, se, hdep, q⟩ := h
  obtain ⟨as, r1⟩ := Dp.reads I d x v hd rx
  obtain ⟨bs, r2⟩ := Dp.reads I e y u he ry
  exact PySem.SeqAt.eq_plain r1 r2 sd se (by omega) ⟨.bl _, H, I, rfl, q⟩

/-! ### dicts as functions over places -/
section
variable {κ π : Type} [DecidableEq κ] [DecidableEq π]
def dk (key : π → κ) (F : π → V) (ps : List π) : List (κ × V) := ps.map fun p => (key p, F p)
theorem dk_keys (key : π → κ) (F : π → V) (ps : List π) : (dk key F ps).map (·.1) = ps.map key := by
  unfold dk
  rw [List.map_map]
  rfl
theorem dk_len (key : π → κ) (F : π → V) (ps : List π) : (dk key F ps).length = ps.length := by
  unfold dk
  rw [List.length_map]
theorem valV_dk {key : π → κ} (inj : ∀ p q, key p = key q → p = q) (F : π → V) (q : π) : ∀ ps : List π, valV (dk key F ps) (key q) = if q ∈ ps then some (F q) else none
  | [] => by simp [dk, valV_nil]
  | p :: ps => by
    show valV ((key p, F p) :: dk key F ps) (key q) = _
    by_cases e : p = q
    · subst e
      rw [valV_pos rfl, if_pos (List.mem_cons_self ..)]
    · rw [valV_neg fun z => e (inj _ _ z), valV_dk inj F q ps]
      by_cases m : q ∈ ps
      · rw [if_pos m, if_pos (List.mem_cons_of_mem _ m)]
      · rw [if_neg m, if_neg fun z => (List.mem_cons.mp z).elim (fun z => e z.symm) m]
theorem putK_dk {key : π → κ} (inj : ∀ p q, key p = key q → p = q) (F : π → V) (ps : List π) (q : π) (v : V) :
    putK (dk key F ps) (key q) v = dk key (fun p => if p = q then v else F p) (if q ∈ ps then ps else ps ++ [q]) := by
  by_cases m : q ∈ ps
  · have h : ((dk key F ps).any fun kv => decide (kv.1 = key q)) = true := by
      rw [valV_any, valV_dk inj, if_pos m]
      rfl
    unfold putK
    rw [if_pos h, if_pos m]
    unfold dk
    rw [List.map_map]
    refine List.map_congr_left fun p _ => ?_
    show (if key p = key q then (key p, v) else (key p, F p)) = (key p, if p = q then v else F p)
    by_cases e : p = q
    · subst e
      rw [if_pos rfl, if_pos rfl]
    · rw [if_neg fun z => e (inj _ _ z), if_neg e]
  · have h : valV (dk key F ps) (key q) = none := by rw [valV_dk inj, if_neg m]
    rw [putK_new v h, if_neg m]
    unfold dk
    rw [List.map_append]
    congr 1
    · refine List.map_congr_left fun p hp => ?_
      show (key p, F p) = (key p, if p = q then v else F p)
      rw [if_neg fun z : p = q => m (z ▸ hp)]
    · show [(key q, v)] = [(key q, if q = q then v else F q)]
      rw [if_pos rfl]
theorem valV_pl (F : Str × Str → V) (q : Str × Str) (ps : List (Str × Str)) : valV (dk pkey F ps) (pkey q) = if q ∈ ps then some (F q) else none := by
  have h := valV_dk (key := pkey) (fun _ _ => pkey_inj) F q ps
  by_cases m : q ∈ ps
  · rw [if_pos m] at h ⊢
    exact h
  · rw [if_neg m] at h ⊢
    exact h
theorem putK_pl (F : Str × Str → V) (ps : List (Str × Str)) (q : Str × Str) (v : V) : putK (dk pkey F ps) (pkey q) v = dk pkey (fun p => if p = q then v else F p) (adj ps q) := by
  have h := putK_dk (key := pkey) (fun _ _ => pkey_inj) F ps q v
  unfold adj
  by_cases m : q ∈ ps
  · rw [if_pos m] at h ⊢
    exact h
  · rw [if_neg m] at h ⊢
    exact h
theorem dk_congr {key : π → κ} {F G : π → V} {ps : List π} (h : ∀ p, p ∈ ps → F p = G p) : dk key F ps = dk key G ps := by
  unfold dk
  exact List.map_congr_left fun p hp => by rw [h p hp]
end

/-! ### tuples at the items of a list -/
def At (H : Hp) : List V → List (List V) → Prop := Paired fun v t => ∃ a, v = .ref a ∧ H a = some (.tup t)
section
variable {H H' : Hp} {vs ws : List V} {ts us : List (List V)}
theorem At.mono (h : At H vs ts) (e : ∀ a t, H a = some (.tup t) → H' a = some (.tup t)) : At H' vs ts := Paired.mapP h fun v t ⟨a, e1, e2⟩ => ⟨a, e1, e a t e2⟩
theorem At.same (h : At H vs ts) (e : Same H H') : At H' vs ts := h.mono fun a t => e a _
theorem At.len (h : At H vs ts) : vs.length = ts.length := Paired.length h
theorem At.app : ∀ {vs : List V} {ts : List (List V)}, At H vs ts → At H ws us → At H (vs ++ ws) (ts ++ us)
  | _, _, .nil, h => h
  | _, _, .cons a b, h => .cons a (At.app b h)
theorem At.snoc {v : V} {t : List V} {a : Addr} (h : At H vs ts) (e : v = .ref a) (e2 : H a = some (.tup t)) : At H (vs ++ [v]) (ts ++ [t]) := h.app (.cons ⟨a, e, e2⟩ .nil)
theorem At.get {i : Nat} {v : V} (h : At H vs ts) (e : vs[i]? = some v) : ∃ t a, ts[i]? = some t ∧ v = .ref a ∧ H a = some (.tup t) := by
  obtain ⟨t, e1, a, e2, e3⟩ := paired_get h e
  exact ⟨t, a, e1, e2, e3⟩
end
def Ln.t (l : Ln) : List V := [.str l.firm, .str l.acc, .str l.coin, .int l.amt, .int l.wor]
def Fg.t (r : Fg) : List V := [.str r.acc, .str r.coin, .int r.amt, .int r.wor]
/-- lines, figures at the items -/
abbrev LAt (H : Hp) (vs : List V) (ls : List Ln) : Prop := At H vs (ls.map Ln.t)
abbrev FAt (H : Hp) (vs : List V) (fs : List Fg) : Prop := At H vs (fs.map Fg.t)
theorem LAt.get {H : Hp} {vs : List V} {ls : List Ln} {i : Nat} {v : V} (h : LAt H vs ls) (e : vs[i]? = some v) : ∃ l a, ls[i]? = some l ∧ v = .ref a ∧ H a = some (.tup l.t) := by
  obtain ⟨t, a, e1, e2, e3⟩ := At.get h e
  rw [List.getElem?_map] at e1
  cases q : ls[i]? with
  | none =>
    rw [q] at e1
    cases e1
  | some l =>
    rw [q] at e1
    cases e1
    exact ⟨l, a, rfl, e2, e3⟩
theorem FAt.get {H : Hp} {vs : List V} {ls : List Fg} {i : Nat} {v : V} (h : FAt H vs ls) (e : vs[i]? = some v) : ∃ l a, ls[i]? = some l ∧ v = .ref a ∧ H a = some (.tup l.t) := by
  obtain ⟨t, a, e1, e2, e3⟩ := At.get h e
  rw [List.getElem?_map] at e1
  cases q : ls[i]? with
  | none =>
    rw [q] at e1
    cases e1
  | some l =>
    rw [q] at e1
    cases e1
    exact ⟨l, a, rfl, e2, e3⟩
theorem FAt.snoc {H : Hp} {vs : List V} {fs : List Fg} {r : Fg} {a : Addr} (h : FAt H vs fs) (e : H a = some (.tup r.t)) : FAt H (vs ++ [.ref a]) (fs ++ [r]) := by
  show At H _ ((fs ++ [r]).map Fg.t)
  rw [List.map_append]
  exact At.snoc h rfl e
theorem LAt.snoc {H : Hp} {vs : List V} {fs : List Ln} {r : Ln} {a : Addr} (h : LAt H vs fs) (e : H a = some (.tup r.t)) : LAt H (vs ++ [.ref a]) (fs ++ [r]) := by
  show At H _ ((fs ++ [r]).map Ln.t)
  rw [List.map_append]
  exact At.snoc h rfl e
theorem LAt.app {H : Hp} {vs ws : List V} {ls ms : List Ln} (h : LAt H vs ls) (g : LAt H ws ms) : LAt H (vs ++ ws) (ls ++ ms) := by
  show At H _ ((ls ++ ms).map Ln.t)
  rw [List.map_append]
  exact At.app h g
theorem LAt.len {H : Hp} {vs : List V} {ls : List Ln} (h : LAt H vs ls) : vs.length = ls.length := by
  have e := At.len h
  rw [List.length_map] at e
  exact e
theorem FAt.len {H : Hp} {vs : List V} {ls : List Fg} (h : FAt H vs ls) : vs.length = ls.length := by
  have e := At.len h
  rw [List.length_map] at e
  exact e
theorem paired_take {α β : Type} {R : α → β → Prop} : ∀ {xs : List α} {ys : List β} (n : Nat), Paired R xs ys → Paired R (xs.take n) (ys.take n)
  | _, _, 0, _ => .nil
  | _, _, _ + 1, .nil => .nil
  | _, _, n + 1, .cons a b => .cons a (paired_take n b)
theorem paired_drop {α β : Type} {R : α → β → Prop} : ∀ {xs : List α} {ys : List β} (n : Nat), Paired R xs ys → Paired R (xs.drop n) (ys.drop n)
  | _, _, 0, h => h
  | _, _, _ + 1, .nil => .nil
  | _, _, n + 1, .cons _ b => paired_drop n b
theorem LAt.take {H : Hp} {vs : List V} {ls : List Ln} (n : Nat) (h : LAt H vs ls) : LAt H (vs.take n) (ls.take n) := by
  show At H _ ((ls.take n).map Ln.t)
  rw [List.map_take]
  exact paired_take n h
theorem LAt.drop {H : Hp} {vs : List V} {ls : List Ln} (n : Nat) (h : LAt H vs ls) : LAt H (vs.drop n) (ls.drop n) := by
  show At H _ ((ls.drop n).map Ln.t)
  rw [List.map_drop]
  exact paired_drop n h
theorem upd_free {H : Hp} {a b : Addr} {o : HO} (h : upd H a o b = none) : b ≠ a ∧ H b = none := by
  by_cases e : b = a
  · rw [e, upd_same] at h
    cases h
  · rw [upd_ne e] at h
    exact ⟨e, h⟩
theorem same_upd {H : Hp} {p : Addr} {o : HO} (h : H p = none) : Same H (upd H p o) := fun b x e => by
  rw [upd_ne (ne_of_none e h)]
  exact e
/-- new things grow, what stood stands -/
theorem same_mut {H H' : Hp} {p : Addr} {o : HO} (e : Same H H') (h : H p = none) : Same H (upd H' p o) := fun b x q => by
  rw [upd_ne (ne_of_none q h)]
  exact e _ _ q
theorem sz {n : Nat} (h : n ≤ 100000) : n ≤ sizeLine := Nat.le_trans h (by decide)
theorem szl {n : Nat} (h : n < 100000) : n < sizeLine := Nat.lt_of_lt_of_le h (by decide)
theorem take_succ_get {α : Type} {xs : List α} {i : Nat} {x : α} (h : xs[i]? = some x) : xs.take (i + 1) = xs.take i ++ [x] := by
  rw [List.take_add_one, h]
  rfl
end K34

/-! the text by places; what each def's names are -/
namespace K34
open PySem PySem.Spec PyProof.Rows L2
def top (i : Nat) : Stmt := PySem.Challenge.pw_groupbooks_k34_movements.main.body.getD i (.Pass ⟨0, 0, 0, 0⟩)
abbrev sRests : Stmt := top 7
abbrev sMonthOf : Stmt := top 9
abbrev sFigs : Stmt := top 10
abbrev sBInit : Stmt := inClass (top 11) 0
abbrev sBMay : Stmt := inClass (top 11) 1
abbrev sPost : Stmt := inClass (top 11) 2
abbrev sEntries : Stmt := inClass (top 11) 3
abbrev sSpots : Stmt := inClass (top 11) 4
abbrev sUpto : Stmt := inClass (top 11) 5
abbrev sFigures : Stmt := inClass (top 11) 6
abbrev sMoved : Stmt := top 13
abbrev sCarried : Stmt := top 14
abbrev sCopied : Stmt := top 16
abbrev sKInit : Stmt := inClass (top 17) 0
abbrev sKMay : Stmt := inClass (top 17) 1
abbrev sClose : Stmt := inClass (top 17) 3
abbrev sCell : Stmt := top 19
abbrev sWhole : Stmt := top 20
abbrev sNames : Stmt := top 21
abbrev sAmount : Stmt := top 22
abbrev sLines : Stmt := top 23
abbrev sLFigs : Stmt := top 24
abbrev sSame : Stmt := top 25
abbrev sLCarried : Stmt := top 26
abbrev sLMonth : Stmt := top 27
abbrev sLaw : Stmt := top 28
theorem scRests : FnScope ["sides", "sums", "side"] ["sides"] (defScope sRests) := ⟨rfl, rfl, rfl, by decide +kernel, rfl, by decide +kernel, by decide +kernel⟩
theorem scMonthOf : FnScope ["day"] ["day"] (defScope sMonthOf) := ⟨rfl, rfl, rfl, by decide +kernel, rfl, by decide +kernel, by decide +kernel⟩
theorem scFigs : FnScope ["lines", "amounts", "worths", "line", "place", "figures"] ["lines"] (defScope sFigs) := ⟨rfl, rfl, rfl, by decide +kernel, rfl, by decide +kernel, by decide +kernel⟩
theorem scBInit : FnScope ["self", "firm"] ["self", "firm"] (defScope sBInit) := ⟨rfl, rfl, rfl, by decide +kernel, rfl, by decide +kernel, by decide +kernel⟩
theorem scBMay : FnScope ["self", "day"] ["self", "day"] (defScope sBMay) := ⟨rfl, rfl, rfl, by decide +kernel, rfl, by decide +kernel, by decide +kernel⟩
theorem scPost : FnScope ["self", "day", "about", "lines", "line", "coin", "rest", "left"] ["self", "day", "about", "lines"] (defScope sPost) := ⟨rfl, rfl, rfl, by decide +kernel, rfl, by decide +kernel, by decide +kernel⟩
theorem scEntries : FnScope ["self", "day", "about", "lines"] ["self"] (defScope sEntries) := ⟨rfl, rfl, rfl, by decide +kernel, rfl, by decide +kernel, by decide +kernel⟩
theorem scSpots : FnScope ["self", "upto", "found", "number", "page", "place", "line"] ["self", "upto"] (defScope sSpots) := ⟨rfl, rfl, rfl, by decide +kernel, rfl, by decide +kernel, by decide +kernel⟩
theorem scUpto : FnScope ["self", "upto", "spot", "line"] ["self", "upto"] (defScope sUpto) := ⟨rfl, rfl, rfl, by decide +kernel, rfl, by decide +kernel, by decide +kernel⟩
theorem scFigures : FnScope ["self", "upto"] ["self", "upto"] (defScope sFigures) := ⟨rfl, rfl, rfl, by decide +kernel, rfl, by decide +kernel, by decide +kernel⟩
theorem scMoved : FnScope ["book", "month", "lines", "day", "about", "entered"] ["book", "month"] (defScope sMoved) := ⟨rfl, rfl, rfl, by decide +kernel, rfl, by decide +kernel, by decide +kernel⟩
theorem scCarried : FnScope ["figures", "more", "row"] ["figures", "more"] (defScope sCarried) := ⟨rfl, rfl, rfl, by decide +kernel, rfl, by decide +kernel, by decide +kernel⟩
theorem scCopied : FnScope ["paper"] ["paper"] (defScope sCopied) := ⟨rfl, rfl, rfl, by decide +kernel, rfl, by decide +kernel, by decide +kernel⟩
theorem scKInit : FnScope ["self", "firm"] ["self", "firm"] (defScope sKInit) := ⟨rfl, rfl, rfl, by decide +kernel, rfl, by decide +kernel, by decide +kernel⟩
theorem scKMay : FnScope ["self", "day", "month"] ["self", "day"] (defScope sKMay) := ⟨rfl, rfl, rfl, by decide +kernel, rfl, by decide +kernel, by decide +kernel⟩
theorem scClose : FnScope ["self", "month", "paper"] ["self"] (defScope sClose) := ⟨rfl, rfl, rfl, by decide +kernel, rfl, by decide +kernel, by decide +kernel⟩
theorem scCell : FnScope ["_law_script", "_law_k"] ["_law_script", "_law_k"] (defScope sCell) := ⟨rfl, rfl, rfl, by decide +kernel, rfl, by decide +kernel, by decide +kernel⟩
theorem scWhole : FnScope ["_law_found"] ["_law_found"] (defScope sWhole) := ⟨rfl, rfl, rfl, by decide +kernel, rfl, by decide +kernel, by decide +kernel⟩
theorem scNames : FnScope ["_law_cell_here", "_law_letters", "_law_size", "_law_step", "_law_first", "_law_base", "_law_k", "_law_at", "_law_names_here", "_law_sign"] ["_law_cell_here"] (defScope sNames) := ⟨rfl, rfl, rfl, by decide +kernel, rfl, by decide +kernel, by decide +kernel⟩
theorem scAmount : FnScope ["_law_cell_here"] ["_law_cell_here"] (defScope sAmount) := ⟨rfl, rfl, rfl, by decide +kernel, rfl, by decide +kernel, by decide +kernel⟩
theorem scLines : FnScope ["_law_names_here", "_law_what", "_law_cell_here", "_law_firm", "_law_accounts", "_law_coin", "_law_amount_here", "_law_worth", "_law_one", "_law_two", "_law_lines_here"] ["_law_names_here", "_law_what", "_law_cell_here"] (defScope sLines) := ⟨rfl, rfl, rfl, by decide +kernel, rfl, by decide +kernel, by decide +kernel⟩
theorem scLFigs : FnScope ["_law_lines_here", "_law_sums", "_law_firm", "_law_account", "_law_coin", "_law_amount_here", "_law_worth", "_law_old", "_law_place"] ["_law_lines_here"] (defScope sLFigs) := ⟨rfl, rfl, rfl, by decide +kernel, rfl, by decide +kernel, by decide +kernel⟩
theorem scSame : FnScope ["_law_found", "_law_due", "_law_row"] ["_law_found", "_law_due"] (defScope sSame) := ⟨rfl, rfl, rfl, by decide +kernel, rfl, by decide +kernel, by decide +kernel⟩
theorem scLCarried : FnScope ["_law_one", "_law_other", "_law_due", "_law_handed", "_law_found"] ["_law_one", "_law_other", "_law_due"] (defScope sLCarried) := ⟨rfl, rfl, rfl, by decide +kernel, rfl, by decide +kernel, by decide +kernel⟩
theorem scLMonth : FnScope ["_law_rows", "_law_month_here", "_law_lines_here", "_law_at", "_law_page"] ["_law_rows", "_law_month_here"] (defScope sLMonth) := ⟨rfl, rfl, rfl, by decide +kernel, rfl, by decide +kernel, by decide +kernel⟩
theorem scLaw : FnScope ["_law_script", "_law_names_here", "_law_far", "_law_book", "_law_plain", "_law_rows", "_law_k", "_law_cells", "_law_day", "_law_page", "_law_ahead", "_law_figures_here", "_law_month_here", "_law_lines_here", "_law_due", "_law_moved", "_law_paper", "_law_some", "_law_cell_here", "_law_cut", "_law_one", "_law_other"] ["_law_script"] (defScope sLaw) := ⟨rfl, rfl, rfl, by decide +kernel, rfl, by decide +kernel, by decide +kernel⟩
end K34

/-! figures_of: the figures of lines -/
namespace K34
open PySem PySem.Spec PyProof.Rows L2
/-- a list of lines; a new list of their figures is handed back -/
def spFigs (K : PySem.W.Frag) : Sp := fun vs H Q _ => ∃ (a : Addr) (xs : List V) (ls : List Ln), vs = [.ref a] ∧ SqL K H a xs ∧ LAt H xs ls ∧ ls.length ≤ 10000 ∧
  ∀ (H' : Hp) (p : Addr) (ys : List V) (fs : List Fg), Same H H' → H p = none → H' p = some (.lst ys) → FAt H' ys fs → IsFigs fs (amtOf ls) (worOf ls) → fs.length ≤ ls.length → Q (.ref p) H'
section
variable {P : Program} {w : World} {K : PySem.W.Frag} {mg : Str → Option Value} {base : Heap}
theorem ok_figs {f : Addr} {fd : FuncData} (F : Fun K "figures_of" "figures_of" sFigs f fd) (mS : mg "sorted" = none) : FnOk P w K mg base CX0 1 f fd ["lines"] (spFigs K) := by
  refine F.ok scFigs (fun vs H Q E h => ?_) (fun cdv A outer s H vs Q E hr h => ?_)
  · obtain ⟨a, xs, ls, rfl, _⟩ := h
    rfl
  · obtain ⟨a, xs, ls, rfl, hS, hA, hlen, q⟩ := h
    have hu := hu_of hr
    refine ⟨_, pss_cons (ps_set (i := 1) scFigs.nd rfl (.inl rfl) pe_dnewT) (pss_cons (ps_set (i := 2) scFigs.nd rfl (.inl rfl) pe_dnewT)
      (pss_cons (ps_for PassesOwn.never rfl (pi_list (pv 0)) (pg_name (i := 3) scFigs.nd rfl (.inl rfl))
        (pss_cons (ps_set (i := 4) scFigs.nd rfl (.inl rfl) (pe_tup (pa_cons (pe_ix ix_tup (pv 3) pe_int (fun _ _ => rfl)) (pa_cons (pe_ix ix_tup (pv 3) pe_int (fun _ _ => rfl)) pa_nil))))
        (pss_cons (ps_dput hu (pv 1) (pv 4) (pe_op op_add (pe_dget2 hu (pv 1) (pv 4) pe_int ⟨rfl, rfl, rfl, rfl⟩) (pe_ix ix_tup (pv 3) pe_int (fun _ _ => rfl))) rfl)
        (pss_one (ps_dput hu (pv 2) (pv 4) (pe_op op_add (pe_dget2 hu (pv 2) (pv 4) pe_int ⟨rfl, rfl, rfl, rfl⟩) (pe_ix ix_tup (pv 3) pe_int (fun _ _ => rfl))) rfl)))))
      (pss_cons (ps_set (i := 5) scFigs.nd rfl (.inl rfl) (pe_lst pa_nil))
      (pss_cons (ps_for PassesOwn.never rfl (pi_list (pe_callB (cr_sortedPl rfl hr.units) (by rfl) mS (by decide +kernel) (pa_cons (pv 1) pa_nil))) (pg_name (i := 4) scFigs.nd rfl (.inl rfl))
        (pss_one (ps_if (PW.pt (pw_or (pt_cmpR op_ne (pe_dget hu (pv 1) (pv 4) (fun _ _ => rfl)) pe_int (nomark _)) (pw_or1 (pt_cmpR op_ne (pe_dget hu (pv 2) (pv 4) (fun _ _ => rfl)) pe_int (nomark _)))))
          (pss_one (ps_expr (pe_bm PySem.F.plainAttrs_list PySem.F.slot_list_append PySem.F.type_list_append mt_append (pv 5) (pa_cons
            (pe_tup (pa_cons (pe_ix ix_tup (pv 4) pe_int (fun _ _ => rfl)) (pa_cons (pe_ix ix_tup (pv 4) pe_int (fun _ _ => rfl)) (pa_cons (pe_dget hu (pv 1) (pv 4) (fun _ _ => rfl)) (pa_cons (pe_dget hu (pv 2) (pv 4) (fun _ _ => rfl)) pa_nil))))) pa_nil)))) pss_nil)))
      (pss_one (ps_ret (pv 5))))))), ?_⟩
    refine fun d1 n1 => ?_
    refine fun d2 n2 => ?_
    have hd21 : d2 ≠ d1 := fun e => by
      rw [e, upd_same] at n2
      cases n2
    have n2' : H d2 = none := by
      rw [upd_ne hd21] at n2
      exact n2
    refine ⟨.ref a, rfl, a, rfl, ⟨xs, (same_upd n2).seq ((same_upd n1).seq hS)⟩, for_list (K := K) (a := a) (xs := xs) (fun i σ H' => ∃ v3 v4, σ = [some (.ref a), some (.ref d1), some (.ref d2), v3, v4, none] ∧ Same H H' ∧
        H' d1 = some (.dT (dk pkey (fun p => V.int (amtOf (ls.take i) p.1 p.2)) (places (ls.take i)))) ∧ H' d2 = some (.dT (dk pkey (fun p => V.int (worOf (ls.take i) p.1 p.2)) (places (ls.take i)))))
      ⟨none, none, rfl, (same_upd n1).trans (same_upd n2), by rw [upd_ne hd21.symm, upd_same]; rfl, by rw [upd_same]; rfl⟩ (fun i σ H' _ ⟨_, _, _, e, _⟩ => e.seq hS) ?_ ?_⟩
    · rintro i x σ H1 hi ⟨v3, v4, rfl, s1, h1, h2⟩
      obtain ⟨l, la, el, rfl, hla⟩ := LAt.get hA hi
      have hla1 : H1 la = some (.tup l.t) := s1 _ _ hla
      have hl1 : SqT K H1 la l.t := SqT.of hla1
      have pl : (places (ls.take i)).length ≤ 10000 := Nat.le_trans (places_len _) (by rw [List.length_take]; omega)
      -- place = (line[1], line[2])
      refine ⟨_, rfl, la, l.t, 1, _, rfl, rfl, hl1, atI_nat (j := 1) rfl, _, rfl, la, l.t, 2, _, rfl, rfl, hl1, atI_nat (j := 2) rfl, (by show 2 ≤ sizeLine; decide), fun T nT => ?_⟩
      have e1 : ls.take (i + 1) = ls.take i ++ [l] := take_succ_get el
      have pl1 : (places (ls.take (i + 1))).length ≤ 10000 := Nat.le_trans (places_len _) (by rw [List.length_take]; omega)
      generalize ls.take i = tk at h1 h2 pl e1
      rw [e1] at pl1 ⊢
      clear e1
      have hT : upd H1 T (.tup [V.str l.acc, V.str l.coin]) T = some (.tup ((pkey (plc l)).map kV)) := upd_same
      have s2 : Same H1 (upd H1 T (.tup [V.str l.acc, V.str l.coin])) := same_upd nT
      generalize upd H1 T (.tup [V.str l.acc, V.str l.coin]) = H2 at hT s2 ⊢
      have g1 := s2 _ _ h1
      have g2 := s2 _ _ h2
      -- amounts[place] = amounts.get(place, 0) + line[3]
      have step : ∀ (g : Ln → Int),
          putK (dk pkey (fun p => V.int (tot g tk p.1 p.2)) (places tk)) (pkey (plc l)) (V.int (tot g tk (plc l).1 (plc l).2 + g l)) = dk pkey (fun p => V.int (tot g (tk ++ [l]) p.1 p.2)) (places (tk ++ [l])) := fun g => by
        rw [putK_pl, places_snoc]
        refine dk_congr fun p _ => ?_
        rw [tot_snoc]
        by_cases e : p = plc l
        · subst e
          rw [if_pos rfl, if_pos rfl]
        · rw [if_neg e, if_neg fun z => e z.symm, Int.add_zero]
      have got : ∀ (g : Ln → Int), (((valV (dk pkey (fun p => V.int (tot g tk p.1 p.2)) (places tk)) (pkey (plc l)))).getD (V.int 0)) = V.int (tot g tk (plc l).1 (plc l).2) := fun g => by
        rw [valV_pl]
        by_cases m : plc l ∈ places tk
        · rw [if_pos m]
          rfl
        · rw [if_neg m, tot_places g m]
          rfl
      have gg1 : DGet H2 d1 (.ref T) (valV (dk pkey (fun p => V.int (tot Ln.amt tk p.1 p.2)) (places tk)) (pkey (plc l))) := DGet.t g1 hT
      refine ⟨_, rfl, d1, rfl, .inr ⟨_, .inl g1⟩, _, rfl, _, gg1, ?_⟩
      refine ⟨_, rfl, la, l.t, 3, _, rfl, rfl, SqT.of (s2 _ _ hla1), atI_nat (j := 3) rfl, ?_⟩
      refine ⟨tot Ln.amt tk (plc l).1 (plc l).2, l.amt, got Ln.amt, rfl, ?_⟩
      have dp1 : DPut H2 d1 (.ref T) (.int (tot Ln.amt tk (plc l).1 (plc l).2 + l.amt)) (upd H2 d1 (.dT (dk pkey (fun p => V.int (tot Ln.amt (tk ++ [l]) p.1 p.2)) (places (tk ++ [l]))))) := by
        rw [← step Ln.amt]
        exact DPut.t g1 hT (szl (by rw [dk_len]; omega))
      refine ⟨_, rfl, _, rfl, d1, _, rfl, dp1, ?_⟩
      have nT1 : T ≠ d1 := ne_of hT g1 (by intro z; cases z)
      have nla : la ≠ d1 := ne_of (s2 _ _ hla1) g1 (by intro z; cases z)
      have hT3 : (upd H2 d1 (.dT (dk pkey (fun p => V.int (tot Ln.amt (tk ++ [l]) p.1 p.2)) (places (tk ++ [l]))))) T = some (.tup ((pkey (plc l)).map kV)) := by
        rw [upd_ne nT1]
        exact hT
      have g23 : (upd H2 d1 (.dT (dk pkey (fun p => V.int (tot Ln.amt (tk ++ [l]) p.1 p.2)) (places (tk ++ [l]))))) d2 = some (.dT (dk pkey (fun p => V.int (tot Ln.wor tk p.1 p.2)) (places tk))) := by
        rw [upd_ne hd21]
        exact g2
      have hla3 : (upd H2 d1 (.dT (dk pkey (fun p => V.int (tot Ln.amt (tk ++ [l]) p.1 p.2)) (places (tk ++ [l]))))) la = some (.tup l.t) := by
        rw [upd_ne nla]
        exact s2 _ _ hla1
      have h13 : (upd H2 d1 (.dT (dk pkey (fun p => V.int (tot Ln.amt (tk ++ [l]) p.1 p.2)) (places (tk ++ [l]))))) d1 = some (.dT (dk pkey (fun p => V.int (tot Ln.amt (tk ++ [l]) p.1 p.2)) (places (tk ++ [l])))) := upd_same
      have s3 : Same H (upd H2 d1 (.dT (dk pkey (fun p => V.int (tot Ln.amt (tk ++ [l]) p.1 p.2)) (places (tk ++ [l]))))) := same_mut (s1.trans s2) n1
      generalize upd H2 d1 (.dT (dk pkey (fun p => V.int (tot Ln.amt (tk ++ [l]) p.1 p.2)) (places (tk ++ [l])))) = H3 at hT3 g23 hla3 h13 s3 ⊢
      -- worths[place] = worths.get(place, 0) + line[4]
      have gg2 : DGet H3 d2 (.ref T) (valV (dk pkey (fun p => V.int (tot Ln.wor tk p.1 p.2)) (places tk)) (pkey (plc l))) := DGet.t g23 hT3
      refine ⟨_, rfl, d2, rfl, .inr ⟨_, .inl g23⟩, _, rfl, _, gg2, ?_⟩
      refine ⟨_, rfl, la, l.t, 4, _, rfl, rfl, SqT.of hla3, atI_nat (j := 4) rfl, ?_⟩
      refine ⟨tot Ln.wor tk (plc l).1 (plc l).2, l.wor, got Ln.wor, rfl, ?_⟩
      have dp2 : DPut H3 d2 (.ref T) (.int (tot Ln.wor tk (plc l).1 (plc l).2 + l.wor)) (upd H3 d2 (.dT (dk pkey (fun p => V.int (tot Ln.wor (tk ++ [l]) p.1 p.2)) (places (tk ++ [l]))))) := by
        rw [← step Ln.wor]
        exact DPut.t g23 hT3 (szl (by rw [dk_len]; omega))
      refine ⟨_, rfl, _, rfl, d2, _, rfl, dp2, ?_⟩
      exact ⟨_, _, rfl, same_mut s3 n2', by rw [upd_ne hd21.symm]; exact h13, upd_same⟩
    · rintro σ H1 ⟨v3, v4, rfl, s1, h1, h2⟩
      have et : ls.take xs.length = ls := List.take_of_length_le (by rw [hA.len]; exact Nat.le_refl _)
      rw [et] at h1 h2
      -- figures = []
      refine ⟨Nat.zero_le _, fun o no => ?_⟩
      have s2 : Same H1 (upd H1 o (.lst [])) := same_upd no
      have ho2 : upd H1 o (.lst []) o = some (.lst []) := upd_same
      have no0 : H o = none := s1.free no
      have s02 := s1.trans s2
      have g1 := s2 _ _ h1
      have g2 := s2 _ _ h2
      generalize upd H1 o (.lst []) = H2 at s2 ho2 s02 g1 g2 ⊢
      -- sorted(amounts)
      refine ⟨_, rfl, d1, _, places ls, rfl, g1, dk_keys _ _ _, places_nodup ls, fun p as qs np pm srt pat => ?_⟩
      have lq : as.length = qs.length := Paired.length pat
      have l1 : qs.length ≤ 10000 := by
        rw [pm.length_eq]
        exact Nat.le_trans (places_len ls) hlen
      have npo : o ≠ p := ne_of_none ho2 np
      have s3 : Same H2 (upd H2 p (.lst (as.map V.ref))) := same_upd np
      have hp3 : upd H2 p (.lst (as.map V.ref)) p = some (.lst (as.map V.ref)) := upd_same
      generalize upd H2 p (.lst (as.map V.ref)) = H3 at s3 hp3 ⊢
      have no0' : o ≠ p := npo
      refine ⟨p, rfl, ⟨_, SqL.of hp3⟩, for_list (K := K) (a := p) (xs := as.map V.ref) (fun i σ H' => ∃ v4 ys, σ = [some (.ref a), some (.ref d1), some (.ref d2), v3, v4, some (.ref o)] ∧ (∀ b x, b ≠ o → H3 b = some x → H' b = some x) ∧
          H' o = some (.lst ys) ∧ FAt H' ys (figsBy (amtOf ls) (worOf ls) (qs.take i)))
        ⟨v4, [], rfl, fun _ _ _ e => e, s3 _ _ ho2, .nil⟩ (fun i σ H' _ ⟨_, _, _, e, _⟩ => SqL.of (e _ _ npo.symm hp3)) ?_ ?_⟩
      · rintro i x σ H4 hi ⟨v4, ys, rfl, e4, ho4, f4⟩
        obtain ⟨t, et, rfl⟩ : ∃ t, as[i]? = some t ∧ x = V.ref t := by
          rw [List.getElem?_map] at hi
          cases e : as[i]? with
          | none =>
            rw [e] at hi
            cases hi
          | some t =>
            rw [e] at hi
            exact ⟨t, rfl, (Option.some.inj hi).symm⟩
        obtain ⟨q0, eq, hq⟩ := paired_get pat et
        have ht : H2 t = some (.tup (pairV q0)) := hq
        have nto : t ≠ o := ne_of ht ho2 (by intro z; cases z)
        have ht4 : H4 t = some (.tup (pairV q0)) := e4 _ _ nto (s3 _ _ ht)
        have nd1 : d1 ≠ o := ne_of g1 ho2 (by intro z; cases z)
        have nd2 : d2 ≠ o := ne_of g2 ho2 (by intro z; cases z)
        have k1 := e4 _ _ nd1 (s3 _ _ g1)
        have k2 := e4 _ _ nd2 (s3 _ _ g2)
        have mq : q0 ∈ places ls := pm.mem_iff.mp (List.mem_of_getElem? eq)
        have dg1 : DGet H4 d1 (.ref t) (some (.int (amtOf ls q0.1 q0.2))) := by
          have z := DGet.t (k := pkey q0) k1 (show H4 t = some (.tup ((pkey q0).map kV)) from ht4)
          rw [valV_pl, if_pos mq] at z
          exact z
        have dg2 : DGet H4 d2 (.ref t) (some (.int (worOf ls q0.1 q0.2))) := by
          have z := DGet.t (k := pkey q0) k2 (show H4 t = some (.tup ((pkey q0).map kV)) from ht4)
          rw [valV_pl, if_pos mq] at z
          exact z
        have etk : qs.take (i + 1) = qs.take i ++ [q0] := take_succ_get eq
        have lys : ys.length ≤ 10000 := by
          rw [f4.len]
          exact Nat.le_trans (figsBy_len ..) (by rw [List.length_take]; omega)
        -- the row is entered
        have yes : keepP (amtOf ls) (worOf ls) q0 = true →
            (tDrop (tBM K "list" rAppend (tVar 5) (tCons (tTup (tCons (tOp (rIxT K) (tVar 4) (tC (V.int 0))) (tCons (tOp (rIxT K) (tVar 4) (tC (V.int 1))) (tCons (tDGet (tVar 1) (tVar 4)) (tCons (tDGet (tVar 2) (tVar 4)) tNil))))) tNil)))
              { nx := fun σ H' => ∃ v4 ys, σ = [some (.ref a), some (.ref d1), some (.ref d2), v3, v4, some (.ref o)] ∧ (∀ b x, b ≠ o → H3 b = some x → H' b = some x) ∧ H' o = some (.lst ys) ∧ FAt H' ys (figsBy (amtOf ls) (worOf ls) (qs.take (i + 1))), rt := Q }
              [some (.ref a), some (.ref d1), some (.ref d2), v3, some (.ref t), some (.ref o)] H4 := fun kp => by
          refine ⟨_, rfl, .inl ⟨rfl, _, .inl (.inl ho4)⟩, ?_⟩
          refine ⟨_, rfl, t, _, 0, _, rfl, rfl, SqT.of ht4, atI_nat (j := 0) rfl, _, rfl, t, _, 1, _, rfl, rfl, SqT.of ht4, atI_nat (j := 1) rfl, _, rfl, _, rfl, d1, _, rfl, dg1, _, rfl, _, rfl, d2, _, rfl, dg2, (by show 4 ≤ sizeLine; decide), fun T nT => ?_⟩
          have s5 : Same H4 (upd H4 T (.tup [V.str q0.1, V.str q0.2, V.int (amtOf ls q0.1 q0.2), V.int (worOf ls q0.1 q0.2)])) := same_upd nT
          have hT5 : upd H4 T (.tup [V.str q0.1, V.str q0.2, V.int (amtOf ls q0.1 q0.2), V.int (worOf ls q0.1 q0.2)]) T = some (.tup (rowOf (amtOf ls) (worOf ls) q0).t) := upd_same
          have hTo : T ≠ o := fun z => by
            rw [z, ho4] at nT
            cases nT
          refine ⟨o, ys, _, rfl, rfl, s5 _ _ ho4, szl (by omega), ?_⟩
          refine ⟨_, _, rfl, fun b x nb e => ?_, upd_same, ?_⟩
          · rw [upd_ne nb]
            exact s5 _ _ (e4 _ _ nb e)
          · rw [etk, figsBy_yes _ kp]
            refine FAt.snoc (At.mono f4 fun b z e => ?_) ?_
            · have nb : b ≠ o := ne_of e ho4 (by intro z; cases z)
              rw [upd_ne nb]
              exact s5 _ _ e
            · rw [upd_ne hTo]
              exact hT5
        refine ⟨_, rfl, _, rfl, d1, _, rfl, dg1, rfl, _, rfl, ?_⟩
        by_cases z1 : amtOf ls q0.1 q0.2 = 0
        · rw [z1]
          refine iteF ?_
          refine ⟨_, rfl, _, rfl, d2, _, rfl, dg2, rfl, _, rfl, ?_⟩
          by_cases z2 : worOf ls q0.1 q0.2 = 0
          · rw [z2]
            refine iteF ?_
            refine ⟨_, ys, rfl, e4, ho4, ?_⟩
            rw [etk, figsBy_no _ (decide_eq_false (by rw [z1, z2]; simp))]
            exact f4
          · rw [show (!decide (V.int (worOf ls q0.1 q0.2) = V.int 0)) = true by rw [decide_eq_false (fun e => z2 (V.int.inj e))]; rfl]
            refine iteT ?_
            exact yes (decide_eq_true (.inr z2))
        · rw [show (!decide (V.int (amtOf ls q0.1 q0.2) = V.int 0)) = true by rw [decide_eq_false (fun e => z1 (V.int.inj e))]; rfl]
          refine iteT ?_
          exact iteT (yes (decide_eq_true (.inl z1)))
      · rintro σ H4 ⟨v4, ys, rfl, e4, ho4, f4⟩
        rw [List.length_map, lq, List.take_length] at f4
        obtain ⟨is1, is2⟩ := figs_of pm srt
        exact ⟨_, rfl, q H4 o ys _ (fun b x e => e4 _ _ (ne_of_none e no0) (s3 _ _ (s02 _ _ e))) no0 ho4 f4 is1 is2⟩
end
end K34

/-! the law's own figures: the same promise as figures_of's -/
namespace K34
open PySem PySem.Spec PyProof.Rows L2
section
variable {P : Program} {w : World} {K : PySem.W.Frag} {mg : Str → Option Value} {base : Heap}
theorem ok_lfigs {f : Addr} {fd : FuncData} (F : Fun K "_law_figures" "_law_figures" sLFigs f fd) (mS : mg "sorted" = none) : FnOk P w K mg base CX0 1 f fd ["_law_lines_here"] (spFigs K) := by
  refine F.ok scLFigs (fun vs H Q E h => ?_) (fun cdv A outer s H vs Q E hr h => ?_)
  · obtain ⟨a, xs, ls, rfl, _⟩ := h
    rfl
  · obtain ⟨a, xs, ls, rfl, hS, hA, hlen, q⟩ := h
    have hu := hu_of hr
    refine ⟨_, pss_cons (ps_set (i := 1) scLFigs.nd rfl (.inr rfl) pe_dnewT)
      (pss_cons (ps_for PassesOwn.never rfl (pi_list (pv 0)) (pg_tup rfl (pgs_cons (pg_name (i := 2) scLFigs.nd rfl (.inl rfl)) (pgs_cons (pg_name (i := 3) scLFigs.nd rfl (.inl rfl)) (pgs_cons (pg_name (i := 4) scLFigs.nd rfl (.inl rfl))
          (pgs_cons (pg_name (i := 5) scLFigs.nd rfl (.inl rfl)) (pgs_cons (pg_name (i := 6) scLFigs.nd rfl (.inl rfl)) pgs_nil))))))
        (pss_cons (ps_set (i := 7) scLFigs.nd rfl (.inl rfl) (pe_dget2 hu (pv 1) (pe_tup (pa_cons (pv 3) (pa_cons (pv 4) pa_nil))) (pe_tup (pa_cons pe_int (pa_cons pe_int pa_nil))) ⟨rfl, rfl, rfl, rfl⟩))
        (pss_one (ps_dput hu (pv 1) (pe_tup (pa_cons (pv 3) (pa_cons (pv 4) pa_nil))) (pe_tup (pa_cons (pe_op op_add (pe_ix ix_tup (pv 7) pe_int (fun _ _ => rfl)) (pv 5)) (pa_cons (pe_op op_add (pe_ix ix_tup (pv 7) pe_int (fun _ _ => rfl)) (pv 6)) pa_nil))) rfl))))
      (pss_one (ps_ret (pe_lc (own := [("_law_place", 8)]) (g := gName 8) (tt := tTest (tOp (rNeD K) (tDGet (tVar 1) (tVar 8)) (tTup (tCons (tC (.int 0)) (tCons (tC (.int 0)) tNil))))) (te := tOp (rCatA K) (tVar 8) (tDGet (tVar 1) (tVar 8))) (by rfl) scLFigs.nd (pi_list (pe_callB (cr_sortedPl rfl hr.units) (by rfl) mS (by decide +kernel) (pa_cons (pv 1) pa_nil)))
        (blkOk_by (own := [("_law_place", 8)]) (N := ["_law_lines_here", "_law_sums", "_law_firm", "_law_account", "_law_coin", "_law_amount_here", "_law_worth", "_law_old", "_law_place"]) (sc := defScope sLFigs) (by decide +kernel))
        (fun _ _ _ _ _ => pg_name (i := 8) scLFigs.nd rfl (Or.inl rfl)) (fun _ _ _ _ _ => pts_one (pt_cmpR (op_neD hr.units) (pe_dget hu (pv 1) (pv 8) (fun _ _ => rfl)) (pe_tup (pa_cons pe_int (pa_cons pe_int pa_nil))) (nomark _)))
        (fun _ _ _ _ _ => pe_op op_catA (pv 8) (pe_dget hu (pv 1) (pv 8) (fun _ _ => rfl))))))), ?_⟩
    refine fun d n0 => ?_
    refine ⟨.ref a, rfl, a, rfl, ⟨xs, (same_upd n0).seq hS⟩, for_list (K := K) (a := a) (xs := xs) (fun i σ H' => ∃ (v2 v3 v4 v5 v6 v7 : Option V) (R : Str × Str → Addr), σ = [some (.ref a), some (.ref d), v2, v3, v4, v5, v6, v7, none] ∧ Same H H' ∧
        H' d = some (.dT (dk pkey (fun p => V.ref (R p)) (places (ls.take i)))) ∧ ∀ p ∈ places (ls.take i), H' (R p) = some (.tup [.int (amtOf (ls.take i) p.1 p.2), .int (worOf (ls.take i) p.1 p.2)]))
      ⟨none, none, none, none, none, none, fun _ => 0, rfl, same_upd n0, by rw [upd_same]; rfl, fun p hp => by simp [places] at hp⟩ (fun i σ H' _ ⟨_, _, _, _, _, _, _, _, e, _⟩ => e.seq hS) ?_ ?_⟩
    · rintro i x σ H1 hi ⟨v2, v3, v4, v5, v6, v7, R, rfl, s1, h1, hR⟩
      obtain ⟨l, la, el, rfl, hla⟩ := LAt.get hA hi
      have hla1 : H1 la = some (.tup l.t) := s1 _ _ hla
      have e1 : ls.take (i + 1) = ls.take i ++ [l] := take_succ_get el
      have pl : (places (ls.take i)).length ≤ 10000 := Nat.le_trans (places_len _) (by rw [List.length_take]; omega)
      generalize ls.take i = tk at h1 hR pl e1
      rw [e1]
      clear e1
      -- firm, account, coin, amount, worth = the line
      refine ⟨la, l.t, rfl, SqT.of hla1, rfl, _, _, rfl, _, _, rfl, _, _, rfl, _, _, rfl, _, _, rfl, rfl, ?_⟩
      -- old = sums.get((account, coin), (0, 0))
      refine ⟨_, rfl, d, rfl, .inr ⟨_, .inl h1⟩, _, rfl, _, rfl, (by show 2 ≤ sizeLine; decide), fun T nT => ?_⟩
      have s2 : Same H1 (upd H1 T (.tup [V.str l.acc, V.str l.coin])) := same_upd nT
      have hT2 : upd H1 T (.tup [V.str l.acc, V.str l.coin]) T = some (.tup ((pkey (plc l)).map kV)) := upd_same
      generalize upd H1 T (.tup [V.str l.acc, V.str l.coin]) = H2 at s2 hT2 ⊢
      refine ⟨(by show 2 ≤ sizeLine; decide), fun Z nZ => ?_⟩
      have s3 : Same H2 (upd H2 Z (.tup [V.int 0, V.int 0])) := same_upd nZ
      have hZ3 : upd H2 Z (.tup [V.int 0, V.int 0]) Z = some (.tup [V.int 0, V.int 0]) := upd_same
      generalize upd H2 Z (.tup [V.int 0, V.int 0]) = H3 at s3 hZ3 ⊢
      have s13 := s2.trans s3
      have g3 := s13 _ _ h1
      have hT3 := s3 _ _ hT2
      have dg : DGet H3 d (.ref T) (valV (dk pkey (fun p => V.ref (R p)) (places tk)) (pkey (plc l))) := DGet.t g3 hT3
      obtain ⟨O, eO, hO⟩ : ∃ O, (valV (dk pkey (fun p => V.ref (R p)) (places tk)) (pkey (plc l))).getD (.ref Z) = V.ref O ∧ H3 O = some (.tup [.int (amtOf tk (plc l).1 (plc l).2), .int (worOf tk (plc l).1 (plc l).2)]) := by
        rw [valV_pl]
        by_cases m : plc l ∈ places tk
        · exact ⟨R (plc l), by rw [if_pos m]; rfl, s13 _ _ (hR _ m)⟩
        · refine ⟨Z, by rw [if_neg m]; rfl, ?_⟩
          rw [show amtOf tk (plc l).1 (plc l).2 = 0 from tot_places _ m, show worOf tk (plc l).1 (plc l).2 = 0 from tot_places _ m]
          exact hZ3
      refine ⟨_, dg, ?_⟩
      rw [eO]
      -- sums[account, coin] = (old[0] + amount, old[1] + worth)
      refine ⟨_, rfl, O, _, 0, _, rfl, rfl, SqT.of hO, atI_nat (j := 0) rfl, _, rfl, _, _, rfl, rfl, _, rfl, O, _, 1, _, rfl, rfl, SqT.of hO, atI_nat (j := 1) rfl, _, rfl, _, _, rfl, rfl, (by show 2 ≤ sizeLine; decide), fun N nN => ?_⟩
      have s4 : Same H3 (upd H3 N (.tup [V.int (amtOf tk (plc l).1 (plc l).2 + l.amt), V.int (worOf tk (plc l).1 (plc l).2 + l.wor)])) := same_upd nN
      have hN4 : upd H3 N (.tup [V.int (amtOf tk (plc l).1 (plc l).2 + l.amt), V.int (worOf tk (plc l).1 (plc l).2 + l.wor)]) N = some (.tup [V.int (amtOf tk (plc l).1 (plc l).2 + l.amt), V.int (worOf tk (plc l).1 (plc l).2 + l.wor)]) := upd_same
      generalize upd H3 N (.tup [V.int (amtOf tk (plc l).1 (plc l).2 + l.amt), V.int (worOf tk (plc l).1 (plc l).2 + l.wor)]) = H4 at s4 hN4 ⊢
      refine ⟨_, rfl, _, rfl, _, rfl, (by show 2 ≤ sizeLine; decide), fun T5 nT5 => ?_⟩
      have s5 : Same H4 (upd H4 T5 (.tup [V.str l.acc, V.str l.coin])) := same_upd nT5
      have hT5 : upd H4 T5 (.tup [V.str l.acc, V.str l.coin]) T5 = some (.tup ((pkey (plc l)).map kV)) := upd_same
      generalize upd H4 T5 (.tup [V.str l.acc, V.str l.coin]) = H5 at s5 hT5 ⊢
      have s15 : Same H1 H5 := s13.trans (s4.trans s5)
      have g5 := s15 _ _ h1
      have dp : DPut H5 d (.ref T5) (.ref N) (upd H5 d (.dT (dk pkey (fun p => V.ref (if p = plc l then N else R p)) (places (tk ++ [l]))))) := by
        have e : putK (dk pkey (fun p => V.ref (R p)) (places tk)) (pkey (plc l)) (V.ref N) = dk pkey (fun p => V.ref (if p = plc l then N else R p)) (places (tk ++ [l])) := by
          rw [putK_pl, places_snoc]
          refine dk_congr fun p _ => ?_
          by_cases e : p = plc l
          · rw [if_pos e, if_pos e]
          · rw [if_neg e, if_neg e]
        rw [← e]
        exact DPut.t g5 hT5 (szl (by rw [dk_len]; omega))
      refine ⟨d, _, rfl, dp, ?_⟩
      refine ⟨_, _, _, _, _, _, _, rfl, same_mut (s1.trans s15) n0, upd_same, fun p hp => ?_⟩
      have key : ∀ (g : Ln → Int), tot g (tk ++ [l]) p.1 p.2 = tot g tk p.1 p.2 + (if plc l = p then g l else 0) := fun g => tot_snoc g tk l p.1 p.2
      by_cases e : p = plc l
      · have nNd : N ≠ d := ne_of hN4 (s4 _ _ g3) (by intro z; cases z)
        rw [if_pos e, upd_ne nNd]
        show H5 N = some (.tup [.int (tot Ln.amt (tk ++ [l]) p.1 p.2), .int (tot Ln.wor (tk ++ [l]) p.1 p.2)])
        rw [key, key, if_pos e.symm, if_pos e.symm, e]
        exact s5 _ _ hN4
      · have mp : p ∈ places tk := by
          rw [places_snoc] at hp
          exact (mem_adj.mp hp).resolve_right e
        have hRp := s15 _ _ (hR p mp)
        have nRd : R p ≠ d := ne_of hRp g5 (by intro z; cases z)
        rw [if_neg e, upd_ne nRd]
        show H5 (R p) = some (.tup [.int (tot Ln.amt (tk ++ [l]) p.1 p.2), .int (tot Ln.wor (tk ++ [l]) p.1 p.2)])
        rw [key, key, if_neg fun z => e z.symm, if_neg fun z => e z.symm, Int.add_zero, Int.add_zero]
        exact hRp
    · rintro σ H1 ⟨v2, v3, v4, v5, v6, v7, R, rfl, s1, h1, hR⟩
      have et : ls.take xs.length = ls := List.take_of_length_le (by rw [hA.len]; exact Nat.le_refl _)
      rw [et] at h1 hR
      -- sorted(sums)
      refine ⟨_, rfl, d, _, places ls, rfl, h1, dk_keys _ _ _, places_nodup ls, fun p as qs np pm srt pat => ?_⟩
      have lq : as.length = qs.length := Paired.length pat
      have l1 : qs.length ≤ 10000 := by
        rw [pm.length_eq]
        exact Nat.le_trans (places_len ls) hlen
      have s2 : Same H1 (upd H1 p (.lst (as.map V.ref))) := same_upd np
      have hp2 : upd H1 p (.lst (as.map V.ref)) p = some (.lst (as.map V.ref)) := upd_same
      generalize upd H1 p (.lst (as.map V.ref)) = H2 at s2 hp2 ⊢
      refine ⟨p, rfl, ⟨_, SqL.of hp2⟩, fun D nD => ?_⟩
      refine lc_list (K := K) (a := p) (xs := as.map V.ref) (fun i H' => ∃ ys, (∀ b x, b ≠ D → H2 b = some x → H' b = some x) ∧ H' D = some (.lst ys) ∧ FAt H' ys (figsBy (amtOf ls) (worOf ls) (qs.take i)))
        ⟨[], fun b x nb e => by rw [upd_ne nb]; exact e, upd_same, .nil⟩ (fun i H' _ ⟨_, e, _⟩ => SqL.of (e _ _ (ne_of_none hp2 nD) hp2)) ?_ ?_
      · rintro i x H3 hi ⟨ys, e3, hD3, f3⟩
        obtain ⟨t, et, rfl⟩ : ∃ t, as[i]? = some t ∧ x = V.ref t := by
          rw [List.getElem?_map] at hi
          cases e : as[i]? with
          | none =>
            rw [e] at hi
            cases hi
          | some t =>
            rw [e] at hi
            exact ⟨t, rfl, (Option.some.inj hi).symm⟩
        obtain ⟨q0, eq, hq⟩ := paired_get pat et
        have ht : H2 t = some (.tup (pairV q0)) := s2 _ _ hq
        have ht3 : H3 t = some (.tup (pairV q0)) := e3 _ _ (ne_of_none ht nD) ht
        have mq : q0 ∈ places ls := pm.mem_iff.mp (List.mem_of_getElem? eq)
        have k2 := s2 _ _ h1
        have k1 := e3 _ _ (ne_of_none k2 nD) k2
        have r2 := s2 _ _ (hR q0 mq)
        have r3 := e3 _ _ (ne_of_none r2 nD) r2
        have dg : DGet H3 d (.ref t) (some (.ref (R q0))) := by
          have z := DGet.t (k := pkey q0) k1 (show H3 t = some (.tup ((pkey q0).map kV)) from ht3)
          rw [valV_pl, if_pos mq] at z
          exact z
        have etk : qs.take (i + 1) = qs.take i ++ [q0] := take_succ_get eq
        have lys : ys.length ≤ 10000 := by
          rw [f3.len]
          exact Nat.le_trans (figsBy_len ..) (by rw [List.length_take]; omega)
        refine ⟨rfl, ?_⟩
        -- sums[place] != (0, 0)
        refine ⟨_, rfl, _, rfl, d, _, rfl, dg, (by show 2 ≤ sizeLine; decide), fun Z nZ => ?_⟩
        have s4 : Same H3 (upd H3 Z (.tup [V.int 0, V.int 0])) := same_upd nZ
        have hZ4 : upd H3 Z (.tup [V.int 0, V.int 0]) Z = some (.tup [V.int 0, V.int 0]) := upd_same
        generalize upd H3 Z (.tup [V.int 0, V.int 0]) = H4 at s4 hZ4 ⊢
        refine ⟨.tuple [.int (amtOf ls q0.1 q0.2), .int (worOf ls q0.1 q0.2)], .tuple [.int 0, .int 0], .tup (SqT.of (s4 _ _ r3)) (.cons (.int _) (.cons (.int _) .nil)), .tup (SqT.of hZ4) (.cons (.int _) (.cons (.int _) .nil)), rfl, rfl, _, rfl, ?_⟩
        have ek : (!PyData.eqv (.tuple [.int (amtOf ls q0.1 q0.2), .int (worOf ls q0.1 q0.2)]) (.tuple [.int 0, .int 0])) = keepP (amtOf ls) (worOf ls) q0 := by
          unfold keepP
          by_cases z1 : amtOf ls q0.1 q0.2 = 0 <;> by_cases z2 : worOf ls q0.1 q0.2 = 0 <;> simp [PyData.eqv, PyData.eqvAll, z1, z2]
        rw [ek]
        cases kp : keepP (amtOf ls) (worOf ls) q0 with
        | false =>
          refine iteF ⟨ys, fun b x nb e => s4 _ _ (e3 _ _ nb e), s4 _ _ hD3, ?_⟩
          rw [etk, figsBy_no _ kp]
          exact At.same f3 s4
        | true =>
          refine iteT ?_
          have dg4 : DGet H4 d (.ref t) (some (.ref (R q0))) := by
            have z := DGet.t (k := pkey q0) (s4 _ _ k1) (show H4 t = some (.tup ((pkey q0).map kV)) from s4 _ _ ht3)
            rw [valV_pl, if_pos mq] at z
            exact z
          -- place + sums[place]
          refine ⟨_, rfl, _, rfl, _, rfl, d, _, rfl, dg4, t, R q0, _, _, rfl, rfl, SqT.of (s4 _ _ ht3), SqT.of (s4 _ _ r3), (by show 4 ≤ sizeLine; decide), (fun z => by cases z), (fun _ z => by cases z), fun _ _ T nT => ?_⟩
          have s5 : Same H4 (upd H4 T (.tup (pairV q0 ++ [V.int (amtOf ls q0.1 q0.2), V.int (worOf ls q0.1 q0.2)]))) := same_upd nT
          have hT5 : upd H4 T (.tup (pairV q0 ++ [V.int (amtOf ls q0.1 q0.2), V.int (worOf ls q0.1 q0.2)])) T = some (.tup (rowOf (amtOf ls) (worOf ls) q0).t) := upd_same
          generalize upd H4 T (.tup (pairV q0 ++ [V.int (amtOf ls q0.1 q0.2), V.int (worOf ls q0.1 q0.2)])) = H5 at s5 hT5 ⊢
          have hD5 := s5 _ _ (s4 _ _ hD3)
          refine ⟨ys, hD5, szl (by omega), ys ++ [.ref T], fun b x nb e => ?_, upd_same, ?_⟩
          · rw [upd_ne nb]
            exact s5 _ _ (s4 _ _ (e3 _ _ nb e))
          · rw [etk, figsBy_yes _ kp]
            refine FAt.snoc (At.mono f3 fun b z e => ?_) ?_
            · have e5 := s5 _ _ (s4 _ _ e)
              rw [upd_ne (ne_of e5 hD5 (by intro z; cases z))]
              exact e5
            · rw [upd_ne (ne_of hT5 hD5 (by intro z; cases z))]
              exact hT5
      · rintro H3 ⟨ys, e3, hD3, f3⟩
        rw [List.length_map, lq, List.take_length] at f3
        obtain ⟨is1, is2⟩ := figs_of pm srt
        have nD0 : H D = none := (s1.trans s2).free nD
        exact q H3 D ys _ (fun b x e => e3 _ _ (ne_of_none e nD0) (s2 _ _ (s1 _ _ e))) nD0 hD3 f3 is1 is2
end
end K34

/-! rests_of, month_of, the books' making, may_enter -/
namespace K34
open PySem PySem.Spec PyProof.Rows L2
/-! ### promises -/
def spMonth : Sp := fun vs H Q _ => ∃ n : Int, vs = [.int n] ∧ Q (.int (n / 30)) H
/-- the rests of lines: (coin, rest) each -/
def spRests (K : PySem.W.Frag) : Sp := fun vs H Q _ => ∃ (a : Addr) (xs : List V) (ls : List Ln), vs = [.ref a] ∧ SqL K H a xs ∧ LAt H xs ls ∧ ls.length ≤ 10000 ∧
  ∀ (H' : Hp) (p : Addr) (ys : List V) (cs : List Str), Same H H' → H p = none → H' p = some (.lst ys) → At H' ys (cs.map fun c => [V.str c, V.int (coinTot ls c)]) → cs.length ≤ ls.length → Q (.ref p) H'
/-- the attributes of a book -/
def fB (firm : Str) (l : Addr) : List (Str × V) := [("book", .str firm), ("pages", .ref l)]
def fK (firm : Str) (l r u : Addr) : List (Str × V) := [("book", .str firm), ("pages", .ref l), ("records", .ref r), ("upheld", .ref u)]
/-- what is read of the attributes of either kind of book -/
structure BkF (fs : List (Str × V)) (firm : Str) (PB : Addr) : Prop where
  book : fs.lookup ("book" : Str) = some (.str firm)
  pages : fs.lookup ("pages" : Str) = some (.ref PB)
  no : ∀ m : Str, m ≠ "book" → m ≠ "pages" → m ≠ "records" → m ≠ "upheld" → fs.lookup m = none
/-- both classes -/
structure Cl (K : PySem.W.Frag) (C : Addr) : Prop where
  cl : Cls K C
  nB : NoAttr K C "book"
  nP : NoAttr K C "pages"
def spBInit (K : PySem.W.Frag) : Sp := fun vs H Q _ => ∃ (C x dx : Addr) (firm : Str), vs = [.ref x, .str firm] ∧ Cl K C ∧ H x = some (.ins C dx []) ∧
  ∀ (H' : Hp) (l : Addr), H l = none → (∀ b o, b ≠ x → H b = some o → H' b = some o) → H' x = some (.ins C dx (fB firm l)) → H' l = some (.lst []) → Q .non H'
def spKInit (cK : Addr) : Sp := fun vs H Q _ => ∃ (x dx : Addr) (firm : Str), vs = [.ref x, .str firm] ∧ H x = some (.ins cK dx []) ∧
  ∀ (H' : Hp) (l r u : Addr), H l = none → H r = none → H u = none → l ≠ r → l ≠ u → r ≠ u → (∀ b o, b ≠ x → H b = some o → H' b = some o) → H' x = some (.ins cK dx (fK firm l r u)) →
    H' l = some (.lst []) → H' r = some (.lst []) → H' u = some (.lst []) → Q .non H'
/-- may_enter of a book of the class C: where it is the kept kind, no day of a closed month -/
def MayB (kept : Bool) (fs : List (Str × V)) (H : Hp) (n : Int) : Prop := kept = true → ∃ (UB : Addr) (us : List V), fs.lookup ("upheld" : Str) = some (.ref UB) ∧ H UB = some (.lst us) ∧ (us.length : Int) ≤ n / 30
def spMay (kept : Bool) (C : Addr) : Sp := fun vs H Q _ => ∃ (b dx : Addr) (fs : List (Str × V)) (n : Int), vs = [.ref b, .int n] ∧ H b = some (.ins C dx fs) ∧ MayB kept fs H n ∧ Q .non H
/-- the two classes -/
def cOf (cB cK : Addr) : Bool → Addr
  | false => cB
  | true => cK
/-- pages: (day, about, lines) each -/
def PgAt (H : Hp) : List V → List (Int × List Ln) → Prop := Paired fun v e => ∃ (t l : Addr) (k : Int) (xs : List V), v = .ref t ∧ H t = some (.tup [.int e.1, .int k, .ref l]) ∧ H l = some (.lst xs) ∧ LAt H xs e.2
theorem PgAt.mono {H H' : Hp} {vs : List V} {E : List (Int × List Ln)} (h : PgAt H vs E) (e1 : ∀ a t, H a = some (.tup t) → H' a = some (.tup t)) (e2 : ∀ a xs, H a = some (.lst xs) → (∃ t d k, H t = some (.tup [.int d, .int k, .ref a])) → H' a = some (.lst xs)) : PgAt H' vs E :=
  Paired.mapP h fun v e ⟨t, l, k, xs, z1, z2, z3, z4⟩ => ⟨t, l, k, xs, z1, e1 _ _ z2, e2 _ _ z3 ⟨t, _, _, z2⟩, At.mono z4 e1⟩
theorem PgAt.same {H H' : Hp} {vs : List V} {E : List (Int × List Ln)} (h : PgAt H vs E) (e : Same H H') : PgAt H' vs E := h.mono (fun _ _ => e _ _) fun _ _ z _ => e _ _ z
theorem PgAt.len {H : Hp} {vs : List V} {E : List (Int × List Ln)} (h : PgAt H vs E) : vs.length = E.length := Paired.length h
theorem PgAt.snoc {H : Hp} {e : Int × List Ln} {t l : Addr} {k : Int} {xs : List V} : ∀ {vs : List V} {E : List (Int × List Ln)}, PgAt H vs E → H t = some (.tup [.int e.1, .int k, .ref l]) → H l = some (.lst xs) → LAt H xs e.2 → PgAt H (vs ++ [.ref t]) (E ++ [e])
  | _, _, .nil, h1, h2, h3 => .cons ⟨t, l, k, xs, rfl, h1, h2, h3⟩ .nil
  | _, _, .cons a b, h1, h2, h3 => .cons a (PgAt.snoc b h1 h2 h3)

theorem fB_is (firm : Str) (l : Addr) : BkF (fB firm l) firm l := by
  refine ⟨rfl, ?_, fun m h1 h2 _ _ => ?_⟩
  · unfold fB
    rw [List.lookup_cons, show (("pages" : Str) == ("book" : Str)) = false by decide +kernel]
    rfl
  · unfold fB
    rw [List.lookup_cons, show (m == ("book" : Str)) = false from beq_eq_false_iff_ne.mpr h1, List.lookup_cons, show (m == ("pages" : Str)) = false from beq_eq_false_iff_ne.mpr h2]
    rfl
theorem fK_is (firm : Str) (l r u : Addr) : BkF (fK firm l r u) firm l := by
  refine ⟨rfl, ?_, fun m h1 h2 h3 h4 => ?_⟩
  · unfold fK
    rw [List.lookup_cons, show (("pages" : Str) == ("book" : Str)) = false by decide +kernel]
    rfl
  · unfold fK
    rw [List.lookup_cons, show (m == ("book" : Str)) = false from beq_eq_false_iff_ne.mpr h1, List.lookup_cons, show (m == ("pages" : Str)) = false from beq_eq_false_iff_ne.mpr h2,
      List.lookup_cons, show (m == ("records" : Str)) = false from beq_eq_false_iff_ne.mpr h3, List.lookup_cons, show (m == ("upheld" : Str)) = false from beq_eq_false_iff_ne.mpr h4]
    rfl
theorem fK_records (firm : Str) (l r u : Addr) : (fK firm l r u).lookup ("records" : Str) = some (.ref r) := by
  unfold fK
  rw [List.lookup_cons, show (("records" : Str) == ("book" : Str)) = false by decide +kernel, List.lookup_cons, show (("records" : Str) == ("pages" : Str)) = false by decide +kernel]
  rfl
theorem fK_upheld (firm : Str) (l r u : Addr) : (fK firm l r u).lookup ("upheld" : Str) = some (.ref u) := by
  unfold fK
  rw [List.lookup_cons, show (("upheld" : Str) == ("book" : Str)) = false by decide +kernel, List.lookup_cons, show (("upheld" : Str) == ("pages" : Str)) = false by decide +kernel,
    List.lookup_cons, show (("upheld" : Str) == ("records" : Str)) = false by decide +kernel]
  rfl
theorem put_book (firm : Str) : putF "book" (.str firm) [] = [(("book" : Str), V.str firm)] := rfl
theorem put_pages (firm : Str) (l : Addr) : putF "pages" (.ref l) [(("book" : Str), V.str firm)] = fB firm l := by
  show (if ("book" : Str) = "pages" then _ else (("book" : Str), V.str firm) :: [(("pages" : Str), V.ref l)]) = _
  rw [if_neg (by decide +kernel)]
  rfl
def f3 (firm : Str) (l r : Addr) : List (Str × V) := [("book", .str firm), ("pages", .ref l), ("records", .ref r)]
theorem put_records (firm : Str) (l r : Addr) : putF "records" (.ref r) (fB firm l) = f3 firm l r := by
  show (if ("book" : Str) = "records" then _ else (("book" : Str), V.str firm) :: (if ("pages" : Str) = "records" then _ else (("pages" : Str), V.ref l) :: [(("records" : Str), V.ref r)])) = _
  rw [if_neg (by decide +kernel), if_neg (by decide +kernel)]
  rfl
theorem put_upheld (firm : Str) (l r u : Addr) : putF "upheld" (.ref u) (f3 firm l r) = fK firm l r u := by
  show (if ("book" : Str) = "upheld" then _ else (("book" : Str), V.str firm) :: (if ("pages" : Str) = "upheld" then _ else (("pages" : Str), V.ref l) :: (if ("records" : Str) = "upheld" then _ else (("records" : Str), V.ref r) :: [(("upheld" : Str), V.ref u)]))) = _
  rw [if_neg (by decide +kernel), if_neg (by decide +kernel), if_neg (by decide +kernel)]
  rfl
section
variable {P : Program} {w : World} {K : PySem.W.Frag} {mg : Str → Option Value} {base : Heap}
theorem ok_month {f : Addr} {fd : FuncData} (F : Fun K "month_of" "month_of" sMonthOf f fd) : FnOk P w K mg base CX0 1 f fd ["day"] spMonth := by
  refine F.ok scMonthOf (fun vs H Q E h => ?_) (fun cdv A outer s H vs Q E hr h => ?_)
  · obtain ⟨n, rfl, _⟩ := h
    rfl
  · obtain ⟨n, rfl, q⟩ := h
    refine ⟨_, pss_one (ps_ret (pe_op op_fdiv (pv 0) pe_int)), ?_⟩
    exact ⟨_, rfl, _, _, rfl, rfl, ⟨by decide, by decide⟩, q⟩
theorem ok_rests {f : Addr} {fd : FuncData} (F : Fun K "rests_of" "rests_of" sRests f fd) (mL : mg "list" = none) : FnOk P w K mg base CX0 1 f fd ["sides"] (spRests K) := by
  refine F.ok scRests (fun vs H Q E h => ?_) (fun cdv A outer s H vs Q E hr h => ?_)
  · obtain ⟨a, xs, ls, rfl, _⟩ := h
    rfl
  · obtain ⟨a, xs, ls, rfl, hS, hA, hlen, q⟩ := h
    have hu := hu_of hr
    refine ⟨_, pss_cons (ps_set (i := 1) scRests.nd rfl (.inl rfl) pe_dnewK)
      (pss_cons (ps_for PassesOwn.never rfl (pi_list (pv 0)) (pg_name (i := 2) scRests.nd rfl (.inl rfl))
        (pss_one (ps_dput hu (pv 1) (pe_ix ix_tup (pv 2) pe_int (fun _ _ => rfl)) (pe_op op_add (pe_dget2 hu (pv 1) (pe_ix ix_tup (pv 2) pe_int (fun _ _ => rfl)) pe_int ⟨rfl, rfl, rfl, rfl⟩) (pe_ix ix_tup (pv 2) pe_int (fun _ _ => rfl))) rfl)))
      (pss_one (ps_ret (LiI.pe_listItems rfl (pv 1) (by rfl) mL (by decide +kernel))))), ?_⟩
    refine fun d n0 => ?_
    refine ⟨.ref a, rfl, a, rfl, ⟨xs, (same_upd n0).seq hS⟩, for_list (K := K) (a := a) (xs := xs) (fun i σ H' => ∃ v2, σ = [some (.ref a), some (.ref d), v2] ∧ Same H H' ∧
        H' d = some (.dK (dk (κ := Key) Sum.inr (fun c => V.int (coinTot (ls.take i) c)) (coins (ls.take i)))))
      ⟨none, rfl, same_upd n0, by rw [upd_same]; rfl⟩ (fun i σ H' _ ⟨_, _, e, _⟩ => e.seq hS) ?_ ?_⟩
    · rintro i x σ H1 hi ⟨v2, rfl, s1, h1⟩
      obtain ⟨l, la, el, rfl, hla⟩ := LAt.get hA hi
      have hla1 : H1 la = some (.tup l.t) := s1 _ _ hla
      have e1 : ls.take (i + 1) = ls.take i ++ [l] := take_succ_get el
      have pl : (coins (ls.take i)).length ≤ 10000 := Nat.le_trans (coins_len _) (by rw [List.length_take]; omega)
      generalize ls.take i = tk at h1 pl e1
      rw [e1]
      have inj : ∀ p q : Str, (Sum.inr p : Key) = Sum.inr q → p = q := fun p q e => Sum.inr.inj e
      have dg : DGet H1 d (.str l.coin) (valV (dk (κ := Key) Sum.inr (fun c => V.int (coinTot tk c)) (coins tk)) (Sum.inr l.coin)) := DGet.k (k := Sum.inr l.coin) h1
      refine ⟨_, rfl, d, rfl, .inl ⟨_, .inl h1⟩, _, rfl, la, l.t, 2, _, rfl, rfl, SqT.of hla1, atI_nat (j := 2) rfl, _, dg, ?_⟩
      refine ⟨_, rfl, la, l.t, 3, _, rfl, rfl, SqT.of hla1, atI_nat (j := 3) rfl, coinTot tk l.coin, l.amt, ?_, rfl, ?_⟩
      · rw [valV_dk inj]
        by_cases m : l.coin ∈ coins tk
        · rw [if_pos m]
          rfl
        · rw [if_neg m, coinTot_none m]
          rfl
      have dp : DPut H1 d (.str l.coin) (.int (coinTot tk l.coin + l.amt)) (upd H1 d (.dK (dk (κ := Key) Sum.inr (fun c => V.int (coinTot (tk ++ [l]) c)) (coins (tk ++ [l]))))) := by
        have e : putK (dk (κ := Key) Sum.inr (fun c => V.int (coinTot tk c)) (coins tk)) (Sum.inr l.coin) (V.int (coinTot tk l.coin + l.amt)) = dk (κ := Key) Sum.inr (fun c => V.int (coinTot (tk ++ [l]) c)) (coins (tk ++ [l])) := by
          rw [putK_dk inj, coins_snoc]
          refine dk_congr fun c _ => ?_
          rw [coinTot_snoc]
          by_cases e : c = l.coin
          · subst e
            rw [if_pos rfl, if_pos rfl]
          · rw [if_neg e, if_neg fun z => e z.symm, Int.add_zero]
        rw [← e]
        exact DPut.k (k := Sum.inr l.coin) h1 (szl (by rw [dk_len]; omega))
      refine ⟨_, rfl, _, rfl, la, l.t, 2, _, rfl, rfl, SqT.of hla1, atI_nat (j := 2) rfl, d, _, rfl, dp, ?_⟩
      exact ⟨_, rfl, same_mut s1 n0, upd_same⟩
    · rintro σ H1 ⟨v2, rfl, s1, h1⟩
      have et : ls.take xs.length = ls := List.take_of_length_le (by rw [hA.len]; exact Nat.le_refl _)
      rw [et] at h1
      refine ⟨_, rfl, d, _, rfl, h1, fun H2 p ts s2 np _ _ hp2 pr => ?_⟩
      refine q H2 p _ (coins ls) (s1.trans s2) (s1.free np) hp2 ?_ (coins_len ls)
      have all : ∀ (ts : List Addr) (cs : List Str), Paired (fun (t : Addr) (q : Key × V) => H2 t = some (.tup [kV q.1, q.2])) ts (dk (κ := Key) Sum.inr (fun c => V.int (coinTot ls c)) cs) →
          At H2 (ts.map V.ref) (cs.map fun c => [V.str c, V.int (coinTot ls c)]) := by
        intro ts
        induction ts with
        | nil =>
          intro cs h
          cases cs with
          | nil => exact .nil
          | cons c cs => cases h
        | cons t ts ih =>
          intro cs h
          cases cs with
          | nil => cases h
          | cons c cs =>
            cases h with
            | cons h1 h2 => exact .cons ⟨t, rfl, h1⟩ (ih cs h2)
      exact all ts (coins ls) pr
theorem ok_binit {f : Addr} {fd : FuncData} (F : Fun K "__init__" "Book.__init__" sBInit f fd) : FnOk P w K mg base CX0 1 f fd ["self", "firm"] (spBInit K) := by
  refine F.ok scBInit (fun vs H Q E h => ?_) (fun cdv A outer s H vs Q E hr h => ?_)
  · obtain ⟨C, x, dx, firm, rfl, _⟩ := h
    rfl
  · obtain ⟨C, x, dx, firm, rfl, T, hx, q⟩ := h
    refine ⟨_, pss_cons (ps_fld (pv 0) (pv 1) rfl) (pss_one (ps_fld (pv 0) (pe_lst pa_nil) rfl)), ?_⟩
    refine ⟨_, rfl, _, rfl, x, C, dx, [], rfl, hx, T.cl, T.nB, (by show 0 < 1000; decide), ?_⟩
    refine ⟨Nat.zero_le _, fun l nl => ?_⟩
    have nlx : l ≠ x := fun z => by
      rw [z, upd_same] at nl
      cases nl
    have nl0 : H l = none := by
      rw [upd_ne nlx] at nl
      exact nl
    refine ⟨_, rfl, x, C, dx, [(("book" : Str), V.str firm)], rfl, (by rw [upd_ne nlx.symm, upd_same]; rfl), T.cl, T.nP, (by show 1 < 1000; decide), ?_⟩
    refine q _ l nl0 (fun b o nb e => ?_) (by rw [upd_same, put_pages]) (by rw [upd_ne nlx, upd_same])
    rw [upd_ne nb, upd_ne (ne_of_none e nl0), upd_ne nb]
    exact e
theorem ok_kinit {f f0 cB cK : Addr} {fd fd0 : FuncData} (F : Fun K "__init__" "KeptBook.__init__" sKInit f fd) (F0 : Fun K "__init__" "Book.__init__" sBInit f0 fd0) (b0 : Binds K fd0 ["self", "firm"] []) (gB : mg "Book" = some (.ref cB))
    (rd : ClX.CRead K cB (.type "type")) (at0 : PySem.W.findCls K (.ref cB) (.type "type") "__init__" = some (.val (.ref f0))) (T : Cl K cK) (nR : NoAttr K cK "records") (nU : NoAttr K cK "upheld") :
    FnOk P w K mg base CX0 2 f fd ["self", "firm"] (spKInit cK) := by
  have G0 : FnOk P w K mg base CX0 1 f0 fd0 ["self", "firm"] (spBInit K) := ok_binit F0
  refine F.ok scKInit (fun vs H Q E h => ?_) (fun cdv A outer s H vs Q E hr h => ?_)
  · obtain ⟨x, dx, firm, rfl, _⟩ := h
    rfl
  · obtain ⟨x, dx, firm, rfl, hx, q⟩ := h
    refine ⟨_, pss_cons (ps_expr (pe_clsfn (pe_glob (v := .ref cB) rfl gB rfl) rd at0 F0.kp G0 hr b0 .nil pass0 (pa_cons (pv 0) (pa_cons (pv 1) pa_nil))))
      (pss_cons (ps_fld (pv 0) (pe_lst pa_nil) rfl) (pss_one (ps_fld (pv 0) (pe_lst pa_nil) rfl))), ?_⟩
    refine ⟨rfl, _, rfl, _, rfl, cK, x, dx, firm, rfl, T, hx, fun H1 l nl k1 x1 l1 => ?_⟩
    refine ⟨Nat.zero_le _, fun r nr => ?_⟩
    have nrx : r ≠ x := (ne_of_none x1 nr).symm
    have nrl : r ≠ l := (ne_of_none l1 nr).symm
    have nlx : l ≠ x := ne_of l1 x1 (by intro z; cases z)
    have nr0 : H r = none := by
      cases e : H r with
      | none => rfl
      | some o =>
        rw [k1 r o nrx e] at nr
        cases nr
    refine ⟨_, rfl, x, cK, dx, _, rfl, (by rw [upd_ne nrx.symm]; exact x1), T.cl, nR, (by show 2 < 1000; decide), ?_⟩
    refine ⟨Nat.zero_le _, fun u nu => ?_⟩
    have nux : u ≠ x := fun z => by
      rw [z, upd_same] at nu
      cases nu
    have nur : u ≠ r := fun z => by
      rw [z, upd_ne nrx, upd_same] at nu
      cases nu
    have nu1 : H1 u = none := by
      rw [upd_ne nux, upd_ne nur] at nu
      exact nu
    have nul : u ≠ l := (ne_of_none l1 nu1).symm
    have nu0 : H u = none := by
      cases e : H u with
      | none => rfl
      | some o =>
        rw [k1 u o nux e] at nu1
        cases nu1
    refine ⟨_, rfl, x, cK, dx, f3 firm l r, rfl, (by rw [upd_ne nux.symm, upd_same, put_records]), T.cl, nU, (by show 3 < 1000; decide), ?_⟩
    refine q _ l r u nl nr0 nu0 nrl.symm nul.symm nur.symm (fun b o nb e => ?_) (by rw [upd_same, put_upheld]) ?_ ?_ ?_
    · rw [upd_ne nb, upd_ne (ne_of_none e nu0), upd_ne nb, upd_ne (ne_of_none e nr0)]
      exact k1 b o nb e
    · rw [upd_ne nlx, upd_ne nul.symm, upd_ne nlx, upd_ne nrl.symm]
      exact l1
    · rw [upd_ne nrx, upd_ne nur.symm, upd_ne nrx, upd_same]
    · rw [upd_ne nux, upd_same]
theorem ok_bmay {f cB : Addr} {fd : FuncData} (F : Fun K "may_enter" "Book.may_enter" sBMay f fd) : FnOk P w K mg base CX0 1 f fd ["self", "day"] (spMay false cB) := by
  refine F.ok scBMay (fun vs H Q E h => ?_) (fun cdv A outer s H vs Q E hr h => ?_)
  · obtain ⟨b, dx, fs, n, rfl, _⟩ := h
    rfl
  · obtain ⟨b, dx, fs, n, rfl, hb, _, q⟩ := h
    refine ⟨_, pss_one (ps_ret pe_non), ?_⟩
    exact q
theorem ok_kmay {f fM cK : Addr} {fd fdM : FuncData} (F : Fun K "may_enter" "KeptBook.may_enter" sKMay f fd) (FM : Fun K "month_of" "month_of" sMonthOf fM fdM) (bM : Binds K fdM ["day"] []) (gM : mg "month_of" = some (.ref fM)) (mLen : mg "len" = none)
    (T : Cl K cK) (nU : NoAttr K cK "upheld") : FnOk P w K mg base CX0 2 f fd ["self", "day"] (spMay true cK) := by
  have GM : FnOk P w K mg base CX0 1 fM fdM ["day"] spMonth := ok_month FM
  refine F.ok scKMay (fun vs H Q E h => ?_) (fun cdv A outer s H vs Q E hr h => ?_)
  · obtain ⟨b, dx, fs, n, rfl, _⟩ := h
    rfl
  · obtain ⟨b, dx, fs, n, rfl, hb, hm, q⟩ := h
    obtain ⟨UB, us, e1, e2, e3⟩ := hm rfl
    refine ⟨_, pss_cons (ps_set (i := 2) scKMay.nd rfl (.inl rfl) (pe_call GM hr (by rfl) gM FM.kp bM .nil pass0 (pa_cons (pv 1) pa_nil)))
      (pss_one (ps_if (pt_cmpR op_lt (pv 2) (pe_callB call_len_seq (by rfl) mLen PySem.boot_len (pa_cons (pe_fld (pv 0) rfl) pa_nil)) (nomark _)) (pss_one ps_never) pss_nil)), ?_⟩
    refine ⟨_, rfl, n, rfl, ?_⟩
    refine ⟨_, rfl, _, rfl, b, cK, dx, fs, _, rfl, hb, T.cl, nU, e1, UB, us, rfl, .inl (SqL.of e2), _, _, rfl, rfl, _, rfl, ?_⟩
    rw [decide_eq_false (by omega)]
    exact iteF q
end
end K34

/-! post, entries -/
namespace K34
open PySem PySem.Spec PyProof.Rows L2
/-- lines that come to 0 are entered: the page stands at the end of the pages, with a list of its own -/
def spPost (cB cK : Addr) : Sp := fun vs H Q _ => ∃ (kept : Bool) (b dx : Addr) (fs : List (Str × V)) (n k : Int) (a : Addr) (xs : List V) (ls : List Ln) (firm : Str) (PB : Addr) (ws : List V),
  vs = [.ref b, .int n, .int k, .ref a] ∧ H b = some (.ins (cOf cB cK kept) dx fs) ∧ BkF fs firm PB ∧ MayB kept fs H n ∧ H PB = some (.lst ws) ∧ ws.length ≤ 1000 ∧ H a = some (.lst xs) ∧ LAt H xs ls ∧ ls.length ≤ 10000 ∧ Bal firm ls ∧
  ∀ (H' : Hp) (t l : Addr), H t = none → H l = none → (∀ x o, x ≠ PB → H x = some o → H' x = some o) → H' PB = some (.lst (ws ++ [.ref t])) → H' t = some (.tup [.int n, .int k, .ref l]) → H' l = some (.lst xs) → ∀ v, Q v H'
section
variable {P : Program} {w : World} {K : PySem.W.Frag} {mg : Str → Option Value} {base : Heap}
theorem ok_post {f fR cB cK : Addr} {fd fdR : FuncData} (F : Fun K "post" "Book.post" sPost f fd) (FR : Fun K "rests_of" "rests_of" sRests fR fdR) (bR : Binds K fdR ["sides"] []) (gR : mg "rests_of" = some (.ref fR))
    (mLen : mg "len" = none) (mSum : mg "sum" = none) (mList : mg "list" = none) (T : ∀ kept, Cl K (cOf cB cK kept))
    (M : ∀ kept, ∃ (fM : Addr) (fdM : FuncData), Meth K (cOf cB cK kept) "may_enter" fM ∧ Binds K fdM ["self", "day"] [] ∧ FnOk P w K mg base CX0 2 fM fdM ["self", "day"] (spMay kept (cOf cB cK kept))) :
    FnOk P w K mg base CX0 3 f fd ["self", "day", "about", "lines"] (spPost cB cK) := by
  have GR : FnOk P w K mg base CX0 1 fR fdR ["sides"] (spRests K) := ok_rests FR mList
  refine F.ok scPost (fun vs H Q E h => ?_) (fun cdv A outer s H vs Q E hr h => ?_)
  · obtain ⟨kept, b, dx, fs, n, k, a, xs, ls, firm, PB, ws, rfl, _⟩ := h
    rfl
  · obtain ⟨kept, b, dx, fs, n, k, a, xs, ls, firm, PB, ws, rfl, hb, hF, hm, hP, hpl, ha, hA, hlen, hB, q⟩ := h
    obtain ⟨fM, fdM, mM, bM, GM⟩ := M kept
    have TC := T kept
    generalize cOf cB cK kept = C at hb mM GM TC
    have hr1 : Room 1 _ := hr.mono (by decide)
    refine ⟨_, pss_cons (ps_expr (pe_meth (pv 0) TC.cl mM GM hr bM .nil pass0 (pa_cons (pv 1) pa_nil)))
      (pss_cons (ps_for PassesOwn.never rfl (pi_list (pv 3)) (pg_name (i := 4) scPost.nd rfl (.inl rfl)) (pss_one (ps_if (pt_cmpR op_ne (pe_ix ix_tup (pv 4) pe_int (fun _ _ => rfl)) (pe_fld (pv 0) rfl) (nomark _)) (pss_one ps_never) pss_nil)))
      (pss_cons (ps_for PassesOwn.never rfl (pi_list (pe_call GR hr1 (by rfl) gR FR.kp bR .nil pass0 (pa_cons (pv 3) pa_nil))) (pg_tup rfl (pgs_cons (pg_name (i := 5) scPost.nd rfl (.inl rfl)) (pgs_cons (pg_name (i := 6) scPost.nd rfl (.inl rfl)) pgs_nil)))
        (pss_one (ps_if (pt_cmpR op_ne (pv 6) pe_int (nomark _)) (pss_one ps_never) pss_nil)))
      (pss_cons (ps_set (i := 7) scPost.nd rfl (.inl rfl) (pe_callB (cr_sum rfl) (by rfl) mSum (by decide +kernel) (pa_cons (pe_lc (own := [("line", 4)]) (g := gName 4) (tt := tYes) (te := tOp (rIxT K) (tVar 4) (tC (.int 4))) (by rfl) scPost.nd (pi_list (pv 3))
        (blkOk_by (own := [("line", 4)]) (N := ["self", "day", "about", "lines", "line", "coin", "rest", "left"]) (sc := defScope sPost) (by decide +kernel)) (fun _ _ _ _ _ => pg_name (i := 4) scPost.nd rfl (Or.inl rfl)) (fun _ _ _ _ _ => pts_nil)
        (fun _ _ _ _ _ => pe_ix ix_tup (pv 4) pe_int (fun _ _ => rfl))) pa_nil)))
      (pss_cons (ps_if (pt_cmpR op_ne (pv 7) pe_int (nomark _)) (pss_one ps_never) pss_nil)
      (pss_cons (ps_expr (pe_bm PySem.F.plainAttrs_list PySem.F.slot_list_append PySem.F.type_list_append mt_append (pe_fld (pv 0) rfl) (pa_cons (pe_tup (pa_cons (pv 1) (pa_cons (pv 2) (pa_cons (pe_callTy call_list_of (by rfl) mList (by decide +kernel) (pa_cons (pv 3) pa_nil)) pa_nil)))) pa_nil)))
      (pss_one (ps_ret (pe_op op_sub (pe_callB call_len_seq (by rfl) mLen PySem.boot_len (pa_cons (pe_fld (pv 0) rfl) pa_nil)) pe_int)))))))), ?_⟩
    -- self.may_enter(day)
    refine ⟨_, rfl, b, dx, fs, rfl, hb, hF.no _ (by decide +kernel) (by decide +kernel) (by decide +kernel) (by decide +kernel), _, rfl, b, dx, fs, n, rfl, hb, hm, ?_⟩
    -- for line in lines: the firm is the book's
    refine ⟨_, rfl, a, rfl, ⟨xs, SqL.of ha⟩, for_list (K := K) (a := a) (xs := xs) (fun i σ H' => ∃ v4, σ = [some (.ref b), some (.int n), some (.int k), some (.ref a), v4, none, none, none] ∧ H' = H)
      ⟨none, rfl, rfl⟩ (fun i σ H' _ ⟨_, _, e⟩ => by rw [e]; exact SqL.of ha) ?_ ?_⟩
    · rintro i x σ H1 hi ⟨v4, rfl, rfl⟩
      obtain ⟨l, la, el, rfl, hla⟩ := LAt.get hA hi
      refine ⟨_, rfl, la, _, 0, _, rfl, rfl, SqT.of hla, atI_nat (j := 0) rfl, _, rfl, b, C, dx, fs, _, rfl, hb, TC.cl, TC.nB, hF.book, rfl, _, rfl, ?_⟩
      rw [hB.own l (List.mem_of_getElem? el), decide_eq_true rfl]
      exact iteF ⟨_, rfl, rfl⟩
    rintro σ H1 ⟨v4, rfl, rfl⟩
    -- for coin, rest in rests_of(lines): each rest is 0
    refine ⟨_, rfl, a, xs, ls, rfl, SqL.of ha, hA, hlen, fun H2 p ys cs s2 np hp2 cat lcs => ?_⟩
    refine ⟨p, rfl, ⟨_, SqL.of hp2⟩, for_list (K := K) (a := p) (xs := ys) (fun i σ H' => ∃ v5 v6, σ = [some (.ref b), some (.int n), some (.int k), some (.ref a), v4, v5, v6, none] ∧ H' = H2)
      ⟨none, none, rfl, rfl⟩ (fun i σ H' _ ⟨_, _, _, e⟩ => by rw [e]; exact SqL.of hp2) ?_ ?_⟩
    · rintro i x σ H3 hi ⟨v5, v6, rfl, rfl⟩
      obtain ⟨t, ta, et, rfl, hta⟩ := At.get cat hi
      rw [List.getElem?_map] at et
      cases ec : cs[i]? with
      | none =>
        rw [ec] at et
        cases et
      | some c =>
        rw [ec] at et
        cases et
        refine ⟨ta, _, rfl, SqT.of hta, rfl, _, _, rfl, _, _, rfl, rfl, ?_⟩
        refine ⟨_, rfl, rfl, _, rfl, ?_⟩
        rw [hB.coin c, decide_eq_true rfl]
        exact iteF ⟨_, _, rfl, rfl⟩
    rintro σ H3 ⟨v5, v6, rfl, rfl⟩
    -- left = sum([line[4] for line in lines])
    have ha3 := s2 _ _ ha
    have hA3 := At.same hA s2
    refine ⟨_, rfl, a, rfl, ⟨xs, SqL.of ha3⟩, fun D nD => ?_⟩
    refine lc_list (K := K) (a := a) (xs := xs) (fun i H' => (∀ x o, x ≠ D → H3 x = some o → H' x = some o) ∧ H' D = some (.lst (((ls.take i).map Ln.wor).map V.int)))
      ⟨fun x o nx e => by rw [upd_ne nx]; exact e, upd_same⟩ (fun i H' _ ⟨e, _⟩ => SqL.of (e _ _ (ne_of_none ha3 nD) ha3)) ?_ ?_
    · rintro i x H4 hi ⟨e4, hD4⟩
      obtain ⟨l, la, el, rfl, hla⟩ := LAt.get hA3 hi
      have hla4 := e4 _ _ (ne_of_none hla nD) hla
      refine ⟨rfl, iteT (B := True) ?_⟩
      refine ⟨_, rfl, la, _, 4, _, rfl, rfl, SqT.of hla4, atI_nat (j := 4) rfl, _, hD4, szl ?_, fun x o nx e => ?_, ?_⟩
      · rw [List.length_map, List.length_map, List.length_take]
        omega
      · rw [upd_ne nx]
        exact e4 _ _ nx e
      · rw [upd_same, take_succ_get el, List.map_append, List.map_append]
        rfl
    rintro H4 ⟨e4, hD4⟩
    have et : ls.take xs.length = ls := List.take_of_length_le (by rw [hA.len]; exact Nat.le_refl _)
    rw [et] at hD4
    refine ⟨D, _, rfl, SqL.of hD4, ?_⟩
    rw [hB.wor]
    -- left is 0
    refine ⟨_, rfl, rfl, _, rfl, ?_⟩
    rw [decide_eq_true rfl]
    refine iteF ?_
    -- self.pages.append((day, about, list(lines)))
    have k4 : ∀ x o, H1 x = some o → H4 x = some o := fun x o e => e4 _ _ (ne_of_none (s2 _ _ e) nD) (s2 _ _ e)
    have hb4 := k4 _ _ hb
    have hP4 := k4 _ _ hP
    have ha4 := k4 _ _ ha
    refine ⟨_, rfl, b, C, dx, fs, _, rfl, hb4, TC.cl, TC.nP, hF.pages, .inl ⟨rfl, _, SqL.of hP4⟩, ?_⟩
    refine ⟨_, rfl, _, rfl, _, rfl, a, xs, rfl, .inl (SqL.of ha4), fun l nl => ⟨by show 3 ≤ sizeLine; decide, fun t nt => ?_⟩⟩
    have nltD : l ≠ t := fun z => by
      rw [← z, upd_same] at nt
      cases nt
    have nt4 : H4 t = none := by
      rw [upd_ne nltD.symm] at nt
      exact nt
    have free4 : ∀ x, H4 x = none → H1 x = none := fun x e => by
      cases e1 : H1 x with
      | none => rfl
      | some o =>
        rw [k4 x o e1] at e
        cases e
    have nPl : PB ≠ l := ne_of_none hP4 nl
    have nPt : PB ≠ t := ne_of_none hP4 nt4
    have hP6 : upd (upd H4 l (.lst xs)) t (.tup [V.int n, V.int k, V.ref l]) PB = some (.lst ws) := by
      rw [upd_ne nPt, upd_ne nPl]
      exact hP4
    refine ⟨PB, ws, _, rfl, rfl, hP6, szl (by omega), ?_⟩
    have hb7 : upd (upd (upd H4 l (.lst xs)) t (.tup [V.int n, V.int k, V.ref l])) PB (.lst (ws ++ [V.ref t])) b = some (.ins C dx fs) := by
      rw [upd_ne (ne_of hb4 hP4 (by intro z; cases z)), upd_ne (ne_of_none hb4 nt4), upd_ne (ne_of_none hb4 nl)]
      exact hb4
    have hP7 : upd (upd (upd H4 l (.lst xs)) t (.tup [V.int n, V.int k, V.ref l])) PB (.lst (ws ++ [V.ref t])) PB = some (.lst (ws ++ [V.ref t])) := upd_same
    refine ⟨_, rfl, b, C, dx, fs, _, rfl, hb7, TC.cl, TC.nP, hF.pages, PB, _, rfl, .inl (SqL.of hP7), ?_⟩
    refine ⟨_, _, rfl, rfl, ?_⟩
    refine q _ t l (free4 t nt4) (free4 l nl) (fun x o nx e => ?_) hP7 ?_ ?_ _
    · rw [upd_ne nx, upd_ne (ne_of_none (k4 _ _ e) nt4), upd_ne (ne_of_none (k4 _ _ e) nl)]
      exact k4 _ _ e
    · rw [upd_ne nPt.symm, upd_same]
    · rw [upd_ne nPl.symm, upd_ne nltD, upd_same]
end
end K34

/-! what is read of a book: entries, spots, lines_upto, figures; movement_of -/
namespace K34
open PySem PySem.Spec PyProof.Rows L2
/-- a book of either kind: its firm, its pages -/
structure BkAt (cB cK : Addr) (H : Hp) (b : Addr) (firm : Str) (PB : Addr) (E : List (Int × List Ln)) : Prop where
  at_ : ∃ (kept : Bool) (dx : Addr) (fs : List (Str × V)) (ws : List V), H b = some (.ins (cOf cB cK kept) dx fs) ∧ BkF fs firm PB ∧ H PB = some (.lst ws) ∧ PgAt H ws E
/-- pages with new lists -/
def PgNew (H H' : Hp) (p : Addr) : List V → List (Int × List Ln) → Prop := Paired fun v e => ∃ (t l : Addr) (k : Int) (xs : List V), v = .ref t ∧ H' t = some (.tup [.int e.1, .int k, .ref l]) ∧ H l = none ∧ l ≠ p ∧ H' l = some (.lst xs) ∧ LAt H xs e.2
def spEntries (cB cK : Addr) : Sp := fun vs H Q _ => ∃ (b : Addr) (firm : Str) (PB : Addr) (E : List (Int × List Ln)), vs = [.ref b] ∧ BkAt cB cK H b firm PB E ∧ E.length ≤ 1000 ∧
  ∀ (H' : Hp) (p : Addr) (ys : List V), Same H H' → H p = none → H' p = some (.lst ys) → PgNew H H' p ys E → Q (.ref p) H'
def spMoved (cB cK : Addr) : Sp := fun vs H Q _ => ∃ (b : Addr) (firm : Str) (PB : Addr) (E : List (Int × List Ln)) (m : Int), vs = [.ref b, .int m] ∧ BkAt cB cK H b firm PB E ∧ E.length ≤ 1000 ∧ sizeL E ≤ 10000 ∧
  ∀ (H' : Hp) (p : Addr) (ys : List V) (fs : List Fg), Same H H' → H p = none → H' p = some (.lst ys) → FAt H' ys fs → IsFigs fs (amtOf (monthL (mE E) m)) (worOf (monthL (mE E) m)) → fs.length ≤ sizeL E → Q (.ref p) H'
/-- spots with their lines: (spot, line) each -/
def SpAt (H : Hp) : List V → List V → Prop := Paired fun v x => ∃ (t s : Addr), v = .ref t ∧ H t = some (.tup [.ref s, x])
def spSpots (cB cK : Addr) : Sp := fun vs H Q _ => ∃ (b : Addr) (firm : Str) (PB : Addr) (E : List (Int × List Ln)) (m : Int), vs = [.ref b, .int m] ∧ BkAt cB cK H b firm PB E ∧ E.length ≤ 1000 ∧ sizeL E ≤ 10000 ∧
  ∀ (H' : Hp) (p : Addr) (ys xs : List V), Same H H' → H p = none → H' p = some (.lst ys) → SpAt H' ys xs → LAt H xs (uptoL (mE E) m) → Q (.ref p) H'
def spUpto (cB cK : Addr) : Sp := fun vs H Q _ => ∃ (b : Addr) (firm : Str) (PB : Addr) (E : List (Int × List Ln)) (m : Int), vs = [.ref b, .int m] ∧ BkAt cB cK H b firm PB E ∧ E.length ≤ 1000 ∧ sizeL E ≤ 10000 ∧
  ∀ (H' : Hp) (p : Addr) (xs : List V), Same H H' → H p = none → H' p = some (.lst xs) → LAt H xs (uptoL (mE E) m) → Q (.ref p) H'
def spFigures (cB cK : Addr) : Sp := fun vs H Q _ => ∃ (b : Addr) (firm : Str) (PB : Addr) (E : List (Int × List Ln)) (m : Int), vs = [.ref b, .int m] ∧ BkAt cB cK H b firm PB E ∧ E.length ≤ 1000 ∧ sizeL E ≤ 10000 ∧
  ∀ (H' : Hp) (p : Addr) (ys : List V) (fs : List Fg), Same H H' → H p = none → H' p = some (.lst ys) → FAt H' ys fs → IsFigs fs (amtOf (uptoL (mE E) m)) (worOf (uptoL (mE E) m)) → fs.length ≤ sizeL E → Q (.ref p) H'
theorem PgAt.get {H : Hp} {ws : List V} {E : List (Int × List Ln)} {i : Nat} {v : V} (h : PgAt H ws E) (e : ws[i]? = some v) :
    ∃ (e : Int × List Ln) (t l : Addr) (k : Int) (xs : List V), E[i]? = some e ∧ v = .ref t ∧ H t = some (.tup [.int e.1, .int k, .ref l]) ∧ H l = some (.lst xs) ∧ LAt H xs e.2 := by
  obtain ⟨e, e1, t, l, k, xs, e2, e3, e4, e5⟩ := paired_get h e
  exact ⟨e, t, l, k, xs, e1, e2, e3, e4, e5⟩
theorem PgNew.get {H H' : Hp} {p : Addr} {ws : List V} {E : List (Int × List Ln)} {i : Nat} {v : V} (h : PgNew H H' p ws E) (e : ws[i]? = some v) :
    ∃ (e : Int × List Ln) (t l : Addr) (k : Int) (xs : List V), E[i]? = some e ∧ v = .ref t ∧ H' t = some (.tup [.int e.1, .int k, .ref l]) ∧ H l = none ∧ H' l = some (.lst xs) ∧ LAt H xs e.2 := by
  obtain ⟨e, e1, t, l, k, xs, e2, e3, e4, _, e5, e6⟩ := paired_get h e
  exact ⟨e, t, l, k, xs, e1, e2, e3, e4, e5, e6⟩
theorem paired_snoc {α β : Type} {R : α → β → Prop} {x : α} {y : β} : ∀ {xs : List α} {ys : List β}, Paired R xs ys → R x y → Paired R (xs ++ [x]) (ys ++ [y])
  | _, _, .nil, h => .cons h .nil
  | _, _, .cons a b, h => .cons a (paired_snoc b h)
theorem free_of {H H' : Hp} (e : Same H H') {x : Addr} (h : H' x = none) : H x = none := e.free h
section
variable {P : Program} {w : World} {K : PySem.W.Frag} {mg : Str → Option Value} {base : Heap}
theorem ok_entries {f cB cK : Addr} {fd : FuncData} (F : Fun K "entries" "Book.entries" sEntries f fd) (mList : mg "list" = none) (T : ∀ kept, Cl K (cOf cB cK kept)) : FnOk P w K mg base CX0 1 f fd ["self"] (spEntries cB cK) := by
  refine F.ok scEntries (fun vs H Q E h => ?_) (fun cdv A outer s H vs Q E hr h => ?_)
  · obtain ⟨b, firm, PB, E, rfl, _⟩ := h
    rfl
  · obtain ⟨b, firm, PB, EE, rfl, ⟨kept, dx, fs, ws, hb, hF, hP, hPg⟩, hlen, q⟩ := h
    have TC := T kept
    generalize cOf cB cK kept = C at hb TC
    refine ⟨_, pss_one (ps_ret (pe_lc (own := [("day", 1), ("about", 2), ("lines", 3)]) (g := gTup K 3 (gCons (gName 1) (gCons (gName 2) (gCons (gName 3) gNil)))) (tt := tYes)
      (te := tTup (tCons (tVar 1) (tCons (tVar 2) (tCons (tCB (fun xs H Q => ∃ p ys, xs = [.ref p] ∧ (SqL K H p ys ∨ SqT K H p ys) ∧ ∀ l, H l = none → Q (.ref l) (upd H l (.lst ys))) (tCons (tVar 3) tNil)) tNil)))) (by rfl) scEntries.nd (pi_list (pe_fld (pv 0) rfl))
      (blkOk_by (own := [("day", 1), ("about", 2), ("lines", 3)]) (N := ["self", "day", "about", "lines"]) (sc := defScope sEntries) (by decide +kernel))
      (fun _ _ _ _ _ => pg_tup rfl (pgs_cons (pg_name (i := 1) scEntries.nd rfl (Or.inl rfl)) (pgs_cons (pg_name (i := 2) scEntries.nd rfl (Or.inl rfl)) (pgs_cons (pg_name (i := 3) scEntries.nd rfl (Or.inl rfl)) pgs_nil)))) (fun _ _ _ _ _ => pts_nil)
      (fun _ _ _ _ _ => pe_tup (pa_cons (pv 1) (pa_cons (pv 2) (pa_cons (pe_callTy call_list_of (by rfl) mList (by decide +kernel) (pa_cons (pv 3) pa_nil)) pa_nil)))))), ?_⟩
    refine ⟨_, rfl, b, C, dx, fs, _, rfl, hb, TC.cl, TC.nP, hF.pages, PB, rfl, ⟨_, SqL.of hP⟩, fun D nD => ?_⟩
    refine lc_list (K := K) (a := PB) (xs := ws) (fun i H' => ∃ ys, (∀ x o, x ≠ D → H x = some o → H' x = some o) ∧ H' D = some (.lst ys) ∧ PgNew H H' D ys (EE.take i))
      ⟨[], fun x o nx e => by rw [upd_ne nx]; exact e, upd_same, .nil⟩ (fun i H' _ ⟨_, e, _⟩ => SqL.of (e _ _ (ne_of_none hP nD) hP)) ?_ ?_
    · rintro i x H1 hi ⟨ys, e1, hD1, n1⟩
      obtain ⟨e, t, l, k, xs, eE, rfl, ht, hl, hA⟩ := PgAt.get hPg hi
      have ht1 := e1 _ _ (ne_of_none ht nD) ht
      have hl1 := e1 _ _ (ne_of_none hl nD) hl
      refine ⟨t, _, rfl, SqT.of ht1, rfl, _, _, rfl, _, _, rfl, _, _, rfl, rfl, rfl, iteT (B := True) ?_⟩
      refine ⟨_, rfl, _, rfl, _, rfl, l, xs, rfl, .inl (SqL.of hl1), fun nl hnl => ⟨by show 3 ≤ sizeLine; decide, fun nt hnt => ?_⟩⟩
      have nt1 : H1 nt = none := by
        by_cases z : nt = nl
        · rw [z, upd_same] at hnt
          cases hnt
        · rw [upd_ne z] at hnt
          exact hnt
      have nlt : nl ≠ nt := fun z => by
        rw [← z, upd_same] at hnt
        cases hnt
      have nDl : D ≠ nl := ne_of_none hD1 hnl
      have nDt : D ≠ nt := ne_of_none hD1 nt1
      have free1 : ∀ x, H1 x = none → H x = none := fun x z => by
        cases q : H x with
        | none => rfl
        | some o =>
          rw [e1 x o (ne_of_none q nD) q] at z
          cases z
      refine ⟨ys, by rw [upd_ne nDt, upd_ne nDl]; exact hD1, szl ?_, ys ++ [.ref nt], fun x o nx z => ?_, upd_same, ?_⟩
      · have e2 := Paired.length n1
        rw [List.length_take] at e2
        omega
      · rw [upd_ne nx, upd_ne (ne_of_none (e1 _ _ nx z) nt1), upd_ne (ne_of_none (e1 _ _ nx z) hnl)]
        exact e1 _ _ nx z
      · rw [take_succ_get eE]
        refine paired_snoc (L2.Paired.mapP n1 ?_) ⟨nt, nl, k, xs, rfl, by rw [upd_ne nDt.symm, upd_same], free1 nl hnl, nDl.symm, by rw [upd_ne nDl.symm, upd_ne nlt, upd_same], hA⟩
        rintro v e' ⟨t', l', k', xs', z1, z2, z3, nlD, z4, z5⟩
        refine ⟨t', l', k', xs', z1, ?_, z3, nlD, ?_, z5⟩
        · rw [upd_ne (ne_of z2 hD1 (by intro z; cases z)), upd_ne (ne_of_none z2 nt1), upd_ne (ne_of_none z2 hnl)]
          exact z2
        · rw [upd_ne nlD, upd_ne (ne_of_none z4 nt1), upd_ne (ne_of_none z4 hnl)]
          exact z4
    · rintro H1 ⟨ys, e1, hD1, n1⟩
      rw [hPg.len, List.take_length] at n1
      exact q H1 D ys (fun x o e => e1 _ _ (ne_of_none e nD) e) nD hD1 n1
theorem ok_moved {f fM fF fE cB cK : Addr} {fd fdM fdF fdE : FuncData} (F : Fun K "movement_of" "movement_of" sMoved f fd) (FM : Fun K "month_of" "month_of" sMonthOf fM fdM) (bM : Binds K fdM ["day"] []) (gM : mg "month_of" = some (.ref fM))
    (FF : Fun K "figures_of" "figures_of" sFigs fF fdF) (bF : Binds K fdF ["lines"] []) (gF : mg "figures_of" = some (.ref fF)) (mSorted : mg "sorted" = none)
    (FE : Fun K "entries" "Book.entries" sEntries fE fdE) (bE : Binds K fdE ["self"] []) (mE' : ∀ kept, Meth K (cOf cB cK kept) "entries" fE) (mList : mg "list" = none) (T : ∀ kept, Cl K (cOf cB cK kept)) :
    FnOk P w K mg base CX0 2 f fd ["book", "month"] (spMoved cB cK) := by
  have GM : FnOk P w K mg base CX0 1 fM fdM ["day"] spMonth := ok_month FM
  have GF : FnOk P w K mg base CX0 1 fF fdF ["lines"] (spFigs K) := ok_figs FF mSorted
  have GE : FnOk P w K mg base CX0 1 fE fdE ["self"] (spEntries cB cK) := ok_entries FE mList T
  refine F.ok scMoved (fun vs H Q E h => ?_) (fun cdv A outer s H vs Q E hr h => ?_)
  · obtain ⟨b, firm, PB, E, m, rfl, _⟩ := h
    rfl
  · obtain ⟨b, firm, PB, EE, m, rfl, hB, hlen, hsz, q⟩ := h
    obtain ⟨kept, dx, fs, ws, hb, hF, hP, hPg⟩ := hB.at_
    refine ⟨_, pss_cons (ps_set (i := 2) scMoved.nd rfl (.inl rfl) (pe_lst pa_nil))
      (pss_cons (ps_for PassesOwn.never rfl (pi_list (pe_meth0 (pv 0) (T kept).cl (mE' kept) GE hr bE .nil pass0)) (pg_tup rfl (pgs_cons (pg_name (i := 3) scMoved.nd rfl (.inl rfl)) (pgs_cons (pg_name (i := 4) scMoved.nd rfl (.inl rfl)) (pgs_cons (pg_name (i := 5) scMoved.nd rfl (.inl rfl)) pgs_nil))))
        (pss_one (ps_if (pt_cmpR op_eq (pe_call GM hr (by rfl) gM FM.kp bM .nil pass0 (pa_cons (pv 3) pa_nil)) (pv 1) (nomark _))
          (pss_one (ps_expr (pe_bm PySem.F.plainAttrs_list PySem.F.slot_list_extend PySem.F.type_list_extend mt_extend (pv 2) (pa_cons (pv 5) pa_nil)))) pss_nil)))
      (pss_one (ps_ret (pe_call GF hr (by rfl) gF FF.kp bF .nil pass0 (pa_cons (pv 2) pa_nil))))), ?_⟩
    -- lines = []
    refine ⟨Nat.zero_le _, fun L nL => ?_⟩
    have s1 : Same H (upd H L (.lst [])) := same_upd nL
    have hL1 : upd H L (.lst []) L = some (.lst []) := upd_same
    generalize upd H L (.lst []) = H1 at s1 hL1 ⊢
    -- book.entries()
    refine ⟨_, rfl, b, dx, fs, rfl, s1 _ _ hb, hF.no _ (by decide +kernel) (by decide +kernel) (by decide +kernel) (by decide +kernel), b, firm, PB, EE, rfl, ⟨kept, dx, fs, ws, s1 _ _ hb, hF, s1 _ _ hP, hPg.same s1⟩, hlen, fun H2 p ys s2 np hp2 n2 => ?_⟩
    have npL : p ≠ L := (ne_of_none hL1 np).symm
    refine ⟨p, rfl, ⟨_, SqL.of hp2⟩, for_list (K := K) (a := p) (xs := ys) (fun i σ H' => ∃ v3 v4 v5 zs, σ = [some (.ref b), some (.int m), some (.ref L), v3, v4, v5] ∧ (∀ x o, x ≠ L → H2 x = some o → H' x = some o) ∧ H' L = some (.lst zs) ∧ LAt H1 zs (monthL (mE (EE.take i)) m))
      ⟨none, none, none, [], rfl, fun _ _ _ e => e, s2 _ _ hL1, .nil⟩ (fun i σ H' _ ⟨_, _, _, _, _, e, _⟩ => SqL.of (e _ _ npL hp2)) ?_ ?_⟩
    · rintro i x σ H3 hi ⟨v3, v4, v5, zs, rfl, e3, hL3, a3⟩
      obtain ⟨e, t, l, k, xs, eE, rfl, ht, nl, hl, hA⟩ := PgNew.get n2 hi
      have nlL : l ≠ L := (ne_of_none hL1 nl).symm
      have ntL : t ≠ L := ne_of ht (s2 _ _ hL1) (by intro z; cases z)
      have ht3 := e3 _ _ ntL ht
      have hl3 := e3 _ _ nlL hl
      have lz : zs.length ≤ 10000 := by
        rw [a3.len]
        have h1 := monthL_len (mE (EE.take i)) m
        rw [sizeL_mE] at h1
        have h2 := sizeL_take EE i
        omega
      have lx : xs.length ≤ 10000 := by
        have h2 := sizeL_take EE (i + 1)
        rw [take_succ_get eE, sizeL_snoc] at h2
        rw [hA.len]
        omega
      refine ⟨t, _, rfl, SqT.of ht3, rfl, _, _, rfl, _, _, rfl, _, _, rfl, rfl, ?_⟩
      refine ⟨_, rfl, _, rfl, _, rfl, rfl, _, rfl, ?_⟩
      rw [take_succ_get eE, mE_snoc, monthL_snoc]
      by_cases em : e.1 / 30 = m
      · rw [em, decide_eq_true rfl, if_pos rfl]
        refine iteT ?_
        refine ⟨_, rfl, .inl ⟨rfl, _, SqL.of hL3⟩, _, rfl, L, l, zs, xs, rfl, rfl, hL3, hl3, sz (by omega), ?_⟩
        exact ⟨_, _, _, _, rfl, fun x o nx z => by rw [upd_ne nx]; exact e3 _ _ nx z, upd_same, a3.app hA⟩
      · rw [decide_eq_false fun z => em (V.int.inj z), if_neg em]
        exact iteF ⟨_, _, _, _, rfl, e3, hL3, a3⟩
    · rintro σ H3 ⟨v3, v4, v5, zs, rfl, e3, hL3, a3⟩
      have lp : ys.length = EE.length := Paired.length n2
      rw [lp, List.take_length] at a3
      have s3 : Same H H3 := fun x o z => e3 _ _ (ne_of_none z nL) (s2 _ _ (s1 _ _ z))
      have a3' : LAt H3 zs (monthL (mE EE) m) := At.mono a3 fun x z e => e3 _ _ (ne_of e hL1 (by intro z; cases z)) (s2 _ _ e)
      have lm : (monthL (mE EE) m).length ≤ sizeL EE := by
        have h1 := monthL_len (mE EE) m
        rw [sizeL_mE] at h1
        exact h1
      refine ⟨_, rfl, L, zs, _, rfl, SqL.of hL3, a3', by omega, fun H4 p2 ys2 fs2 s4 np2 hp4 f4 is4 l4 => ?_⟩
      exact q H4 p2 ys2 fs2 (s3.trans s4) (s3.free np2) hp4 f4 is4 (by omega)
end
end K34

/-! spots, lines_upto, figures of a book -/
namespace K34
open PySem PySem.Spec PyProof.Rows L2
/-- a def with one default, None -/
abbrev FunN (K : PySem.W.Frag) (x qual : Str) (st : Stmt) (f : Addr) (fd : FuncData) : Prop := FunD K x qual (defArgs st) (defBody st) (defScope st) [.non] [] f fd
section
variable {P : Program} {w : World} {K : PySem.W.Frag} {mg : Str → Option Value} {base : Heap}
theorem binds_all {x qual : Str} {st : Stmt} {f : Addr} {fd : FuncData} (F : FunN K x qual st f fd)
    (h : ∀ (T : Addr) (kV doc pm : Value) (an : Option Addr) (cdv ct : Value) (us its : List Value), us.length = 2 → its.length = 1 →
      ∃ k, bindArgs (PySem.W.fnOf x qual (defArgs st) (defBody st) (defScope st) (.ref T) kV doc pm an cdv ct) ⟨us, []⟩ = seqItems? (.ref T) >>= k ∧ k (some its.toArray) = pure ((["self", "upto"] : List Str).zip (us ++ its.drop 1))) : Binds K fd ["self", "upto"] [] := by
  obtain ⟨ds, r, b⟩ := FunD.binds1 F (ps := ["self", "upto"]) 2 1 (by simp) rfl h
  cases r
  exact b
theorem bindsSpots {f : Addr} {fd : FuncData} (F : FunN K "spots" "Book.spots" sSpots f fd) : Binds K fd ["self", "upto"] [] :=
  binds_all F fun T kV doc pm an cdv ct us its hu hi => match us, its, hu, hi with | [_, _], [_], _, _ => ⟨_, rfl, rfl⟩
theorem bindsUpto {f : Addr} {fd : FuncData} (F : FunN K "lines_upto" "Book.lines_upto" sUpto f fd) : Binds K fd ["self", "upto"] [] :=
  binds_all F fun T kV doc pm an cdv ct us its hu hi => match us, its, hu, hi with | [_, _], [_], _, _ => ⟨_, rfl, rfl⟩
theorem bindsFigures {f : Addr} {fd : FuncData} (F : FunN K "figures" "Book.figures" sFigures f fd) : Binds K fd ["self", "upto"] [] :=
  binds_all F fun T kV doc pm an cdv ct us its hu hi => match us, its, hu, hi with | [_, _], [_], _, _ => ⟨_, rfl, rfl⟩
theorem ok_spots {f fM cB cK : Addr} {fd fdM : FuncData} (F : FunN K "spots" "Book.spots" sSpots f fd) (FM : Fun K "month_of" "month_of" sMonthOf fM fdM) (bM : Binds K fdM ["day"] []) (gM : mg "month_of" = some (.ref fM)) (mEn : mg "enumerate" = none)
    (T : ∀ kept, Cl K (cOf cB cK kept)) : FnOk P w K mg base CX0 2 f fd ["self", "upto"] (spSpots cB cK) := by
  have GM : FnOk P w K mg base CX0 1 fM fdM ["day"] spMonth := ok_month FM
  refine F.ok scSpots (fun vs H Q E h => ?_) (fun cdv A outer s H vs Q E hr h => ?_)
  · obtain ⟨b, firm, PB, E, m, rfl, _⟩ := h
    rfl
  · obtain ⟨b, firm, PB, EE, m, rfl, hB, hlen, hsz, q⟩ := h
    obtain ⟨kept, dx, fs, ws, hb, hF, hP, hPg⟩ := hB.at_
    have TC := T kept
    generalize cOf cB cK kept = C at hb TC
    refine ⟨_, PSs.nox (pss_cons (ps_set (i := 2) scSpots.nd rfl (.inl rfl) (pe_lst pa_nil))
      (pss_cons (ps_for PassesOwn.never rfl (pi_enum (by rfl) mEn (pa_cons (pe_fld (pv 0) rfl) pa_nil)) (pg_tup rfl (pgs_cons (pg_name (i := 3) scSpots.nd rfl (.inl rfl)) (pgs_cons (pg_name (i := 4) scSpots.nd rfl (.inl rfl)) pgs_nil)))
        (pss_one (ps_if (PW.pt (pw_or (pt_cmp (pc_isN (pv 1)) rfl) (pw_or1 (pt_cmpR op_le (pe_call GM hr (by rfl) gM FM.kp bM .nil pass0 (pa_cons (pe_ix ix_tup (pv 4) pe_int (fun _ _ => rfl)) pa_nil)) (pv 1) (nomark _)))))
          (pss_one (ps_for PassesOwn.never rfl (pi_enum (by rfl) mEn (pa_cons (pe_ix ix_tup (pv 4) pe_int (fun _ _ => rfl)) pa_nil)) (pg_tup rfl (pgs_cons (pg_name (i := 5) scSpots.nd rfl (.inl rfl)) (pgs_cons (pg_name (i := 6) scSpots.nd rfl (.inl rfl)) pgs_nil)))
            (pss_one (ps_expr (pe_bm PySem.F.plainAttrs_list PySem.F.slot_list_append PySem.F.type_list_append mt_append (pv 2) (pa_cons (pe_tup (pa_cons (pe_tup (pa_cons (pe_fld (pv 0) rfl) (pa_cons (pv 3) (pa_cons (pv 5) pa_nil)))) (pa_cons (pv 6) pa_nil))) pa_nil)))))) pss_nil)))
      (pss_one (ps_ret (pv 2))))), ?_⟩
    -- found = []
    refine ⟨Nat.zero_le _, fun L nL => ?_⟩
    have s1 : Same H (upd H L (.lst [])) := same_upd nL
    have hL1 : upd H L (.lst []) L = some (.lst []) := upd_same
    generalize upd H L (.lst []) = H1 at s1 hL1 ⊢
    have nPL : PB ≠ L := ne_of_none hP nL
    have nbL : b ≠ L := ne_of_none hb nL
    refine ⟨_, rfl, b, C, dx, fs, _, rfl, s1 _ _ hb, TC.cl, TC.nP, hF.pages, PB, ws, rfl, SqL.of (s1 _ _ hP), ?_⟩
    refine for_it (walk_enum (K := K) (a := PB) (xs := ws)) (fun i σ H' => ∃ v3 v4 v5 v6 ys xs, σ = [some (.ref b), some (.int m), some (.ref L), v3, v4, v5, v6] ∧ Same H H' ∧ H' L = some (.lst ys) ∧ SpAt H' ys xs ∧ LAt H xs (uptoL (mE (EE.take i)) m))
      ⟨none, none, none, none, [], [], rfl, s1, hL1, .nil, .nil⟩ (fun i σ H' _ ⟨_, _, _, _, _, _, _, e, _⟩ => SqL.of (e _ _ hP)) ?_ ?_
    · rintro i x σ H2 H3 hi ⟨v3, v4, v5, v6, ys, xs, rfl, s2, hL2, sp2, a2⟩ ⟨T0, nx, pg, rfl, nT, rfl, en, ep⟩
      cases en
      obtain ⟨e, t, l, k, lx, eE, rfl, ht, hl, hA⟩ := PgAt.get hPg ep
      have s3 : Same H2 (upd H2 T0 (.tup [V.int (i : Nat), V.ref t])) := same_upd nT
      have hT3 : upd H2 T0 (.tup [V.int (i : Nat), V.ref t]) T0 = some (.tup [V.int (i : Nat), V.ref t]) := upd_same
      generalize upd H2 T0 (.tup [V.int (i : Nat), V.ref t]) = H3 at s3 hT3 ⊢
      have s03 := s2.trans s3
      have hL3 := s3 _ _ hL2
      have sp3 : SpAt H3 ys xs := L2.Paired.mapP sp2 fun v x ⟨t, s, z1, z2⟩ => ⟨t, s, z1, s3 _ _ z2⟩
      have ht3 := s03 _ _ ht
      have hl3 := s03 _ _ hl
      have lxs : xs.length ≤ 10000 := by
        rw [a2.len]
        have h1 := uptoL_len (mE (EE.take i)) m
        rw [sizeL_mE] at h1
        have h2 := sizeL_take EE i
        omega
      have llx : lx.length ≤ 10000 := by
        have h2 := sizeL_take EE (i + 1)
        rw [take_succ_get eE, sizeL_snoc] at h2
        rw [hA.len]
        omega
      refine ⟨T0, _, rfl, SqT.of hT3, rfl, _, _, rfl, _, _, rfl, rfl, ?_⟩
      -- if upto is None or month_of(page[0]) <= upto
      refine ⟨_, rfl, _, rfl, ?_⟩
      rw [show decide (V.int m = V.non) = false from rfl]
      refine iteF ?_
      refine ⟨_, rfl, t, _, 0, _, rfl, rfl, SqT.of ht3, atI_nat (j := 0) rfl, _, rfl, _, rfl, _, _, rfl, rfl, _, rfl, ?_⟩
      rw [take_succ_get eE, mE_snoc, uptoL_snoc]
      by_cases em : e.1 / 30 ≤ m
      · rw [decide_eq_true em, if_pos em]
        refine iteT ?_
        refine ⟨_, rfl, t, _, 2, _, rfl, rfl, SqT.of ht3, atI_nat (j := 2) rfl, l, lx, rfl, SqL.of hl3, ?_⟩
        refine for_it (walk_enum (K := K) (a := l) (xs := lx)) (fun j σ H' => ∃ v5 v6 zs, σ = [some (.ref b), some (.int m), some (.ref L), some (.int (i : Nat)), some (.ref t), v5, v6] ∧ Same H H' ∧ H' L = some (.lst zs) ∧ SpAt H' zs (xs ++ lx.take j))
          ⟨v5, v6, ys, rfl, s03, hL3, by simpa using sp3⟩ (fun j σ H' _ ⟨_, _, _, _, e, _⟩ => SqL.of (e _ _ hl)) ?_ ?_
        · rintro j x σ H4 H5 hj ⟨w5, w6, zs, rfl, s4, hL4, sp4⟩ ⟨T1, nx1, ln, rfl, nT1, rfl, en1, el1⟩
          cases en1
          have s5 : Same H4 (upd H4 T1 (.tup [V.int (j : Nat), ln])) := same_upd nT1
          have hT5 : upd H4 T1 (.tup [V.int (j : Nat), ln]) T1 = some (.tup [V.int (j : Nat), ln]) := upd_same
          generalize upd H4 T1 (.tup [V.int (j : Nat), ln]) = H5 at s5 hT5 ⊢
          have hL5 := s5 _ _ hL4
          have hb5 := s5 _ _ (s4 _ _ hb)
          have sp5 : SpAt H5 zs (xs ++ lx.take j) := L2.Paired.mapP sp4 fun v x ⟨t, s, z1, z2⟩ => ⟨t, s, z1, s5 _ _ z2⟩
          refine ⟨T1, _, rfl, SqT.of hT5, rfl, _, _, rfl, _, _, rfl, rfl, ?_⟩
          refine ⟨_, rfl, .inl ⟨rfl, _, SqL.of hL5⟩, _, rfl, b, C, dx, fs, _, rfl, hb5, TC.cl, TC.nB, hF.book, _, rfl, _, rfl, (by show 3 ≤ sizeLine; decide), fun S nS => ?_⟩
          have s6 : Same H5 (upd H5 S (.tup [V.str firm, V.int (i : Nat), V.int (j : Nat)])) := same_upd nS
          generalize upd H5 S (.tup [V.str firm, V.int (i : Nat), V.int (j : Nat)]) = H6 at s6 ⊢
          refine ⟨_, rfl, (by show 2 ≤ sizeLine; decide), fun U nU => ?_⟩
          have s7 : Same H6 (upd H6 U (.tup [V.ref S, ln])) := same_upd nU
          have hU7 : upd H6 U (.tup [V.ref S, ln]) U = some (.tup [V.ref S, ln]) := upd_same
          generalize upd H6 U (.tup [V.ref S, ln]) = H7 at s7 hU7 ⊢
          have s57 := s6.trans s7
          have hL7 := s57 _ _ hL5
          have lz : zs.length = xs.length + j := by
            have e1 := Paired.length sp5
            rw [List.length_append, List.length_take] at e1
            omega
          refine ⟨L, zs, _, rfl, rfl, hL7, szl (by omega), _, _, _, rfl, ?_, upd_same, ?_⟩
          · exact same_mut (s4.trans (s5.trans s57)) nL
          · rw [take_succ_get el1, ← List.append_assoc]
            refine paired_snoc (L2.Paired.mapP sp5 fun v x ⟨t, s, z1, z2⟩ => ⟨t, s, z1, ?_⟩) ⟨U, S, rfl, ?_⟩
            · have z3 := s57 _ _ z2
              rw [upd_ne (ne_of z3 hL7 (by intro z; cases z))]
              exact z3
            · rw [upd_ne (ne_of hU7 hL7 (by intro z; cases z))]
              exact hU7
        · rintro σ H4 ⟨w5, w6, zs, rfl, s4, hL4, sp4⟩
          rw [List.take_length] at sp4
          exact ⟨_, _, _, _, zs, xs ++ lx, rfl, s4, hL4, sp4, a2.app hA⟩
      · rw [decide_eq_false em, if_neg em]
        exact iteF ⟨_, _, _, _, ys, xs, rfl, s03, hL3, sp3, a2⟩
    · rintro σ H2 ⟨v3, v4, v5, v6, ys, xs, rfl, s2, hL2, sp2, a2⟩
      rw [hPg.len, List.take_length] at a2
      exact ⟨_, rfl, q H2 L ys xs s2 nL hL2 sp2 a2⟩
theorem SpAt.get {H : Hp} {ys xs : List V} {i : Nat} {v : V} (h : SpAt H ys xs) (e : ys[i]? = some v) : ∃ (x : V) (t s : Addr), xs[i]? = some x ∧ v = .ref t ∧ H t = some (.tup [.ref s, x]) := by
  obtain ⟨x, e1, t, s, e2, e3⟩ := paired_get h e
  exact ⟨x, t, s, e1, e2, e3⟩
theorem ok_upto {f fS cB cK : Addr} {fd fdS : FuncData} (F : FunN K "lines_upto" "Book.lines_upto" sUpto f fd) (FS : FunN K "spots" "Book.spots" sSpots fS fdS) (GS : FnOk P w K mg base CX0 2 fS fdS ["self", "upto"] (spSpots cB cK))
    (mS : ∀ kept, Meth K (cOf cB cK kept) "spots" fS) (T : ∀ kept, Cl K (cOf cB cK kept)) : FnOk P w K mg base CX0 3 f fd ["self", "upto"] (spUpto cB cK) := by
  have bS := bindsSpots FS
  refine F.ok scUpto (fun vs H Q E h => ?_) (fun cdv A outer s H vs Q E hr h => ?_)
  · obtain ⟨b, firm, PB, E, m, rfl, _⟩ := h
    rfl
  · obtain ⟨b, firm, PB, EE, m, rfl, hB, hlen, hsz, q⟩ := h
    obtain ⟨kept, dx, fs, ws, hb, hF, hP, hPg⟩ := id hB.at_
    refine ⟨_, PSs.nox (pss_one (ps_ret (pe_lc (own := [("spot", 2), ("line", 3)]) (g := gTup K 2 (gCons (gName 2) (gCons (gName 3) gNil))) (tt := tYes) (te := tVar 3) (by rfl) scUpto.nd
      (pi_list (pe_meth (pv 0) (T kept).cl (mS kept) GS hr bS .nil pass0 (pa_cons (pv 1) pa_nil)))
      (blkOk_by (own := [("spot", 2), ("line", 3)]) (N := ["self", "upto", "spot", "line"]) (sc := defScope sUpto) (by decide +kernel))
      (fun _ _ _ _ _ => pg_tup rfl (pgs_cons (pg_name (i := 2) scUpto.nd rfl (Or.inl rfl)) (pgs_cons (pg_name (i := 3) scUpto.nd rfl (Or.inl rfl)) pgs_nil))) (fun _ _ _ _ _ => pts_nil) (fun _ _ _ _ _ => pv 3)))), ?_⟩
    refine ⟨_, rfl, b, dx, fs, rfl, hb, hF.no _ (by decide +kernel) (by decide +kernel) (by decide +kernel) (by decide +kernel), _, rfl, b, firm, PB, EE, m, rfl, hB, hlen, hsz, fun H1 p ys xs s1 np hp1 sp1 a1 => ?_⟩
    refine ⟨p, rfl, ⟨_, SqL.of hp1⟩, fun D nD => ?_⟩
    have lz : ys.length = xs.length := Paired.length sp1
    have lx : xs.length ≤ 10000 := by
      rw [a1.len]
      have h1 := uptoL_len (mE EE) m
      rw [sizeL_mE] at h1
      omega
    refine lc_list (K := K) (a := p) (xs := ys) (fun i H' => (∀ x o, x ≠ D → H1 x = some o → H' x = some o) ∧ H' D = some (.lst (xs.take i)))
      ⟨fun x o nx e => by rw [upd_ne nx]; exact e, upd_same⟩ (fun i H' _ ⟨e, _⟩ => SqL.of (e _ _ (ne_of_none hp1 nD) hp1)) ?_ ?_
    · rintro i x H2 hi ⟨e2, hD2⟩
      obtain ⟨y, t, s0, ey, rfl, ht⟩ := SpAt.get sp1 hi
      have ht2 := e2 _ _ (ne_of_none ht nD) ht
      refine ⟨t, _, rfl, SqT.of ht2, rfl, _, _, rfl, _, _, rfl, rfl, rfl, iteT (B := True) ?_⟩
      refine ⟨_, rfl, _, hD2, szl ?_, fun x o nx e => ?_, ?_⟩
      · rw [List.length_take]
        omega
      · rw [upd_ne nx]
        exact e2 _ _ nx e
      · rw [upd_same, take_succ_get ey]
    · rintro H2 ⟨e2, hD2⟩
      rw [lz, List.take_length] at hD2
      exact q H2 D xs (fun x o e => e2 _ _ (ne_of_none (s1 _ _ e) nD) (s1 _ _ e)) (s1.free nD) hD2 a1
theorem ok_figures {f fU fF cB cK : Addr} {fd fdU fdF : FuncData} (F : FunN K "figures" "Book.figures" sFigures f fd) (FU : FunN K "lines_upto" "Book.lines_upto" sUpto fU fdU) (GU : FnOk P w K mg base CX0 3 fU fdU ["self", "upto"] (spUpto cB cK))
    (mU : ∀ kept, Meth K (cOf cB cK kept) "lines_upto" fU) (FF : Fun K "figures_of" "figures_of" sFigs fF fdF) (bF : Binds K fdF ["lines"] []) (gF : mg "figures_of" = some (.ref fF)) (mSorted : mg "sorted" = none) (T : ∀ kept, Cl K (cOf cB cK kept)) :
    FnOk P w K mg base CX0 4 f fd ["self", "upto"] (spFigures cB cK) := by
  have bU := bindsUpto FU
  have GF : FnOk P w K mg base CX0 1 fF fdF ["lines"] (spFigs K) := ok_figs FF mSorted
  refine F.ok scFigures (fun vs H Q E h => ?_) (fun cdv A outer s H vs Q E hr h => ?_)
  · obtain ⟨b, firm, PB, E, m, rfl, _⟩ := h
    rfl
  · obtain ⟨b, firm, PB, EE, m, rfl, hB, hlen, hsz, q⟩ := h
    obtain ⟨kept, dx, fs, ws, hb, hF, hP, hPg⟩ := id hB.at_
    have hr1 : Room 1 _ := hr.mono (by decide)
    refine ⟨_, PSs.nox (pss_one (ps_ret (pe_call GF hr1 (by rfl) gF FF.kp bF .nil pass0 (pa_cons (pe_meth (pv 0) (T kept).cl (mU kept) GU hr bU .nil pass0 (pa_cons (pv 1) pa_nil)) pa_nil)))), ?_⟩
    refine ⟨_, rfl, b, dx, fs, rfl, hb, hF.no _ (by decide +kernel) (by decide +kernel) (by decide +kernel) (by decide +kernel), _, rfl, b, firm, PB, EE, m, rfl, hB, hlen, hsz, fun H1 p xs s1 np hp1 a1 => ?_⟩
    have lm : (uptoL (mE EE) m).length ≤ sizeL EE := by
      have h1 := uptoL_len (mE EE) m
      rw [sizeL_mE] at h1
      exact h1
    refine ⟨p, xs, _, rfl, SqL.of hp1, At.same a1 s1, by omega, fun H2 p2 ys fs2 s2 np2 hp2 f2 is2 l2 => ?_⟩
    exact q H2 p2 ys fs2 (s1.trans s2) (s1.free np2) hp2 f2 is2 (by omega)
end
end K34

/-! carried, paper_copied, close -/
namespace K34
open PySem PySem.Spec PyProof.Rows L2
/-- two lists of figures, as lines -/
def flns (f1 f2 : List Fg) : List Ln := (f1 ++ f2).map (Fg.ln "")
def spCarried : Sp := fun vs H Q _ => ∃ (a b : Addr) (xs ys : List V) (f1 f2 : List Fg), vs = [.ref a, .ref b] ∧ H a = some (.lst xs) ∧ H b = some (.lst ys) ∧ FAt H xs f1 ∧ FAt H ys f2 ∧ f1.length + f2.length ≤ 10000 ∧
  ∀ (H' : Hp) (p : Addr) (zs : List V) (fs : List Fg), Same H H' → H p = none → H' p = some (.lst zs) → FAt H' zs fs → IsFigs fs (amtOf (flns f1 f2)) (worOf (flns f1 f2)) → fs.length ≤ f1.length + f2.length → Q (.ref p) H'
def spCopied (K : PySem.W.Frag) : Sp := fun vs H Q _ => ∃ (a fl : Addr) (x y z : V) (ys : List V), vs = [.ref a] ∧ H a = some (.tup [x, y, z, .ref fl]) ∧ H fl = some (.lst ys) ∧
  ∀ (H' : Hp) (p l : Addr), Same H H' → H p = none → H l = none → H' p = some (.tup [x, y, z, .ref l]) → H' l = some (.lst ys) → Q (.ref p) H'
def spClose (cK : Addr) : Sp := fun vs H Q _ => ∃ (b dx : Addr) (firm : Str) (PB RB UB : Addr) (ws rs us : List V) (E : List (Int × List Ln)), vs = [.ref b] ∧ H b = some (.ins cK dx (fK firm PB RB UB)) ∧ H PB = some (.lst ws) ∧ PgAt H ws E ∧
  H RB = some (.lst rs) ∧ H UB = some (.lst us) ∧ RB ≠ UB ∧ rs.length ≤ 1000 ∧ us.length ≤ 1000 ∧ E.length ≤ 1000 ∧ sizeL E ≤ 10000 ∧
  ∀ (H' : Hp) (p l : Addr) (x y z r : V) (ys : List V) (fs : List Fg), (∀ a o, a ≠ RB → a ≠ UB → H a = some o → H' a = some o) → H p = none → H l = none → H' p = some (.tup [x, y, z, .ref l]) → H' l = some (.lst ys) → FAt H' ys fs →
    IsFigs fs (amtOf (uptoL (mE E) (us.length : Nat))) (worOf (uptoL (mE E) (us.length : Nat))) → fs.length ≤ sizeL E → H' RB = some (.lst (rs ++ [r])) → H' UB = some (.lst (us ++ [r])) → Q (.ref p) H'
section
variable {P : Program} {w : World} {K : PySem.W.Frag} {mg : Str → Option Value} {base : Heap}
theorem ok_carried {f fF : Addr} {fd fdF : FuncData} (F : Fun K "carried" "carried" sCarried f fd) (FF : Fun K "figures_of" "figures_of" sFigs fF fdF) (bF : Binds K fdF ["lines"] []) (gF : mg "figures_of" = some (.ref fF)) (mSorted : mg "sorted" = none) :
    FnOk P w K mg base CX0 2 f fd ["figures", "more"] spCarried := by
  have GF : FnOk P w K mg base CX0 1 fF fdF ["lines"] (spFigs K) := ok_figs FF mSorted
  refine F.ok scCarried (fun vs H Q E h => ?_) (fun cdv A outer s H vs Q E hr h => ?_)
  · obtain ⟨a, b, xs, ys, f1, f2, rfl, _⟩ := h
    rfl
  · obtain ⟨a, b, xs, ys, f1, f2, rfl, ha, hb, A1, A2, hl, q⟩ := h
    refine ⟨_, pss_one (ps_ret (pe_call GF hr (by rfl) gF FF.kp bF .nil pass0 (pa_cons (pe_lc (own := [("row", 2)]) (g := gName 2) (tt := tYes) (te := tOp (rCatA K) (tTup (tCons (tC (.str "")) tNil)) (tVar 2)) (by rfl) scCarried.nd (pi_list (pe_op op_cat (pv 0) (pv 1)))
      (blkOk_by (own := [("row", 2)]) (N := ["figures", "more", "row"]) (sc := defScope sCarried) (by decide +kernel)) (fun _ _ _ _ _ => pg_name (i := 2) scCarried.nd rfl (Or.inl rfl)) (fun _ _ _ _ _ => pts_nil)
      (fun _ _ _ _ _ => pe_op op_catA (pe_tup (pa_cons pe_str pa_nil)) (pv 2))) pa_nil))), ?_⟩
    have l1 := A1.len
    have l2 := A2.len
    refine ⟨_, rfl, _, rfl, a, b, xs, ys, rfl, rfl, ha, hb, sz (by omega), fun c nc => ?_⟩
    have s1 : Same H (upd H c (.lst (xs ++ ys))) := same_upd nc
    have hc1 : upd H c (.lst (xs ++ ys)) c = some (.lst (xs ++ ys)) := upd_same
    generalize upd H c (.lst (xs ++ ys)) = H1 at s1 hc1 ⊢
    have A12 : FAt H (xs ++ ys) (f1 ++ f2) := by
      show At H _ ((f1 ++ f2).map Fg.t)
      rw [List.map_append]
      exact At.app A1 A2
    have l12 := A12.len
    refine ⟨c, rfl, ⟨_, SqL.of hc1⟩, fun D nD => ?_⟩
    refine lc_list (K := K) (a := c) (xs := xs ++ ys) (fun i H' => ∃ zs, (∀ x o, x ≠ D → H1 x = some o → H' x = some o) ∧ H' D = some (.lst zs) ∧ LAt H' zs (((f1 ++ f2).take i).map (Fg.ln "")))
      ⟨[], fun x o nx e => by rw [upd_ne nx]; exact e, upd_same, .nil⟩ (fun i H' _ ⟨_, e, _⟩ => SqL.of (e _ _ (ne_of_none hc1 nD) hc1)) ?_ ?_
    · rintro i x H2 hi ⟨zs, e2, hD2, a2⟩
      obtain ⟨r, t, er, rfl, ht⟩ := FAt.get A12 hi
      have ht1 := s1 _ _ ht
      have ht2 := e2 _ _ (ne_of_none ht1 nD) ht1
      refine ⟨rfl, iteT (B := True) ?_⟩
      refine ⟨by show 1 ≤ sizeLine; decide, fun Z nZ => ?_⟩
      have s3 : Same H2 (upd H2 Z (.tup [V.str ""])) := same_upd nZ
      have hZ3 : upd H2 Z (.tup [V.str ""]) Z = some (.tup [V.str ""]) := upd_same
      generalize upd H2 Z (.tup [V.str ""]) = H3 at s3 hZ3 ⊢
      refine ⟨_, rfl, Z, t, _, _, rfl, rfl, SqT.of hZ3, SqT.of (s3 _ _ ht2), (by show 5 ≤ sizeLine; decide), (fun z => by cases z), (fun _ z => by cases z), fun _ _ U nU => ?_⟩
      have s4 : Same H3 (upd H3 U (.tup ([V.str ""] ++ r.t))) := same_upd nU
      have hU4 : upd H3 U (.tup ([V.str ""] ++ r.t)) U = some (.tup (r.ln "").t) := upd_same
      generalize upd H3 U (.tup ([V.str ""] ++ r.t)) = H4 at s4 hU4 ⊢
      have s24 := s3.trans s4
      have hD4 := s24 _ _ hD2
      refine ⟨zs, hD4, szl ?_, zs ++ [.ref U], fun x o nx e => ?_, upd_same, ?_⟩
      · have e1 := a2.len
        rw [List.length_map, List.length_take] at e1
        rw [List.length_append] at e1
        omega
      · rw [upd_ne nx]
        exact s24 _ _ (e2 _ _ nx e)
      · rw [take_succ_get er, List.map_append]
        refine LAt.snoc (At.mono a2 fun x z e => ?_) ?_
        · have e4 := s24 _ _ e
          rw [upd_ne (ne_of e4 hD4 (by intro z; cases z))]
          exact e4
        · rw [upd_ne (ne_of hU4 hD4 (by intro z; cases z))]
          exact hU4
    · rintro H2 ⟨zs, e2, hD2, a2⟩
      rw [l12, List.take_length] at a2
      have s2 : Same H H2 := fun x o e => e2 _ _ (ne_of_none (s1 _ _ e) nD) (s1 _ _ e)
      have ll : (flns f1 f2).length = f1.length + f2.length := by
        unfold flns
        rw [List.length_map, List.length_append]
      refine ⟨D, zs, flns f1 f2, rfl, SqL.of hD2, a2, by omega, fun H3 p ws fs s3 np hp3 f3 is3 l3 => ?_⟩
      exact q H3 p ws fs (s2.trans s3) (s2.free np) hp3 f3 is3 (by omega)
theorem ok_copied {f : Addr} {fd : FuncData} (F : Fun K "paper_copied" "paper_copied" sCopied f fd) (mList : mg "list" = none) : FnOk P w K mg base CX0 1 f fd ["paper"] (spCopied K) := by
  refine F.ok scCopied (fun vs H Q E h => ?_) (fun cdv A outer s H vs Q E hr h => ?_)
  · obtain ⟨a, fl, x, y, z, ys, rfl, _⟩ := h
    rfl
  · obtain ⟨a, fl, x, y, z, ys, rfl, ha, hfl, q⟩ := h
    refine ⟨_, pss_one (ps_ret (pe_tup (pa_cons (pe_ix ix_tup (pv 0) pe_int (fun _ _ => rfl)) (pa_cons (pe_ix ix_tup (pv 0) pe_int (fun _ _ => rfl)) (pa_cons (pe_ix ix_tup (pv 0) pe_int (fun _ _ => rfl))
      (pa_cons (pe_callTy call_list_of (by rfl) mList (by decide +kernel) (pa_cons (pe_ix ix_tup (pv 0) pe_int (fun _ _ => rfl)) pa_nil)) pa_nil)))))), ?_⟩
    refine ⟨_, rfl, a, _, 0, _, rfl, rfl, SqT.of ha, atI_nat (j := 0) rfl, _, rfl, a, _, 1, _, rfl, rfl, SqT.of ha, atI_nat (j := 1) rfl, _, rfl, a, _, 2, _, rfl, rfl, SqT.of ha, atI_nat (j := 2) rfl,
      _, rfl, a, _, 3, _, rfl, rfl, SqT.of ha, atI_nat (j := 3) rfl, fl, ys, rfl, .inl (SqL.of hfl), fun l nl => ⟨by show 4 ≤ sizeLine; decide, fun p np => ?_⟩⟩
    have s1 : Same H (upd H l (.lst ys)) := same_upd nl
    have hl1 : upd H l (.lst ys) l = some (.lst ys) := upd_same
    exact q _ p l (s1.trans (same_upd np)) (s1.free np) nl upd_same (by rw [upd_ne (ne_of_none hl1 np)]; exact hl1)
theorem ok_close {f fG fP cB cK : Addr} {fd fdG fdP : FuncData} (F : Fun K "close" "KeptBook.close" sClose f fd) (FG : FunN K "figures" "Book.figures" sFigures fG fdG) (GG : FnOk P w K mg base CX0 4 fG fdG ["self", "upto"] (spFigures cB cK))
    (mG : ∀ kept, Meth K (cOf cB cK kept) "figures" fG) (FP : Fun K "paper_copied" "paper_copied" sCopied fP fdP) (bP : Binds K fdP ["paper"] []) (gP : mg "paper_copied" = some (.ref fP)) (mLen : mg "len" = none) (mList : mg "list" = none)
    (T : Cl K cK) (nR : NoAttr K cK "records") (nU : NoAttr K cK "upheld") : FnOk P w K mg base CX0 5 f fd ["self"] (spClose cK) := by
  have bG := bindsFigures FG
  have GP : FnOk P w K mg base CX0 1 fP fdP ["paper"] (spCopied K) := ok_copied FP mList
  refine F.ok scClose (fun vs H Q E h => ?_) (fun cdv A outer s H vs Q E hr h => ?_)
  · obtain ⟨b, dx, firm, PB, RB, UB, ws, rs, us, E, rfl, _⟩ := h
    rfl
  · obtain ⟨b, dx, firm, PB, RB, UB, ws, rs, us, EE, rfl, hb, hP, hPg, hR, hU, nRU, lr, lu, hlen, hsz, q⟩ := h
    have hr1 : Room 1 _ := hr.mono (by decide)
    have hF := fK_is firm PB RB UB
    refine ⟨_, pss_cons (ps_set (i := 1) scClose.nd rfl (.inl rfl) (pe_callB call_len_seq (by rfl) mLen PySem.boot_len (pa_cons (pe_fld (pv 0) rfl) pa_nil)))
      (pss_cons (ps_set (i := 2) scClose.nd rfl (.inl rfl) (pe_tup (pa_cons (pe_fld (pv 0) rfl) (pa_cons (pv 1) (pa_cons (pe_op op_add (pe_callB call_len_seq (by rfl) mLen PySem.boot_len (pa_cons (pe_fld (pv 0) rfl) pa_nil)) pe_int)
        (pa_cons (pe_meth (pv 0) T.cl (mG true) GG hr bG .nil pass0 (pa_cons (pv 1) pa_nil)) pa_nil))))))
      (pss_cons (ps_expr (pe_bm PySem.F.plainAttrs_list PySem.F.slot_list_append PySem.F.type_list_append mt_append (pe_fld (pv 0) rfl) (pa_cons (pv 2) pa_nil)))
      (pss_cons (ps_expr (pe_bm PySem.F.plainAttrs_list PySem.F.slot_list_append PySem.F.type_list_append mt_append (pe_fld (pv 0) rfl) (pa_cons (pv 2) pa_nil)))
      (pss_one (ps_ret (pe_call GP hr1 (by rfl) gP FP.kp bP .nil pass0 (pa_cons (pv 2) pa_nil))))))), ?_⟩
    refine ⟨_, rfl, b, cK, dx, _, _, rfl, hb, T.cl, nU, fK_upheld firm PB RB UB, UB, us, rfl, .inl (SqL.of hU), ?_⟩
    refine ⟨_, rfl, b, cK, dx, _, _, rfl, hb, T.cl, T.nB, hF.book, _, rfl, _, rfl, b, cK, dx, _, _, rfl, hb, T.cl, nR, fK_records firm PB RB UB, RB, rs, rfl, .inl (SqL.of hR), _, _, rfl, rfl, ?_⟩
    refine ⟨_, rfl, b, dx, _, rfl, hb, hF.no _ (by decide +kernel) (by decide +kernel) (by decide +kernel) (by decide +kernel), _, rfl, b, firm, PB, EE, _, rfl, ⟨true, dx, _, ws, hb, hF, hP, hPg⟩, hlen, hsz, fun H1 fl ys fs s1 nfl hfl1 f1 is1 l1 => ?_⟩
    refine ⟨by show 4 ≤ sizeLine; decide, fun t nt => ?_⟩
    have s2 : Same H1 (upd H1 t (.tup [V.str firm, V.int (us.length : Nat), V.int ((rs.length : Nat) + 1), V.ref fl])) := same_upd nt
    have ht2 : upd H1 t (.tup [V.str firm, V.int (us.length : Nat), V.int ((rs.length : Nat) + 1), V.ref fl]) t = some (.tup [V.str firm, V.int (us.length : Nat), V.int ((rs.length : Nat) + 1), V.ref fl]) := upd_same
    generalize upd H1 t (.tup [V.str firm, V.int (us.length : Nat), V.int ((rs.length : Nat) + 1), V.ref fl]) = H2 at s2 ht2 ⊢
    have s02 := s1.trans s2
    have hb2 := s02 _ _ hb
    have hR2 := s02 _ _ hR
    have hU2 := s02 _ _ hU
    have hfl2 := s2 _ _ hfl1
    have nbR : b ≠ RB := ne_of hb2 hR2 (by intro z; cases z)
    have nbU : b ≠ UB := ne_of hb2 hU2 (by intro z; cases z)
    have ntR : t ≠ RB := ne_of ht2 hR2 (by intro z; cases z)
    have ntU : t ≠ UB := ne_of ht2 hU2 (by intro z; cases z)
    have nfR : fl ≠ RB := fun z => by
      rw [z, hR] at nfl
      cases nfl
    have nfU : fl ≠ UB := fun z => by
      rw [z, hU] at nfl
      cases nfl
    -- self.records.append(paper)
    refine ⟨_, rfl, b, cK, dx, _, _, rfl, hb2, T.cl, nR, fK_records firm PB RB UB, .inl ⟨rfl, _, SqL.of hR2⟩, _, rfl, RB, rs, _, rfl, rfl, hR2, szl (by omega), ?_⟩
    have hb3 : upd H2 RB (.lst (rs ++ [V.ref t])) b = some (.ins cK dx (fK firm PB RB UB)) := by
      rw [upd_ne nbR]
      exact hb2
    have hU3 : upd H2 RB (.lst (rs ++ [V.ref t])) UB = some (.lst us) := by
      rw [upd_ne nRU.symm]
      exact hU2
    -- self.upheld.append(paper)
    refine ⟨_, rfl, b, cK, dx, _, _, rfl, hb3, T.cl, nU, fK_upheld firm PB RB UB, .inl ⟨rfl, _, SqL.of hU3⟩, _, rfl, UB, us, _, rfl, rfl, hU3, szl (by omega), ?_⟩
    have k4 : ∀ a o, a ≠ RB → a ≠ UB → H2 a = some o → upd (upd H2 RB (.lst (rs ++ [V.ref t]))) UB (.lst (us ++ [V.ref t])) a = some o := fun a o n1 n2 e => by
      rw [upd_ne n2, upd_ne n1]
      exact e
    have hR4 : upd (upd H2 RB (.lst (rs ++ [V.ref t]))) UB (.lst (us ++ [V.ref t])) RB = some (.lst (rs ++ [V.ref t])) := by
      rw [upd_ne nRU, upd_same]
    have hU4 : upd (upd H2 RB (.lst (rs ++ [V.ref t]))) UB (.lst (us ++ [V.ref t])) UB = some (.lst (us ++ [V.ref t])) := upd_same
    generalize upd (upd H2 RB (.lst (rs ++ [V.ref t]))) UB (.lst (us ++ [V.ref t])) = H4 at k4 hR4 hU4 ⊢
    -- return paper_copied(paper)
    refine ⟨_, rfl, t, fl, _, _, _, ys, rfl, k4 _ _ ntR ntU ht2, k4 _ _ nfR nfU hfl2, fun H5 p l s5 np nl hp5 hl5 => ?_⟩
    have free4 : ∀ a, H4 a = none → H a = none := fun a e => by
      cases z : H a with
      | none => rfl
      | some o =>
        by_cases n1 : a = RB
        · rw [n1, hR4] at e
          cases e
        · by_cases n2 : a = UB
          · rw [n2, hU4] at e
            cases e
          · rw [k4 _ _ n1 n2 (s02 _ _ z)] at e
            cases e
    refine q H5 p l _ _ _ (.ref t) ys fs (fun a o n1 n2 e => s5 _ _ (k4 _ _ n1 n2 (s02 _ _ e))) (free4 p np) (free4 l nl) hp5 hl5 (At.mono f1 fun a z e => ?_) is1 l1 (s5 _ _ hR4) (s5 _ _ hU4)
    have e2 := s2 _ _ e
    exact s5 _ _ (k4 _ _ (ne_of e2 hR2 (by intro z; cases z)) (ne_of e2 hU2 (by intro z; cases z)) e2)
end
end K34

/-! the law's comparisons: whole, same, carried; the lines of a month -/
namespace K34
open PySem PySem.Spec PyProof.Rows L2
def encF (r : Fg) : PyData := .tuple [.str r.acc, .str r.coin, .int r.amt, .int r.wor]
theorem plain_encF : ∀ fs : List Fg, PyData.plainAll (fs.map encF) = true
  | [] => by simp [PyData.plainAll]
  | r :: fs => by
    show PyData.plainAll (encF r :: fs.map encF) = true
    unfold encF
    simp [PyData.plainAll, PyData.plain]
    exact plain_encF fs
theorem plainL_encF (fs : List Fg) : (PyData.list (fs.map encF)).plain = true := by
  simp only [PyData.plain]
  exact plain_encF fs
theorem depth_encF : ∀ fs : List Fg, PyData.depthAll (fs.map encF) ≤ 1
  | [] => by simp [PyData.depthAll]
  | r :: fs => by
    show PyData.depthAll (encF r :: fs.map encF) ≤ 1
    have h := depth_encF fs
    unfold encF at h ⊢
    simp [PyData.depthAll, PyData.depth]
    exact Nat.max_le.mpr ⟨Nat.le_refl _, h⟩
theorem depthL_encF (fs : List Fg) : (PyData.list (fs.map encF)).depth ≤ 60 := by
  have h := depth_encF fs
  simp only [PyData.depth]
  omega
theorem dp_encF {K : PySem.W.Frag} {H : Hp} : ∀ {xs : List V} {fs : List Fg}, FAt H xs fs → DpAll K H xs (fs.map encF)
  | _, [], h => by
    cases h
    exact .nil
  | _, r :: fs, h => by
    cases h with
    | cons h1 h2 =>
      obtain ⟨a, rfl, e⟩ := h1
      exact .cons (.tup (SqT.of e) (.cons (.str _) (.cons (.str _) (.cons (.int _) (.cons (.int _) .nil))))) (dp_encF h2)
theorem dpL {K : PySem.W.Frag} {H : Hp} {a : Addr} {xs : List V} {fs : List Fg} (h : H a = some (.lst xs)) (f : FAt H xs fs) : Dp K H (.ref a) (.list (fs.map encF)) := .lst (SqL.of h) (dp_encF f)
theorem eqv_encF (fs : List Fg) : PyData.eqv (.list (fs.map encF)) (.list (fs.map encF)) = true := SeqAt.eqv_refl_plain _ (plainL_encF fs)
def spWhole : Sp := fun vs H Q _ => ∃ n : Int, vs = [.int n] ∧ Q (.bl true) H
def spSame : Sp := fun vs H Q _ => ∃ (a b : Addr) (xs ys : List V) (fs : List Fg), vs = [.ref a, .ref b] ∧ H a = some (.lst xs) ∧ H b = some (.lst ys) ∧ FAt H xs fs ∧ FAt H ys fs ∧ Q (.bl true) H
def spLCarried : Sp := fun vs H Q _ => ∃ (a b d : Addr) (xs ys zs : List V) (f1 f2 f3 : List Fg), vs = [.ref a, .ref b, .ref d] ∧ H a = some (.lst xs) ∧ H b = some (.lst ys) ∧ H d = some (.lst zs) ∧ FAt H xs f1 ∧ FAt H ys f2 ∧ FAt H zs f3 ∧
  IsFigs f3 (amtOf (flns f1 f2)) (worOf (flns f1 f2)) ∧ f1.length + f2.length ≤ 10000 ∧ ∀ H', Same H H' → Q (.bl true) H'
/-- rows: (month, page) each -/
def RwAt (H : Hp) : List V → List (Int × List Ln) → Prop := Paired fun v e => ∃ (t l : Addr) (xs : List V), v = .ref t ∧ H t = some (.tup [.int e.1, .ref l]) ∧ H l = some (.lst xs) ∧ LAt H xs e.2
theorem RwAt.get {H : Hp} {ws : List V} {E : List (Int × List Ln)} {i : Nat} {v : V} (h : RwAt H ws E) (e : ws[i]? = some v) :
    ∃ (e : Int × List Ln) (t l : Addr) (xs : List V), E[i]? = some e ∧ v = .ref t ∧ H t = some (.tup [.int e.1, .ref l]) ∧ H l = some (.lst xs) ∧ LAt H xs e.2 := by
  obtain ⟨e, e1, t, l, xs, e2, e3, e4, e5⟩ := paired_get h e
  exact ⟨e, t, l, xs, e1, e2, e3, e4, e5⟩
def spLMonth : Sp := fun vs H Q _ => ∃ (r : Addr) (ws : List V) (R : List (Int × List Ln)) (m : Int), vs = [.ref r, .int m] ∧ H r = some (.lst ws) ∧ RwAt H ws R ∧ sizeL R ≤ 10000 ∧
  ∀ (H' : Hp) (p : Addr) (xs : List V), Same H H' → H p = none → H' p = some (.lst xs) → LAt H xs (monthL R m) → Q (.ref p) H'
section
variable {P : Program} {w : World} {K : PySem.W.Frag} {mg : Str → Option Value} {base : Heap}
theorem ok_whole {f : Addr} {fd : FuncData} (F : Fun K "_law_whole" "_law_whole" sWhole f fd) (mIsi : mg "isinstance" = none) (mInt : mg "int" = none) (mBool : mg "bool" = none) : FnOk P w K mg base CX0 1 f fd ["_law_found"] spWhole := by
  refine F.ok scWhole (fun vs H Q E h => ?_) (fun cdv A outer s H vs Q E hr h => ?_)
  · obtain ⟨n, rfl, _⟩ := h
    rfl
  · obtain ⟨n, rfl, q⟩ := h
    refine ⟨_, pss_one (ps_ret (pe_and (pe_callB call_isi (by rfl) mIsi (by decide +kernel) (pa_cons (pv 0) (pa_cons (pe_bltn (v := .ty "int") (by rfl) mInt PyProof.Rows.boot_int rfl) pa_nil)))
      (pe_one (pe_not (pe_callB call_isi (by rfl) mIsi (by decide +kernel) (pa_cons (pv 0) (pa_cons (pe_bltn (v := .ty "bool") (by rfl) mBool PyProof.Rows.boot_bool rfl) pa_nil))))))), ?_⟩
    refine ⟨_, rfl, .int n, .ty "int", .type "int", .type "int", true, rfl, .ty _, .base (.int n), kit_ty (by decide +kernel), true, rfl, iteT ?_⟩
    exact ⟨_, rfl, .int n, .ty "bool", .type "int", .type "bool", false, rfl, .ty _, .base (.int n), kit_ty (by decide +kernel), false, rfl, q⟩
theorem ok_same {f fW : Addr} {fd fdW : FuncData} (F : Fun K "_law_same" "_law_same" sSame f fd) (FW : Fun K "_law_whole" "_law_whole" sWhole fW fdW) (bW : Binds K fdW ["_law_found"] []) (gW : mg "_law_whole" = some (.ref fW))
    (mIsi : mg "isinstance" = none) (mInt : mg "int" = none) (mBool : mg "bool" = none) (mList : mg "list" = none) (mTup : mg "tuple" = none) (mLen : mg "len" = none) : FnOk P w K mg base CX0 2 f fd ["_law_found", "_law_due"] spSame := by
  have GW : FnOk P w K mg base CX0 1 fW fdW ["_law_found"] spWhole := ok_whole FW mIsi mInt mBool
  refine F.ok scSame (fun vs H Q E h => ?_) (fun cdv A outer s H vs Q E hr h => ?_)
  · obtain ⟨a, b, xs, ys, fs, rfl, _⟩ := h
    rfl
  · obtain ⟨a, b, xs, ys, fs, rfl, ha, hb, fa, fb, q⟩ := h
    refine ⟨_, pss_cons (ps_if (PW.pt (pw_or (pt_not (pt_val (pe_callB call_isi (by rfl) mIsi (by decide +kernel) (pa_cons (pv 0) (pa_cons (pe_bltn (v := .ty "list") (by rfl) mList PyProof.Rows.boot_list rfl) pa_nil)))))
        (pw_or1 (pt_cmpR op_ne (pe_callB call_len_seq (by rfl) mLen PySem.boot_len (pa_cons (pv 0) pa_nil)) (pe_callB call_len_seq (by rfl) mLen PySem.boot_len (pa_cons (pv 1) pa_nil)) (nomark _))))) (pss_one ps_never) pss_nil)
      (pss_cons (ps_for PassesOwn.never rfl (pi_list (pv 0)) (pg_name (i := 2) scSame.nd rfl (.inl rfl))
        (pss_one (ps_if (PW.pt (pw_or (pt_not (pt_val (pe_callB call_isi (by rfl) mIsi (by decide +kernel) (pa_cons (pv 2) (pa_cons (pe_bltn (v := .ty "tuple") (by rfl) mTup PyProof.Rows.boot_tuple rfl) pa_nil)))))
          (pw_or (pt_cmpR op_ne (pe_callB call_len_seq (by rfl) mLen PySem.boot_len (pa_cons (pv 2) pa_nil)) pe_int (nomark _))
          (pw_or (pt_not (pt_val (pe_call GW hr (by rfl) gW FW.kp bW .nil pass0 (pa_cons (pe_ix ix_tup (pv 2) pe_int (fun _ _ => rfl)) pa_nil))))
          (pw_or1 (pt_not (pt_val (pe_call GW hr (by rfl) gW FW.kp bW .nil pass0 (pa_cons (pe_ix ix_tup (pv 2) pe_int (fun _ _ => rfl)) pa_nil))))))))) (pss_one ps_never) pss_nil)))
      (pss_one (ps_ret (pe_cmpR (op_eqP hr.units) (pv 0) (pv 1) (nomark _))))), ?_⟩
    have la := fa.len
    have lb := fb.len
    refine ⟨_, rfl, .ref a, .ty "list", .type "list", .type "list", true, rfl, .ty _, .base (.lst ha), kit_ty (by decide +kernel), true, rfl, iteF ?_⟩
    refine ⟨_, rfl, a, _, rfl, .inl (SqL.of ha), _, rfl, b, _, rfl, .inl (SqL.of hb), rfl, _, rfl, ?_⟩
    rw [la, lb, decide_eq_true rfl]
    refine iteF ?_
    refine ⟨_, rfl, a, rfl, ⟨xs, SqL.of ha⟩, for_list (K := K) (a := a) (xs := xs) (fun i σ H' => ∃ v2, σ = [some (.ref a), some (.ref b), v2] ∧ H' = H) ⟨none, rfl, rfl⟩ (fun i σ H' _ ⟨_, _, e⟩ => by rw [e]; exact SqL.of ha) ?_ ?_⟩
    · rintro i x σ H1 hi ⟨v2, rfl, rfl⟩
      obtain ⟨r, t, er, rfl, ht⟩ := FAt.get fa hi
      refine ⟨_, rfl, .ref t, .ty "tuple", .type "tuple", .type "tuple", true, rfl, .ty _, .base (.tup ht), kit_ty (by decide +kernel), true, rfl, iteF ?_⟩
      refine ⟨_, rfl, t, _, rfl, .inr (SqT.of ht), rfl, _, rfl, iteF ?_⟩
      refine ⟨_, rfl, t, _, 2, _, rfl, rfl, SqT.of ht, atI_nat (j := 2) rfl, r.amt, rfl, true, rfl, iteF ?_⟩
      refine ⟨_, rfl, t, _, 3, _, rfl, rfl, SqT.of ht, atI_nat (j := 3) rfl, r.wor, rfl, true, rfl, iteF ?_⟩
      exact ⟨_, rfl, rfl⟩
    · rintro σ H1 ⟨v2, rfl, rfl⟩
      refine ⟨_, rfl, _, rfl, .list (fs.map encF), .list (fs.map encF), dpL ha fa, dpL hb fb, plainL_encF fs, plainL_encF fs, depthL_encF fs, ?_⟩
      rw [eqv_encF]
      exact q
theorem ok_lcarried {f fC fS fF fW : Addr} {fd fdC fdS fdF fdW : FuncData} (F : Fun K "_law_carried" "_law_carried" sLCarried f fd) (FC : Fun K "carried" "carried" sCarried fC fdC) (bC : Binds K fdC ["figures", "more"] []) (gC : mg "carried" = some (.ref fC))
    (FF : Fun K "figures_of" "figures_of" sFigs fF fdF) (bF : Binds K fdF ["lines"] []) (gF : mg "figures_of" = some (.ref fF)) (mSorted : mg "sorted" = none)
    (FS : Fun K "_law_same" "_law_same" sSame fS fdS) (bS : Binds K fdS ["_law_found", "_law_due"] []) (gS : mg "_law_same" = some (.ref fS)) (FW : Fun K "_law_whole" "_law_whole" sWhole fW fdW) (bW : Binds K fdW ["_law_found"] []) (gW : mg "_law_whole" = some (.ref fW))
    (mIsi : mg "isinstance" = none) (mInt : mg "int" = none) (mBool : mg "bool" = none) (mList : mg "list" = none) (mTup : mg "tuple" = none) (mLen : mg "len" = none) : FnOk P w K mg base CX0 3 f fd ["_law_one", "_law_other", "_law_due"] spLCarried := by
  have GC : FnOk P w K mg base CX0 2 fC fdC ["figures", "more"] spCarried := ok_carried FC FF bF gF mSorted
  have GS : FnOk P w K mg base CX0 2 fS fdS ["_law_found", "_law_due"] spSame := ok_same FS FW bW gW mIsi mInt mBool mList mTup mLen
  refine F.ok scLCarried (fun vs H Q E h => ?_) (fun cdv A outer s H vs Q E hr h => ?_)
  · obtain ⟨a, b, d, xs, ys, zs, f1, f2, f3, rfl, _⟩ := h
    rfl
  · obtain ⟨a, b, d, xs, ys, zs, f1, f2, f3, rfl, ha, hb, hd, A1, A2, A3, I3, hl, q⟩ := h
    refine ⟨_, pss_cons (ps_set (i := 3) scLCarried.nd rfl (.inl rfl) (pe_lst (pa_cons (pe_callTy call_list_of (by rfl) mList (by decide +kernel) (pa_cons (pv 0) pa_nil)) (pa_cons (pe_callTy call_list_of (by rfl) mList (by decide +kernel) (pa_cons (pv 1) pa_nil)) pa_nil))))
      (pss_cons (ps_set (i := 4) scLCarried.nd rfl (.inl rfl) (pe_call GC hr (by rfl) gC FC.kp bC .nil pass0 (pa_cons (pe_ix ix_list (pv 3) pe_int (fun _ _ => rfl)) (pa_cons (pe_ix ix_list (pv 3) pe_int (fun _ _ => rfl)) pa_nil))))
      (pss_cons (ps_if (pt_not (pt_val (pe_call GS hr (by rfl) gS FS.kp bS .nil pass0 (pa_cons (pv 4) (pa_cons (pv 2) pa_nil))))) (pss_one ps_never) pss_nil)
      (pss_cons (ps_expr (pe_bm PySem.F.plainAttrs_list PySem.F.slot_list_append PySem.F.type_list_append mt_append (pv 4) (pa_cons (pe_tup (pa_cons pe_str (pa_cons pe_str (pa_cons pe_int (pa_cons pe_int pa_nil))))) pa_nil)))
      (pss_one (ps_ret (pe_and (pe_cmpR (op_eqP hr.units) (pe_ix ix_list (pv 3) pe_int (fun _ _ => rfl)) (pv 0) (nomark _)) (pe_one (pe_cmpR (op_eqP hr.units) (pe_ix ix_list (pv 3) pe_int (fun _ _ => rfl)) (pv 1) (nomark _))))))))), ?_⟩
    have l1 := A1.len
    have l2 := A2.len
    -- handed = [list(one), list(other)]
    refine ⟨_, rfl, a, xs, rfl, .inl (SqL.of ha), fun c1 n1 => ?_⟩
    have s1 : Same H (upd H c1 (.lst xs)) := same_upd n1
    have h1 : upd H c1 (.lst xs) c1 = some (.lst xs) := upd_same
    generalize upd H c1 (.lst xs) = H1 at s1 h1 ⊢
    refine ⟨_, rfl, b, ys, rfl, .inl (SqL.of (s1 _ _ hb)), fun c2 n2 => ?_⟩
    have s2 : Same H1 (upd H1 c2 (.lst ys)) := same_upd n2
    have h2 : upd H1 c2 (.lst ys) c2 = some (.lst ys) := upd_same
    generalize upd H1 c2 (.lst ys) = H2 at s2 h2 ⊢
    refine ⟨(by show 2 ≤ sizeLine; decide), fun c3 n3 => ?_⟩
    have s3 : Same H2 (upd H2 c3 (.lst [V.ref c1, V.ref c2])) := same_upd n3
    have h3 : upd H2 c3 (.lst [V.ref c1, V.ref c2]) c3 = some (.lst [V.ref c1, V.ref c2]) := upd_same
    generalize upd H2 c3 (.lst [V.ref c1, V.ref c2]) = H3 at s3 h3 ⊢
    have s03 : Same H H3 := (s1.trans s2).trans s3
    have h13 := s3 _ _ (s2 _ _ h1)
    have h23 := s3 _ _ h2
    -- found = carried(handed[0], handed[1])
    refine ⟨_, rfl, c3, _, 0, .ref c1, rfl, rfl, SqL.of h3, atI_nat (j := 0) rfl, _, rfl, c3, _, 1, .ref c2, rfl, rfl, SqL.of h3, atI_nat (j := 1) rfl, c1, c2, xs, ys, f1, f2, rfl, h13, h23, At.same A1 s03, At.same A2 s03, hl, fun H4 p ws fs s4 np hp4 f4 is4 l4 => ?_⟩
    have ef : fs = f3 := is4.uniq I3 (fun _ _ => rfl) (fun _ _ => rfl)
    subst ef
    have s04 := s03.trans s4
    -- _law_same(found, due)
    refine ⟨_, rfl, _, rfl, p, d, ws, zs, fs, rfl, hp4, s04 _ _ hd, f4, At.same A3 s04, true, rfl, iteF ?_⟩
    -- found.append(("z", "z", 1, 1))
    refine ⟨_, rfl, .inl ⟨rfl, _, SqL.of hp4⟩, (by show 4 ≤ sizeLine; decide), fun t nt => ?_⟩
    have s5 : Same H4 (upd H4 t (.tup [V.str (PySem.Str.ofString "z"), V.str (PySem.Str.ofString "z"), V.int 1, V.int 1])) := same_upd nt
    generalize upd H4 t (.tup [V.str (PySem.Str.ofString "z"), V.str (PySem.Str.ofString "z"), V.int 1, V.int 1]) = H5 at s5 ⊢
    have hp5 := s5 _ _ hp4
    have lw := f4.len
    refine ⟨p, ws, _, rfl, rfl, hp5, szl (by omega), ?_⟩
    have s6 : Same H3 (upd H5 p (.lst (ws ++ [V.ref t]))) := same_mut (s4.trans s5) np
    generalize upd H5 p (.lst (ws ++ [V.ref t])) = H6 at s6 ⊢
    have s06 := s03.trans s6
    refine ⟨_, rfl, c3, _, 0, .ref c1, rfl, rfl, SqL.of (s6 _ _ h3), atI_nat (j := 0) rfl, _, rfl, .list (f1.map encF), .list (f1.map encF), dpL (s6 _ _ h13) (At.same A1 s06), dpL (s06 _ _ ha) (At.same A1 s06), plainL_encF f1, plainL_encF f1, depthL_encF f1, true, ?_, iteT ?_⟩
    · rw [eqv_encF]
    refine ⟨_, rfl, c3, _, 1, .ref c2, rfl, rfl, SqL.of (s6 _ _ h3), atI_nat (j := 1) rfl, _, rfl, .list (f2.map encF), .list (f2.map encF), dpL (s6 _ _ h23) (At.same A2 s06), dpL (s06 _ _ hb) (At.same A2 s06), plainL_encF f2, plainL_encF f2, depthL_encF f2, ?_⟩
    rw [eqv_encF]
    exact q H6 s06
theorem ok_lmonth {f : Addr} {fd : FuncData} (F : Fun K "_law_month" "_law_month" sLMonth f fd) : FnOk P w K mg base CX0 1 f fd ["_law_rows", "_law_month_here"] spLMonth := by
  refine F.ok scLMonth (fun vs H Q E h => ?_) (fun cdv A outer s H vs Q E hr h => ?_)
  · obtain ⟨r, ws, R, m, rfl, _⟩ := h
    rfl
  · obtain ⟨r, ws, R, m, rfl, hrw, hR, hsz, q⟩ := h
    refine ⟨_, pss_cons (ps_set (i := 2) scLMonth.nd rfl (.inl rfl) (pe_lst pa_nil))
      (pss_cons (ps_for PassesOwn.never rfl (pi_list (pv 0)) (pg_tup rfl (pgs_cons (pg_name (i := 3) scLMonth.nd rfl (.inl rfl)) (pgs_cons (pg_name (i := 4) scLMonth.nd rfl (.inl rfl)) pgs_nil)))
        (pss_one (ps_if (pt_cmpR op_eq (pv 3) (pv 1) (nomark _)) (pss_one (ps_set (i := 2) scLMonth.nd rfl (.inl rfl) (pe_op op_cat (pv 2) (pv 4)))) pss_nil)))
      (pss_one (ps_ret (pv 2)))), ?_⟩
    refine ⟨Nat.zero_le _, fun L nL => ?_⟩
    refine ⟨_, rfl, r, rfl, ⟨ws, SqL.of (same_upd nL _ _ hrw)⟩, for_list (K := K) (a := r) (xs := ws) (fun i σ H' => ∃ (v3 v4 : Option V) (c : Addr) (xs : List V), σ = [some (.ref r), some (.int m), some (.ref c), v3, v4] ∧ Same H H' ∧ H c = none ∧ H' c = some (.lst xs) ∧ LAt H xs (monthL (R.take i) m))
      ⟨none, none, L, [], rfl, same_upd nL, nL, upd_same, .nil⟩ (fun i σ H' _ ⟨_, _, _, _, _, e, _⟩ => SqL.of (e _ _ hrw)) ?_ ?_⟩
    · rintro i x σ H1 hi ⟨v3, v4, c, xs, rfl, s1, nc, hc, a1⟩
      obtain ⟨e, t, l, lx, eR, rfl, ht, hl, hA⟩ := RwAt.get hR hi
      have lxs : xs.length ≤ 10000 := by
        rw [a1.len]
        have h1 := monthL_len (R.take i) m
        have h2 := sizeL_take R i
        omega
      have llx : lx.length ≤ 10000 := by
        have h2 := sizeL_take R (i + 1)
        rw [take_succ_get eR, sizeL_snoc] at h2
        rw [hA.len]
        omega
      refine ⟨t, _, rfl, SqT.of (s1 _ _ ht), rfl, _, _, rfl, _, _, rfl, rfl, ?_⟩
      refine ⟨_, rfl, _, rfl, rfl, _, rfl, ?_⟩
      rw [take_succ_get eR, monthL_snoc]
      by_cases em : e.1 = m
      · rw [em, decide_eq_true rfl, if_pos rfl]
        refine iteT ?_
        refine ⟨_, rfl, _, rfl, c, l, xs, lx, rfl, rfl, hc, s1 _ _ hl, sz (by omega), fun c2 nc2 => ?_⟩
        exact ⟨_, _, c2, _, rfl, s1.trans (same_upd nc2), s1.free nc2, upd_same, a1.app hA⟩
      · rw [decide_eq_false fun z => em (V.int.inj z), if_neg em]
        exact iteF ⟨_, _, c, xs, rfl, s1, nc, hc, a1⟩
    · rintro σ H1 ⟨v3, v4, c, xs, rfl, s1, nc, hc, a1⟩
      have lw : ws.length = R.length := Paired.length hR
      rw [lw, List.take_length] at a1
      exact ⟨_, rfl, q H1 c xs s1 nc hc a1⟩
end
end K34

/-! the law's draws: cells, names, amounts, lines -/
namespace K34
open PySem PySem.Spec PyProof.Rows L2
theorem atI_ex {α : Type} {xs : List α} {i : Int} (h0 : 0 ≤ i) (h1 : i < xs.length) : ∃ v, v ∈ xs ∧ atI xs i = some v := by
  obtain ⟨j, rfl⟩ : ∃ j : Nat, i = (j : Int) := ⟨i.toNat, by omega⟩
  have hj : j < xs.length := by omega
  exact ⟨xs[j], List.getElem_mem hj, atI_nat (List.getElem?_eq_getElem hj)⟩
theorem len_app (a b : Str) : (a ++ b).length = a.length + b.length := by
  show (a.cps ++ b.cps).size = _
  rw [Array.size_append]
  rfl
def spCell (K : PySem.W.Frag) : Sp := fun vs H Q _ => ∃ (a : Addr) (ns : List Int) (k : Nat), vs = [.ref a, .int (k : Int)] ∧ SqL K H a (ns.map V.int) ∧ ∀ n : Int, Q (.int n) H
def spAmount : Sp := fun vs H Q _ => ∃ n : Int, vs = [.int n] ∧ ∀ m : Int, Q (.int m) H
def spNames : Sp := fun vs H Q _ => ∃ n : Int, vs = [.int n] ∧ ∀ (H' : Hp) (p : Addr) (a b c : Str), Same H H' → H p = none → H' p = some (.lst [.str a, .str b, .str c]) → a.length ≤ 1000 → b.length ≤ 1000 → c.length ≤ 1000 → Q (.ref p) H'
def spLines : Sp := fun vs H Q _ => ∃ (p : Addr) (a b c : Str) (x y : Int), vs = [.ref p, .int x, .int y] ∧ H p = some (.lst [.str a, .str b, .str c]) ∧ b.length ≤ 1000 ∧
  ∀ (H' : Hp) (q : Addr) (xs : List V) (ls : List Ln), Same H H' → H q = none → H' q = some (.lst xs) → LAt H' xs ls → Bal a ls → ls.length ≤ 4 → Q (.ref q) H'
section
variable {P : Program} {w : World} {K : PySem.W.Frag} {mg : Str → Option Value} {base : Heap}
theorem ok_cell {f : Addr} {fd : FuncData} (F : Fun K "_law_cell" "_law_cell" sCell f fd) (mLen : mg "len" = none) : FnOk P w K mg base CX0 1 f fd ["_law_script", "_law_k"] (spCell K) := by
  refine F.ok scCell (fun vs H Q E h => ?_) (fun cdv A outer s H vs Q E hr h => ?_)
  · obtain ⟨a, ns, k, rfl, _⟩ := h
    rfl
  · obtain ⟨a, ns, k, rfl, hS, q⟩ := h
    refine ⟨_, pss_cons (ps_if (pt_cmpR op_lt (pv 1) (pe_callB call_len_seq (by rfl) mLen PySem.boot_len (pa_cons (pv 0) pa_nil)) (nomark _)) (pss_one (ps_ret (pe_ix ix_list (pv 0) (pv 1) (fun _ _ => rfl)))) pss_nil) (pss_one (ps_ret pe_int)), ?_⟩
    refine ⟨_, rfl, _, rfl, a, _, rfl, .inl hS, _, _, rfl, rfl, _, rfl, ite2 (fun e => ?_) (fun e => q 0)⟩
    have hk := of_decide_eq_true e
    rw [List.length_map] at hk
    have hk' : k < ns.length := by omega
    refine ⟨_, rfl, _, rfl, a, _, (k : Int), .int ns[k], rfl, rfl, hS, atI_nat ?_, q _⟩
    rw [List.getElem?_map, List.getElem?_eq_getElem hk']
    rfl
theorem ok_amount {f : Addr} {fd : FuncData} (F : Fun K "_law_amount" "_law_amount" sAmount f fd) : FnOk P w K mg base CX0 1 f fd ["_law_cell_here"] spAmount := by
  refine F.ok scAmount (fun vs H Q E h => ?_) (fun cdv A outer s H vs Q E hr h => ?_)
  · obtain ⟨n, rfl, _⟩ := h
    rfl
  · obtain ⟨n, rfl, q⟩ := h
    refine ⟨_, pss_cons (ps_if (pt_cmpR op_lt (pe_op op_mod (pv 0) pe_int) pe_int (nomark _)) (pss_one (ps_ret (pe_op op_sub (pe_op op_mod (pe_op op_fdiv (pv 0) pe_int) pe_int) pe_int))) pss_nil)
      (pss_one (ps_ret (pe_op op_pow (pe_op op_sub (pe_op op_mod (pe_op op_fdiv (pv 0) pe_int) pe_int) pe_int) pe_int))), ?_⟩
    refine ⟨_, rfl, _, _, rfl, rfl, (by show (0 : Int) < 3; decide), _, _, rfl, rfl, _, rfl, ite2 (fun e => ?_) (fun e => ?_)⟩
    · exact ⟨_, rfl, _, _, rfl, rfl, ⟨by decide, by decide⟩, _, _, rfl, rfl, (by show (0 : Int) < 13; decide), _, _, rfl, rfl, q _⟩
    · refine ⟨_, rfl, _, _, rfl, rfl, ⟨by decide, by decide⟩, _, _, rfl, rfl, (by show (0 : Int) < 1000003; decide), _, _, rfl, rfl, _, _, rfl, rfl, ⟨by decide, by decide, ?_⟩, q _⟩
      have h1 := Int.emod_nonneg (n / 3) (show (1000003 : Int) ≠ 0 by decide)
      have h2 := Int.emod_lt_of_pos (n / 3) (show (0 : Int) < 1000003 by decide)
      omega
theorem ok_names {f : Addr} {fd : FuncData} (F : Fun K "_law_names" "_law_names" sNames f fd) (mRange : mg "range" = none) : FnOk P w K mg base CX0 1 f fd ["_law_cell_here"] spNames := by
  refine F.ok scNames (fun vs H Q E h => ?_) (fun cdv A outer s H vs Q E hr h => ?_)
  · obtain ⟨n, rfl, _⟩ := h
    rfl
  · obtain ⟨n, rfl, q⟩ := h
    refine ⟨_, pss_cons (ps_set (i := 1) scNames.nd rfl (.inl rfl) pe_str) (pss_cons (ps_set (i := 2) scNames.nd rfl (.inl rfl) (pe_op op_add pe_int (pe_op op_mod (pv 0) pe_int)))
      (pss_cons (ps_set (i := 3) scNames.nd rfl (.inl rfl) (pe_op op_mod (pe_op op_fdiv (pv 0) pe_int) pe_int)) (pss_cons (ps_set (i := 4) scNames.nd rfl (.inl rfl) (pe_op op_mod (pe_op op_fdiv (pv 0) pe_int) pe_int))
      (pss_cons (ps_set (i := 5) scNames.nd rfl (.inl rfl) pe_str)
      (pss_cons (ps_for PassesOwn.never rfl (pi_range1 (by rfl) mRange (pa_cons (pv 2) pa_nil)) (pg_name (i := 6) scNames.nd rfl (.inl rfl))
        (pss_one (ps_set (i := 5) scNames.nd rfl (.inl rfl) (pe_op op_add_str (pv 5) (pe_ix ix_str (pv 1) (pe_op op_mod (pe_op op_add (pv 4) (pe_op op_mul (pv 6) (pv 3))) pe_int) (fun _ _ => rfl))))))
      (Evl.pss_cut (ps_if (PW.pt (pw_and (pt_cmpR op_eq (pe_op op_mod (pe_op op_fdiv (pv 0) pe_int) pe_int) pe_int (nomark _)) (pw_and1 (pt_cmpR op_gt (pv 2) pe_int (nomark _)))))
        (pss_one (ps_ret (pe_lst (pa_cons (pe_slice sl_str (pv 5) po_none (po_some (pe_op op_sub (pv 2) pe_int))) (pa_cons (pv 5) (pa_cons (pe_slice sl_str (pv 5) po_none (po_some (pe_op op_sub (pv 2) pe_int))) pa_nil)))))) pss_nil)
      (pss_cons (ps_set (i := 7) scNames.nd rfl (.inl rfl) (pe_op op_mod (pe_op op_fdiv (pv 0) pe_int) (pv 2)))
      (pss_cons (ps_set (i := 8) scNames.nd rfl (.inl rfl) (pe_lst pa_nil))
      (pss_cons (ps_for PassesOwn.never rfl (pi_range1 (by rfl) mRange (pa_cons pe_int pa_nil)) (pg_name (i := 6) scNames.nd rfl (.inl rfl))
        (pss_cons (ps_set (i := 9) scNames.nd rfl (.inl rfl) (pe_ix ix_str (pv 1) (pe_op op_mod (pe_op op_add (pe_op op_add (pv 4) (pe_op op_mul (pv 7) (pv 3))) (pv 6)) pe_int) (fun _ _ => rfl)))
        (pss_one (ps_expr (pe_bm PySem.F.plainAttrs_list PySem.F.slot_list_append PySem.F.type_list_append mt_append (pv 8)
          (pa_cons (pe_op op_add_str (pe_op op_add_str (pe_slice sl_str (pv 5) po_none (po_some (pv 7))) (pv 9)) (pe_slice sl_str (pv 5) (po_some (pe_op op_add (pv 7) pe_int)) po_none)) pa_nil))))))
      (pss_one (ps_ret (pv 8)))))))))))), ?_⟩
    have z1 := Int.emod_nonneg n (show (8 : Int) ≠ 0 by decide)
    have z2 := Int.emod_lt_of_pos n (show (0 : Int) < 8 by decide)
    have z3 := Int.emod_nonneg (n / 8) (show (5 : Int) ≠ 0 by decide)
    have z4 := Int.emod_lt_of_pos (n / 8) (show (0 : Int) < 5 by decide)
    have lL : (PySem.Str.ofString "abcdefghijklmnopqrstuvwxyz").length = 26 := by decide +kernel
    have lL2 : (PySem.Str.ofString "abcdefghijklmnopqrstuvwxyz").cps.toList.length = 26 := by
      rw [Array.length_toList]
      exact lL
    have sign : ∀ i : Int, ∃ c, atI (PySem.Str.ofString "abcdefghijklmnopqrstuvwxyz").cps.toList (i % 26) = some c := fun i => by
      obtain ⟨c, _, e⟩ := atI_ex (xs := (PySem.Str.ofString "abcdefghijklmnopqrstuvwxyz").cps.toList) (i := i % 26) (Int.emod_nonneg i (by decide)) (by
        rw [lL2]
        exact Int.emod_lt_of_pos i (by decide))
      exact ⟨c, e⟩
    generalize PySem.Str.ofString "abcdefghijklmnopqrstuvwxyz" = L at lL sign ⊢
    refine ⟨_, rfl, _, _, rfl, rfl, (by show (0 : Int) < 8; decide), _, _, rfl, rfl, ?_⟩
    refine ⟨_, rfl, _, _, rfl, rfl, ⟨by decide, by decide⟩, _, _, rfl, rfl, (by show (0 : Int) < 5; decide), ?_⟩
    refine ⟨_, rfl, _, _, rfl, rfl, ⟨by decide, by decide⟩, _, _, rfl, rfl, (by show (0 : Int) < 26; decide), ?_⟩
    refine ⟨_, rfl, 1 + n % 8, rfl, by omega, by omega, for_range (n := (1 + n % 8).toNat) (fun i σ H' => ∃ (z : Str) (v6 : Option V), σ = [some (.int n), some (.str L), some (.int (1 + n % 8)), some (.int (n / 8 % 5)), some (.int (n / 40 % 26)), some (.str z), v6, none, none, none] ∧ z.length = i ∧ H' = H)
      ⟨_, none, rfl, rfl, rfl⟩ ?_ ?_⟩
    · rintro i σ H1 hi ⟨z, v6, rfl, lz, rfl⟩
      obtain ⟨c, hc⟩ := sign (n / 40 % 26 + (0 + (i : Int)) * (n / 8 % 5))
      refine ⟨_, rfl, _, rfl, _, rfl, _, rfl, _, rfl, _, _, rfl, rfl, .inl ⟨by omega, by omega⟩, _, _, rfl, rfl, _, _, rfl, rfl, (by show (0 : Int) < 26; decide), _, _, c, rfl, rfl, sz (by omega), hc, _, _, rfl, rfl, sz ?_, _, _, rfl, ?_, rfl⟩
      · show z.length + 1 ≤ _
        omega
      · rw [len_app]
        show z.length + 1 = _
        omega
    rintro σ H1 ⟨z, v6, rfl, lz, rfl⟩
    have lz8 : z.length ≤ 8 := by omega
    have cutl : ∀ lo hi, (cutS z lo hi).length ≤ 8 := fun lo hi => Nat.le_trans (cutS_length z lo hi) lz8
    refine ⟨fun σ' H' => σ' = [some (.int n), some (.str L), some (.int (1 + n % 8)), some (.int (n / 8 % 5)), some (.int (n / 40 % 26)), some (.str z), v6, none, none, none] ∧ H' = H1, ?_, ?_⟩
    · refine ⟨_, rfl, _, _, rfl, rfl, ⟨by decide, by decide⟩, _, _, rfl, rfl, (by show (0 : Int) < 3; decide), rfl, _, rfl, ite2 (fun e => ?_) (fun e => iteF ⟨rfl, rfl⟩)⟩
      refine ⟨_, rfl, _, _, rfl, rfl, _, rfl, ite2 (fun e => ?_) (fun e => ⟨rfl, rfl⟩)⟩
      refine ⟨_, rfl, _, rfl, _, _, rfl, rfl, _, rfl, z, rfl, sz (by omega), _, rfl, _, rfl, _, rfl, _, _, rfl, rfl, _, rfl, z, rfl, sz (by omega), (by show 3 ≤ sizeLine; decide), fun p np => ?_⟩
      refine q _ p _ _ _ (same_upd np) np upd_same ?_ (by omega) ?_
      · exact Nat.le_trans (cutl _ _) (by decide)
      · exact Nat.le_trans (cutl _ _) (by decide)
    rintro σ H2 ⟨rfl, rfl⟩
    have pos : (0 : Int) < 1 + n % 8 := by omega
    refine ⟨_, rfl, _, _, rfl, rfl, ⟨by decide, by decide⟩, _, rfl, _, _, rfl, rfl, pos, ?_⟩
    have w1 := Int.emod_nonneg (n / 3120) (show (1 + n % 8 : Int) ≠ 0 by omega)
    have w2 := Int.emod_lt_of_pos (n / 3120) pos
    refine ⟨Nat.zero_le _, fun p np => ?_⟩
    refine ⟨3, rfl, by decide, by decide, for_range (n := 3) (fun i σ H' => ∃ (v6 v9 : Option V) (xs : List Str), σ = [some (.int n), some (.str L), some (.int (1 + n % 8)), some (.int (n / 8 % 5)), some (.int (n / 40 % 26)), some (.str z), v6, some (.int (n / 3120 % (1 + n % 8))), some (.ref p), v9] ∧
        Same H2 H' ∧ H' p = some (.lst (xs.map V.str)) ∧ xs.length = i ∧ ∀ x ∈ xs, x.length ≤ 1000)
      ⟨v6, none, [], rfl, same_upd np, upd_same, rfl, fun x hx => by simp at hx⟩ ?_ ?_⟩
    · rintro i σ H3 hi ⟨w6, w9, xs, rfl, s3, hp3, lx, hx⟩
      obtain ⟨c, hc⟩ := sign (n / 40 % 26 + n / 3120 % (1 + n % 8) * (n / 8 % 5) + (0 + (i : Int)))
      refine ⟨_, rfl, _, rfl, _, rfl, _, rfl, _, _, rfl, rfl, .inr ⟨by omega, by omega⟩, _, _, rfl, rfl, _, rfl, _, _, rfl, rfl, _, _, rfl, rfl, (by show (0 : Int) < 26; decide), _, _, c, rfl, rfl, sz (by omega), hc, ?_⟩
      have c1 := cutl none (some (n / 3120 % (1 + n % 8)))
      have c2 := cutl (some (n / 3120 % (1 + n % 8) + 1)) none
      refine ⟨_, rfl, .inl ⟨rfl, _, SqL.of hp3⟩, _, rfl, _, rfl, _, rfl, z, rfl, sz (by omega), _, rfl, _, _, rfl, rfl, sz ?_, _, rfl, _, rfl, _, _, rfl, rfl, _, rfl, z, rfl, sz (by omega), _, _, rfl, rfl, sz ?_, p, _, _, rfl, rfl, hp3, szl ?_, ?_⟩
      · show _ + 1 ≤ _
        omega
      · rw [len_app]
        show _ + 1 + _ ≤ _
        omega
      · rw [List.length_map]
        omega
      · refine ⟨_, _, xs ++ [cutS z none (some (n / 3120 % (1 + n % 8))) ++ (⟨#[c]⟩ : Str) ++ cutS z (some (n / 3120 % (1 + n % 8) + 1)) none], rfl, same_mut s3 np, ?_, ?_, ?_⟩
        · rw [upd_same, List.map_append]
          rfl
        · rw [List.length_append, lx]
          rfl
        · intro x hm
          rcases List.mem_append.mp hm with hm | hm
          · exact hx x hm
          · rw [List.mem_singleton.mp hm, len_app, len_app]
            show _ + 1 + _ ≤ _
            omega
    · rintro σ H3 ⟨w6, w9, xs, rfl, s3, hp3, lx, hx⟩
      match xs, lx, hp3, hx with
      | [a, b, c], _, hp3, hx => exact ⟨_, rfl, q H3 p a b c s3 np hp3 (hx a (by simp)) (hx b (by simp)) (hx c (by simp))⟩
end
end K34

/-! the law's lines -/
namespace K34
open PySem PySem.Spec PyProof.Rows L2
section
variable {P : Program} {w : World} {K : PySem.W.Frag} {mg : Str → Option Value} {base : Heap}
theorem atS_ex {xs : List Str} {i : Int} (h0 : 0 ≤ i) (h1 : i < xs.length) : ∃ z, atI (xs.map V.str) i = some (.str z) := by
  obtain ⟨v, hv, e⟩ := atI_ex (xs := xs.map V.str) h0 (by rw [List.length_map]; exact h1)
  obtain ⟨z, _, rfl⟩ := List.mem_map.mp hv
  exact ⟨z, e⟩
theorem ok_lines {f fA : Addr} {fd fdA : FuncData} (F : Fun K "_law_lines" "_law_lines" sLines f fd) (FA : Fun K "_law_amount" "_law_amount" sAmount fA fdA) (bA : Binds K fdA ["_law_cell_here"] []) (gA : mg "_law_amount" = some (.ref fA)) :
    FnOk P w K mg base CX0 2 f fd ["_law_names_here", "_law_what", "_law_cell_here"] spLines := by
  have GA : FnOk P w K mg base CX0 1 fA fdA ["_law_cell_here"] spAmount := ok_amount FA
  refine F.ok scLines (fun vs H Q E h => ?_) (fun cdv A outer s H vs Q E hr h => ?_)
  · obtain ⟨p, a, b, c, x, y, rfl, _⟩ := h
    rfl
  · obtain ⟨p, a, b, c, x, y, rfl, hp, lb, q⟩ := h
    refine ⟨_, pss_cons (ps_set (i := 3) scLines.nd rfl (.inl rfl) (pe_ix ix_list (pv 0) pe_int (fun _ _ => rfl)))
      (pss_cons (ps_set (i := 4) scLines.nd rfl (.inl rfl) (pe_op op_cat (pv 0) (pe_lst (pa_cons (pe_op op_add_str pe_str (pe_ix ix_list (pv 0) pe_int (fun _ _ => rfl))) (pa_cons pe_str pa_nil)))))
      (pss_cons (ps_set (i := 5) scLines.nd rfl (.inl rfl) (pe_ix ix_list (pe_lst (pa_cons (pe_ix ix_list (pv 0) pe_int (fun _ _ => rfl)) (pa_cons pe_str pa_nil))) (pe_op op_mod (pv 1) pe_int) (fun _ _ => rfl)))
      (pss_cons (ps_set (i := 6) scLines.nd rfl (.inl rfl) (pe_call GA hr (by rfl) gA FA.kp bA .nil pass0 (pa_cons (pv 2) pa_nil)))
      (pss_cons (ps_set (i := 7) scLines.nd rfl (.inl rfl) (pe_op op_add (pe_op op_mul (pv 6) (pe_op op_add pe_int (pe_op op_mod (pe_op op_fdiv (pv 1) pe_int) pe_int))) (pe_op op_mod (pe_op op_fdiv (pv 1) pe_int) pe_int)))
      (pss_cons (ps_set (i := 8) scLines.nd rfl (.inl rfl) (pe_ix ix_list (pv 4) (pe_op op_mod (pe_op op_fdiv (pv 1) pe_int) pe_int) (fun _ _ => rfl)))
      (pss_cons (ps_set (i := 9) scLines.nd rfl (.inl rfl) (pe_ix ix_list (pv 4) (pe_op op_mod (pe_op op_fdiv (pv 1) pe_int) pe_int) (fun _ _ => rfl)))
      (pss_cons (ps_set (i := 10) scLines.nd rfl (.inl rfl) (pe_lst (pa_cons (pe_tup (pa_cons (pv 3) (pa_cons (pv 8) (pa_cons (pv 5) (pa_cons (pv 6) (pa_cons (pv 7) pa_nil))))))
        (pa_cons (pe_tup (pa_cons (pv 3) (pa_cons (pv 9) (pa_cons (pv 5) (pa_cons (pe_op op_sub pe_int (pv 6)) (pa_cons (pe_op op_sub pe_int (pv 7)) pa_nil)))))) pa_nil))))
      (pss_cons (ps_if (pt_cmpR op_eq (pe_op op_mod (pe_op op_fdiv (pv 1) pe_int) pe_int) pe_int (nomark _))
        (pss_one (ps_set (i := 10) scLines.nd rfl (.inl rfl) (pe_op op_cat (pv 10) (pe_lst (pa_cons (pe_tup (pa_cons (pv 3) (pa_cons (pv 9) (pa_cons pe_str (pa_cons pe_int (pa_cons pe_int pa_nil))))))
          (pa_cons (pe_tup (pa_cons (pv 3) (pa_cons pe_str (pa_cons pe_str (pa_cons pe_int (pa_cons (pe_un un_neg pe_int) pa_nil)))))) pa_nil)))))) pss_nil)
      (pss_one (ps_ret (pv 10))))))))))), ?_⟩
    -- firm = names[0]
    refine ⟨_, rfl, p, _, 0, .str a, rfl, rfl, SqL.of hp, atI_nat (j := 0) rfl, ?_⟩
    -- accounts = names + ['.due.' + names[1], '*bridge']
    refine ⟨_, rfl, _, rfl, p, _, 1, .str b, rfl, rfl, SqL.of hp, atI_nat (j := 1) rfl, _, _, rfl, rfl, sz ?_, (by show 2 ≤ sizeLine; decide), fun l1 n1 => ?_⟩
    · show 5 + b.length ≤ _
      omega
    have s1 : Same H (upd H l1 (.lst [V.str (PySem.Str.ofString ".due." ++ b), V.str (PySem.Str.ofString "*bridge")])) := same_upd n1
    have h1 : upd H l1 (.lst [V.str (PySem.Str.ofString ".due." ++ b), V.str (PySem.Str.ofString "*bridge")]) l1 = some (.lst [V.str (PySem.Str.ofString ".due." ++ b), V.str (PySem.Str.ofString "*bridge")]) := upd_same
    generalize upd H l1 (.lst [V.str (PySem.Str.ofString ".due." ++ b), V.str (PySem.Str.ofString "*bridge")]) = H1 at s1 h1 ⊢
    refine ⟨p, l1, _, _, rfl, rfl, s1 _ _ hp, h1, (by show 5 ≤ sizeLine; decide), fun l2 n2 => ?_⟩
    have s2 : Same H1 (upd H1 l2 (.lst ([V.str a, V.str b, V.str c] ++ [V.str (PySem.Str.ofString ".due." ++ b), V.str (PySem.Str.ofString "*bridge")]))) := same_upd n2
    have h2 : upd H1 l2 (.lst ([V.str a, V.str b, V.str c] ++ [V.str (PySem.Str.ofString ".due." ++ b), V.str (PySem.Str.ofString "*bridge")])) l2 = some (.lst (([a, b, c, PySem.Str.ofString ".due." ++ b, PySem.Str.ofString "*bridge"] : List Str).map V.str)) := upd_same
    generalize upd H1 l2 (.lst ([V.str a, V.str b, V.str c] ++ [V.str (PySem.Str.ofString ".due." ++ b), V.str (PySem.Str.ofString "*bridge")])) = H2 at s2 h2 ⊢
    have hp2 := s2 _ _ (s1 _ _ hp)
    generalize hacc : ([a, b, c, PySem.Str.ofString ".due." ++ b, PySem.Str.ofString "*bridge"] : List Str) = accs at h2
    have lacc : accs.length = 5 := by rw [← hacc]; rfl
    -- coin = [names[2], 'one'][what % 2]
    refine ⟨_, rfl, p, _, 2, .str c, rfl, rfl, SqL.of hp2, atI_nat (j := 2) rfl, (by show 2 ≤ sizeLine; decide), fun l3 n3 => ?_⟩
    have s3 : Same H2 (upd H2 l3 (.lst [V.str c, V.str (PySem.Str.ofString "one")])) := same_upd n3
    have h3 : upd H2 l3 (.lst [V.str c, V.str (PySem.Str.ofString "one")]) l3 = some (.lst (([c, PySem.Str.ofString "one"] : List Str).map V.str)) := upd_same
    generalize upd H2 l3 (.lst [V.str c, V.str (PySem.Str.ofString "one")]) = H3 at s3 h3 ⊢
    have h23 := s3 _ _ h2
    obtain ⟨coin, hcoin⟩ := atS_ex (xs := [c, PySem.Str.ofString "one"]) (i := x % 2) (by omega) (by show x % 2 < 2; omega)
    refine ⟨_, rfl, _, _, rfl, rfl, (by show (0 : Int) < 2; decide), l3, _, _, _, rfl, rfl, SqL.of h3, hcoin, ?_⟩
    -- amount, worth
    refine ⟨_, rfl, y, rfl, fun m => ?_⟩
    refine ⟨_, rfl, _, rfl, _, _, rfl, rfl, ⟨by decide, by decide⟩, _, _, rfl, rfl, (by show (0 : Int) < 3; decide), _, _, rfl, rfl, _, _, rfl, rfl, .inr ⟨by omega, by omega⟩, _, rfl, _, _, rfl, rfl, ⟨by decide, by decide⟩, _, _, rfl, rfl, (by show (0 : Int) < 3; decide), _, _, rfl, rfl, ?_⟩
    -- one, two
    obtain ⟨one, hone⟩ := atS_ex (xs := accs) (i := x / 18 % 5) (by omega) (by rw [lacc]; omega)
    obtain ⟨two, htwo⟩ := atS_ex (xs := accs) (i := x / 90 % 5) (by omega) (by rw [lacc]; omega)
    refine ⟨_, rfl, _, rfl, _, _, rfl, rfl, ⟨by decide, by decide⟩, _, _, rfl, rfl, (by show (0 : Int) < 5; decide), l2, _, _, _, rfl, rfl, SqL.of h23, hone, ?_⟩
    refine ⟨_, rfl, _, rfl, _, _, rfl, rfl, ⟨by decide, by decide⟩, _, _, rfl, rfl, (by show (0 : Int) < 5; decide), l2, _, _, _, rfl, rfl, SqL.of h23, htwo, ?_⟩
    -- the two lines
    refine ⟨_, rfl, _, rfl, _, rfl, _, rfl, _, rfl, (by show 5 ≤ sizeLine; decide), fun t1 nt1 => ?_⟩
    dsimp only
    generalize hwor : m * (1 + x / 2 % 3) + x / 6 % 3 = wr
    have s4 : Same H3 (upd H3 t1 (.tup [V.str a, V.str one, V.str coin, V.int m, V.int wr])) := same_upd nt1
    have h4 : upd H3 t1 (.tup [V.str a, V.str one, V.str coin, V.int m, V.int wr]) t1 = some (.tup (Ln.t ⟨a, one, coin, m, wr⟩)) := upd_same
    generalize upd H3 t1 (.tup [V.str a, V.str one, V.str coin, V.int m, V.int wr]) = H4 at s4 h4 ⊢
    refine ⟨_, rfl, _, rfl, _, rfl, _, rfl, _, _, rfl, rfl, _, rfl, _, _, rfl, rfl, (by show 5 ≤ sizeLine; decide), fun t2 nt2 => ?_⟩
    dsimp only
    have s5 : Same H4 (upd H4 t2 (.tup [V.str a, V.str two, V.str coin, V.int (0 - m), V.int (0 - wr)])) := same_upd nt2
    have h5 : upd H4 t2 (.tup [V.str a, V.str two, V.str coin, V.int (0 - m), V.int (0 - wr)]) t2 = some (.tup (Ln.t ⟨a, two, coin, 0 - m, 0 - wr⟩)) := upd_same
    generalize upd H4 t2 (.tup [V.str a, V.str two, V.str coin, V.int (0 - m), V.int (0 - wr)]) = H5 at s5 h5 ⊢
    refine ⟨(by show 2 ≤ sizeLine; decide), fun l6 n6 => ?_⟩
    have s6 : Same H5 (upd H5 l6 (.lst [V.ref t1, V.ref t2])) := same_upd n6
    have h6 : upd H5 l6 (.lst [V.ref t1, V.ref t2]) l6 = some (.lst [V.ref t1, V.ref t2]) := upd_same
    generalize upd H5 l6 (.lst [V.ref t1, V.ref t2]) = H6 at s6 h6 ⊢
    have A6 : LAt H6 [V.ref t1, V.ref t2] [⟨a, one, coin, m, wr⟩, ⟨a, two, coin, 0 - m, 0 - wr⟩] := .cons ⟨t1, rfl, s6 _ _ (s5 _ _ h4)⟩ (.cons ⟨t2, rfl, s6 _ _ h5⟩ .nil)
    have s06 : Same H H6 := (s1.trans (s2.trans s3)).trans (s4.trans (s5.trans s6))
    have n06 : H l6 = none := ((s1.trans (s2.trans s3)).trans (s4.trans s5)).free n6
    refine ⟨_, rfl, _, _, rfl, rfl, ⟨by decide, by decide⟩, _, _, rfl, rfl, (by show (0 : Int) < 2; decide), rfl, _, rfl, ite2 (fun e => ?_) (fun e => ?_)⟩
    · refine ⟨_, rfl, _, rfl, _, rfl, (by show 5 ≤ sizeLine; decide), fun t7 nt7 => ?_⟩
      have s7 : Same H6 (upd H6 t7 (.tup [V.str a, V.str two, V.str (PySem.Str.ofString "one"), V.int 0, V.int 1])) := same_upd nt7
      have h7 : upd H6 t7 (.tup [V.str a, V.str two, V.str (PySem.Str.ofString "one"), V.int 0, V.int 1]) t7 = some (.tup (Ln.t ⟨a, two, PySem.Str.ofString "one", 0, 1⟩)) := upd_same
      generalize upd H6 t7 (.tup [V.str a, V.str two, V.str (PySem.Str.ofString "one"), V.int 0, V.int 1]) = H7 at s7 h7 ⊢
      refine ⟨_, rfl, _, rfl, (by show 5 ≤ sizeLine; decide), fun t8 nt8 => ?_⟩
      have s8 : Same H7 (upd H7 t8 (.tup [V.str a, V.str (PySem.Str.ofString "*rounding"), V.str (PySem.Str.ofString "one"), V.int 0, V.int (-1)])) := same_upd nt8
      have h8 : upd H7 t8 (.tup [V.str a, V.str (PySem.Str.ofString "*rounding"), V.str (PySem.Str.ofString "one"), V.int 0, V.int (-1)]) t8 = some (.tup (Ln.t ⟨a, PySem.Str.ofString "*rounding", PySem.Str.ofString "one", 0, -1⟩)) := upd_same
      generalize upd H7 t8 (.tup [V.str a, V.str (PySem.Str.ofString "*rounding"), V.str (PySem.Str.ofString "one"), V.int 0, V.int (-1)]) = H8 at s8 h8 ⊢
      refine ⟨(by show 2 ≤ sizeLine; decide), fun l9 n9 => ?_⟩
      have s9 : Same H8 (upd H8 l9 (.lst [V.ref t7, V.ref t8])) := same_upd n9
      have h9 : upd H8 l9 (.lst [V.ref t7, V.ref t8]) l9 = some (.lst [V.ref t7, V.ref t8]) := upd_same
      generalize upd H8 l9 (.lst [V.ref t7, V.ref t8]) = H9 at s9 h9 ⊢
      have s69 := (s7.trans s8).trans s9
      refine ⟨l6, l9, _, _, rfl, rfl, s69 _ _ h6, h9, (by show 4 ≤ sizeLine; decide), fun l10 n10 => ?_⟩
      have sA : Same H9 (upd H9 l10 (.lst ([V.ref t1, V.ref t2] ++ [V.ref t7, V.ref t8]))) := same_upd n10
      refine ⟨_, rfl, q _ l10 _ ([⟨a, one, coin, m, wr⟩, ⟨a, two, coin, 0 - m, 0 - wr⟩] ++ [⟨a, two, PySem.Str.ofString "one", 0, 1⟩, ⟨a, PySem.Str.ofString "*rounding", PySem.Str.ofString "one", 0, -1⟩]) ((s06.trans s69).trans sA) ((s06.trans s69).free n10) upd_same ?_ (bal4 _ _ _ _ _ _ _ _) (by show 4 ≤ 4; exact Nat.le_refl _)⟩
      exact At.same (LAt.app (At.same A6 s69) (.cons ⟨t7, rfl, s9 _ _ (s8 _ _ h7)⟩ (.cons ⟨t8, rfl, s9 _ _ h8⟩ .nil))) sA
    · exact ⟨_, rfl, q H6 l6 _ _ s06 n06 h6 A6 (bal2 _ _ _ _ _ _) (by show 2 ≤ 4; decide)⟩
end
end K34

/-! the law's own state: the two books, the rows; what changes is hidden -/
namespace K34
open PySem PySem.Spec PyProof.Rows L2
/-- the heap without the lists that change -/
def hid (W : List Addr) (H : Hp) : Hp := fun x => if x ∈ W then none else H x
theorem hid_at {W : List Addr} {H : Hp} {x : Addr} {o : HO} (h : x ∉ W) (e : H x = some o) : hid W H x = some o := by
  unfold hid
  rw [if_neg h]
  exact e
theorem hid_le {W : List Addr} {H : Hp} : Same (hid W H) H := fun x o e => by
  unfold hid at e
  split at e
  · cases e
  · exact e
theorem hid_same {W : List Addr} {H H' : Hp} (k : ∀ x o, x ∉ W → H x = some o → H' x = some o) : Same (hid W H) (hid W H') := fun x o e => by
  unfold hid at e ⊢
  split at e
  · cases e
  · rename_i h
    rw [if_neg h]
    exact k x o h e
theorem RwAt.mono {H H' : Hp} {ws : List V} {E : List (Int × List Ln)} (h : RwAt H ws E) (e : Same H H') : RwAt H' ws E :=
  L2.Paired.mapP h fun v p ⟨t, l, xs, z1, z2, z3, z4⟩ => ⟨t, l, xs, z1, e _ _ z2, e _ _ z3, At.same z4 e⟩
theorem RwAt.snoc {H : Hp} {e : Int × List Ln} {t l : Addr} {xs ws : List V} {E : List (Int × List Ln)} (h : RwAt H ws E) (h1 : H t = some (.tup [.int e.1, .ref l])) (h2 : H l = some (.lst xs)) (h3 : LAt H xs e.2) : RwAt H (ws ++ [.ref t]) (E ++ [e]) :=
  paired_snoc h ⟨t, l, xs, rfl, h1, h2, h3⟩
/-- lists stand at W -/
def Muts (W : List Addr) (H : Hp) : Prop := ∀ w ∈ W, ∃ xs, H w = some (.lst xs)
theorem hid_tup {W : List Addr} {H : Hp} (m : Muts W H) {x : Addr} {t : List V} (e : H x = some (.tup t)) : hid W H x = some (.tup t) := hid_at (fun hx => by
  obtain ⟨xs, q⟩ := m x hx
  rw [q] at e
  cases e) e
theorem hid_At {W : List Addr} {H : Hp} (m : Muts W H) {vs : List V} {ts : List (List V)} (h : At H vs ts) : At (hid W H) vs ts := h.mono fun _ _ e => hid_tup m e
/-- the places that stand fixed through the law -/
structure Fix where
  cB : Addr
  cK : Addr
  bk : Addr
  pl : Addr
  dx1 : Addr
  dx2 : Addr
  PB : Addr
  P2 : Addr
  rw : Addr
  RB : Addr
  UB : Addr
  firm : Str
def Fix.W (F : Fix) : List Addr := [F.PB, F.P2, F.rw, F.RB, F.UB]
structure Fix.Ok (F : Fix) (H2 : Hp) : Prop where
  nP : H2 F.PB = none
  n2 : H2 F.P2 = none
  nr : H2 F.rw = none
  nR : H2 F.RB = none
  nU : H2 F.UB = none
  nd : F.W.Nodup
structure S5 (F : Fix) (H2 : Hp) (E1 E2 R : List (Int × List Ln)) (rs us : List V) (H : Hp) : Prop where
  same : Same H2 H
  bk : H F.bk = some (.ins F.cK F.dx1 (fK F.firm F.PB F.RB F.UB))
  pl : H F.pl = some (.ins F.cB F.dx2 (fB F.firm F.P2))
  p1 : ∃ ws, H F.PB = some (.lst ws) ∧ PgAt (hid F.W H) ws E1
  p2 : ∃ ws, H F.P2 = some (.lst ws) ∧ PgAt (hid F.W H) ws E2
  p3 : ∃ ws, H F.rw = some (.lst ws) ∧ RwAt (hid F.W H) ws R
  p4 : H F.RB = some (.lst rs)
  p5 : H F.UB = some (.lst us)
section
variable {F : Fix} {H2 H H' : Hp} {E1 E2 R : List (Int × List Ln)} {rs us : List V}
theorem S5.muts (S : S5 F H2 E1 E2 R rs us H) : Muts F.W H := fun w hw => by
  obtain ⟨w1, h1, _⟩ := S.p1
  obtain ⟨w2, h2, _⟩ := S.p2
  obtain ⟨w3, h3, _⟩ := S.p3
  have h4 := S.p4
  have h5 := S.p5
  unfold Fix.W at hw
  simp only [List.mem_cons, List.not_mem_nil, or_false] at hw
  rcases hw with e | e | e | e | e <;> subst e
  · exact ⟨_, h1⟩
  · exact ⟨_, h2⟩
  · exact ⟨_, h3⟩
  · exact ⟨_, h4⟩
  · exact ⟨_, h5⟩
theorem S5.notin (S : S5 F H2 E1 E2 R rs us H) {x : Addr} (h : H x = none) : x ∉ F.W := fun hx => by
  obtain ⟨xs, e⟩ := S.muts x hx
  rw [h] at e
  cases e
/-- what is made grows, what stood stands -/
theorem S5.grow (S : S5 F H2 E1 E2 R rs us H) (e : Same H H') : S5 F H2 E1 E2 R rs us H' := by
  obtain ⟨w1, h1, g1⟩ := S.p1
  obtain ⟨w2, h2, g2⟩ := S.p2
  obtain ⟨w3, h3, g3⟩ := S.p3
  have k : Same (hid F.W H) (hid F.W H') := hid_same fun x o _ q => e x o q
  exact ⟨S.same.trans e, e _ _ S.bk, e _ _ S.pl, ⟨w1, e _ _ h1, g1.same k⟩, ⟨w2, e _ _ h2, g2.same k⟩, ⟨w3, e _ _ h3, g3.mono k⟩, e _ _ S.p4, e _ _ S.p5⟩
theorem S5.book (S : S5 F H2 E1 E2 R rs us H) : BkAt F.cB F.cK H F.bk F.firm F.PB E1 := by
  obtain ⟨w1, h1, g1⟩ := S.p1
  exact ⟨true, F.dx1, _, w1, S.bk, fK_is _ _ _ _, h1, g1.same hid_le⟩
theorem S5.plain (S : S5 F H2 E1 E2 R rs us H) : BkAt F.cB F.cK H F.pl F.firm F.P2 E2 := by
  obtain ⟨w1, h1, g1⟩ := S.p2
  exact ⟨false, F.dx2, _, w1, S.pl, fB_is _ _, h1, g1.same hid_le⟩
theorem S5.neIns (S : S5 F H2 E1 E2 R rs us H) {x : Addr} {C dx : Addr} {fs : List (Str × V)} (e : H x = some (.ins C dx fs)) : x ∉ F.W := fun hx => by
  obtain ⟨xs, q⟩ := S.muts x hx
  rw [q] at e
  cases e
theorem S5.nbk (S : S5 F H2 E1 E2 R rs us H) {w : Addr} (hw : w ∈ F.W) : F.bk ≠ w := fun z => S.neIns S.bk (by rw [z]; exact hw)
theorem S5.npl (S : S5 F H2 E1 E2 R rs us H) {w : Addr} (hw : w ∈ F.W) : F.pl ≠ w := fun z => S.neIns S.pl (by rw [z]; exact hw)
/-- one of the lists changed -/
theorem keepsAll {w : Addr} (hw : w ∈ F.W) (k : ∀ x o, x ≠ w → H x = some o → H' x = some o) : Same (hid F.W H) (hid F.W H') := hid_same fun x o hx q => k x o (fun z => hx (z ▸ hw)) q
theorem S5.post1 (O : F.Ok H2) (S : S5 F H2 E1 E2 R rs us H) {ws xs : List V} {n k : Int} {t l : Addr} {ls : List Ln} (h : H F.PB = some (.lst ws)) (nl : H l = none) (kp : ∀ x o, x ≠ F.PB → H x = some o → H' x = some o) (hP : H' F.PB = some (.lst (ws ++ [.ref t])))
    (ht : H' t = some (.tup [.int n, .int k, .ref l])) (hl : H' l = some (.lst xs)) (hA : LAt H xs ls) : S5 F H2 (E1 ++ [(n, ls)]) E2 R rs us H' := by
  obtain ⟨w1, h1, g1⟩ := S.p1
  obtain ⟨w2, h2, g2⟩ := S.p2
  obtain ⟨w3, h3, g3⟩ := S.p3
  rw [h] at h1
  cases h1
  have nd := O.nd
  unfold Fix.W at nd
  simp only [List.nodup_cons, List.mem_cons, List.not_mem_nil, or_false, not_or, not_false_eq_true, List.nodup_nil, and_true] at nd
  obtain ⟨⟨a1, a2, a3, a4⟩, ⟨b1, b2, b3⟩, ⟨c1, c2⟩, d1⟩ := nd
  have mW : F.PB ∈ F.W := by unfold Fix.W; simp
  have k' := keepsAll mW kp
  have m := S.muts
  have nbk := kp _ _ (S.nbk mW) S.bk
  have npl := kp _ _ (S.npl mW) S.pl
  have s : Same H2 H' := fun x o q => kp _ _ (ne_of_none q O.nP) (S.same _ _ q)
  have hl' : hid F.W H' l = some (.lst xs) := hid_at (S.notin nl) hl
  have hA' : LAt (hid F.W H') xs ls := At.same (hid_At m hA) k'
  have q2 := kp _ _ (Ne.symm a1) h2
  have q3 := kp _ _ (Ne.symm a2) h3
  have q4 := kp _ _ (Ne.symm a3) S.p4
  have q5 := kp _ _ (Ne.symm a4) S.p5
  have m' : Muts F.W H' := fun w hw => by
    unfold Fix.W at hw
    simp only [List.mem_cons, List.not_mem_nil, or_false] at hw
    rcases hw with e | e | e | e | e <;> subst e
    · exact ⟨_, hP⟩
    · exact ⟨_, q2⟩
    · exact ⟨_, q3⟩
    · exact ⟨_, q4⟩
    · exact ⟨_, q5⟩
  exact ⟨s, nbk, npl, ⟨_, hP, PgAt.snoc (e := (n, ls)) (g1.same k') (hid_tup m' ht) hl' hA'⟩, ⟨w2, q2, g2.same k'⟩, ⟨w3, q3, g3.mono k'⟩, q4, q5⟩
theorem S5.post2 (O : F.Ok H2) (S : S5 F H2 E1 E2 R rs us H) {ws xs : List V} {n k : Int} {t l : Addr} {ls : List Ln} (h : H F.P2 = some (.lst ws)) (nl : H l = none) (kp : ∀ x o, x ≠ F.P2 → H x = some o → H' x = some o) (hP : H' F.P2 = some (.lst (ws ++ [.ref t])))
    (ht : H' t = some (.tup [.int n, .int k, .ref l])) (hl : H' l = some (.lst xs)) (hA : LAt H xs ls) : S5 F H2 E1 (E2 ++ [(n, ls)]) R rs us H' := by
  obtain ⟨w1, h1, g1⟩ := S.p1
  obtain ⟨w2, h2, g2⟩ := S.p2
  obtain ⟨w3, h3, g3⟩ := S.p3
  rw [h] at h2
  cases h2
  have nd := O.nd
  unfold Fix.W at nd
  simp only [List.nodup_cons, List.mem_cons, List.not_mem_nil, or_false, not_or, not_false_eq_true, List.nodup_nil, and_true] at nd
  obtain ⟨⟨a1, a2, a3, a4⟩, ⟨b1, b2, b3⟩, ⟨c1, c2⟩, d1⟩ := nd
  have mW : F.P2 ∈ F.W := by unfold Fix.W; simp
  have k' := keepsAll mW kp
  have m := S.muts
  have nbk := kp _ _ (S.nbk mW) S.bk
  have npl := kp _ _ (S.npl mW) S.pl
  have s : Same H2 H' := fun x o q => kp _ _ (ne_of_none q O.n2) (S.same _ _ q)
  have hl' : hid F.W H' l = some (.lst xs) := hid_at (S.notin nl) hl
  have hA' : LAt (hid F.W H') xs ls := At.same (hid_At m hA) k'
  have q1 := kp _ _ a1 h1
  have q3 := kp _ _ (Ne.symm b1) h3
  have q4 := kp _ _ (Ne.symm b2) S.p4
  have q5 := kp _ _ (Ne.symm b3) S.p5
  have m' : Muts F.W H' := fun w hw => by
    unfold Fix.W at hw
    simp only [List.mem_cons, List.not_mem_nil, or_false] at hw
    rcases hw with e | e | e | e | e <;> subst e
    · exact ⟨_, q1⟩
    · exact ⟨_, hP⟩
    · exact ⟨_, q3⟩
    · exact ⟨_, q4⟩
    · exact ⟨_, q5⟩
  exact ⟨s, nbk, npl, ⟨w1, q1, g1.same k'⟩, ⟨_, hP, PgAt.snoc (e := (n, ls)) (g2.same k') (hid_tup m' ht) hl' hA'⟩, ⟨w3, q3, g3.mono k'⟩, q4, q5⟩
theorem S5.row (O : F.Ok H2) (S : S5 F H2 E1 E2 R rs us H) {ws xs : List V} {n : Int} {t l : Addr} {ls : List Ln} (h : H F.rw = some (.lst ws)) (lW : l ∉ F.W) (ht : H t = some (.tup [.int n, .ref l])) (hl : H l = some (.lst xs)) (hA : LAt H xs ls) :
    S5 F H2 E1 E2 (R ++ [(n, ls)]) rs us (upd H F.rw (.lst (ws ++ [.ref t]))) := by
  have kp : ∀ x o, x ≠ F.rw → H x = some o → upd H F.rw (.lst (ws ++ [.ref t])) x = some o := fun x o nx q => by
    rw [upd_ne nx]
    exact q
  have hP : upd H F.rw (.lst (ws ++ [.ref t])) F.rw = some (.lst (ws ++ [.ref t])) := upd_same
  generalize upd H F.rw (.lst (ws ++ [.ref t])) = H' at kp hP ⊢
  obtain ⟨w1, h1, g1⟩ := S.p1
  obtain ⟨w2, h2, g2⟩ := S.p2
  obtain ⟨w3, h3, g3⟩ := S.p3
  rw [h] at h3
  cases h3
  have nd := O.nd
  unfold Fix.W at nd
  simp only [List.nodup_cons, List.mem_cons, List.not_mem_nil, or_false, not_or, not_false_eq_true, List.nodup_nil, and_true] at nd
  obtain ⟨⟨a1, a2, a3, a4⟩, ⟨b1, b2, b3⟩, ⟨c1, c2⟩, d1⟩ := nd
  have mW : F.rw ∈ F.W := by unfold Fix.W; simp
  have k' := keepsAll mW kp
  have m := S.muts
  have nbk := kp _ _ (S.nbk mW) S.bk
  have npl := kp _ _ (S.npl mW) S.pl
  have s : Same H2 H' := fun x o q => kp _ _ (ne_of_none q O.nr) (S.same _ _ q)
  have hl' : hid F.W H' l = some (.lst xs) := k' _ _ (hid_at lW hl)
  have ht' : hid F.W H' t = some (.tup [.int n, .ref l]) := k' _ _ (hid_tup m ht)
  have hA' : LAt (hid F.W H') xs ls := At.same (hid_At m hA) k'
  exact ⟨s, nbk, npl, ⟨w1, kp _ _ a2 h1, g1.same k'⟩, ⟨w2, kp _ _ b1 h2, g2.same k'⟩, ⟨_, hP, RwAt.snoc (e := (n, ls)) (g3.mono k') ht' hl' hA'⟩, kp _ _ (Ne.symm c1) S.p4, kp _ _ (Ne.symm c2) S.p5⟩
theorem S5.closed (O : F.Ok H2) (S : S5 F H2 E1 E2 R rs us H) {r : V} (kp : ∀ x o, x ≠ F.RB → x ≠ F.UB → H x = some o → H' x = some o) (hR : H' F.RB = some (.lst (rs ++ [r]))) (hU : H' F.UB = some (.lst (us ++ [r]))) :
    S5 F H2 E1 E2 R (rs ++ [r]) (us ++ [r]) H' ∧ Same (hid F.W H) (hid F.W H') := by
  obtain ⟨w1, h1, g1⟩ := S.p1
  obtain ⟨w2, h2, g2⟩ := S.p2
  obtain ⟨w3, h3, g3⟩ := S.p3
  have nd := O.nd
  unfold Fix.W at nd
  simp only [List.nodup_cons, List.mem_cons, List.not_mem_nil, or_false, not_or, not_false_eq_true, List.nodup_nil, and_true] at nd
  obtain ⟨⟨a1, a2, a3, a4⟩, ⟨b1, b2, b3⟩, ⟨c1, c2⟩, d1⟩ := nd
  have mR : F.RB ∈ F.W := by unfold Fix.W; simp
  have mU : F.UB ∈ F.W := by unfold Fix.W; simp
  have k' : Same (hid F.W H) (hid F.W H') := hid_same fun x o hx q => kp x o (fun z => hx (z ▸ mR)) (fun z => hx (z ▸ mU)) q
  have nbk := kp _ _ (S.nbk mR) (S.nbk mU) S.bk
  have npl := kp _ _ (S.npl mR) (S.npl mU) S.pl
  have s : Same H2 H' := fun x o q => kp _ _ (ne_of_none q O.nR) (ne_of_none q O.nU) (S.same _ _ q)
  exact ⟨⟨s, nbk, npl, ⟨w1, kp _ _ a3 a4 h1, g1.same k'⟩, ⟨w2, kp _ _ b2 b3 h2, g2.same k'⟩, ⟨w3, kp _ _ c1 c2 h3, g3.mono k'⟩, hR, hU⟩, k'⟩
end
end K34

/-! the law -/
namespace K34
open PySem PySem.Spec PyProof.Rows L2
/-! ### slices -/
theorem cutV_nat (xs : List V) (a b : Nat) : cutV xs (some (a : Int)) (some (b : Int)) = (xs.drop (min a xs.length)).take (min b xs.length - min a xs.length) := by
  unfold cutV
  rw [HT.sIx_nat, HT.sIx_nat]
theorem cut_lo (xs : List V) {c : Int} (h0 : 0 ≤ c) (h1 : c ≤ xs.length) : cutV xs none (some c) = xs.take c.toNat := by
  obtain ⟨j, rfl⟩ : ∃ j : Nat, c = (j : Int) := ⟨c.toNat, by omega⟩
  unfold cutV
  rw [HT.sIx_nat, HT.sIx_none]
  have e : min j xs.length = j := by omega
  rw [e]
  simp
theorem cut_hi (xs : List V) {c : Int} (h0 : 0 ≤ c) (h1 : c ≤ xs.length) : cutV xs (some c) none = xs.drop c.toNat := by
  obtain ⟨j, rfl⟩ : ∃ j : Nat, c = (j : Int) := ⟨c.toNat, by omega⟩
  unfold cutV
  rw [HT.sIx_nat, HT.sIx_none]
  have e : min j xs.length = j := by omega
  rw [e]
  refine List.take_of_length_le ?_
  rw [List.length_drop]
  simp
theorem cut3 (ns : List Int) (i : Nat) (h : 5 + 3 * i ≤ ns.length) : ∃ c0 c1 c2 : Int, cutV (ns.map V.int) (some (2 + 3 * (0 + (i : Int)))) (some (5 + 3 * (0 + (i : Int)))) = [.int c0, .int c1, .int c2] := by
  have e1 : (2 + 3 * (0 + (i : Int))) = ((2 + 3 * i : Nat) : Int) := by omega
  have e2 : (5 + 3 * (0 + (i : Int))) = ((5 + 3 * i : Nat) : Int) := by omega
  rw [e1, e2, cutV_nat, List.length_map, show min (2 + 3 * i) ns.length = 2 + 3 * i by omega, show min (5 + 3 * i) ns.length = 5 + 3 * i by omega, show 5 + 3 * i - (2 + 3 * i) = 3 by omega, ← List.map_drop, ← List.map_take]
  have l3 : ((ns.drop (2 + 3 * i)).take 3).length = 3 := by
    rw [List.length_take, List.length_drop]
    omega
  match (ns.drop (2 + 3 * i)).take 3, l3 with
  | [a, b, c], _ => exact ⟨a, b, c, rfl⟩
theorem cut50 (ns : List Int) : (cutV (ns.map V.int) (some 2) (some 50)).length = min 50 ns.length - min 2 ns.length := by
  have e := cutV_nat (ns.map V.int) 2 50
  have e' : cutV (ns.map V.int) (some 2) (some 50) = ((ns.map V.int).drop (min 2 (ns.map V.int).length)).take (min 50 (ns.map V.int).length - min 2 (ns.map V.int).length) := e
  rw [e', List.length_take, List.length_drop, List.length_map]
  omega
theorem cutInts (ns : List Int) (a b : Nat) : ∃ ms : List Int, cutV (ns.map V.int) (some (a : Int)) (some (b : Int)) = ms.map V.int ∧ ms.length ≤ ns.length := by
  rw [cutV_nat, ← List.map_drop, ← List.map_take]
  refine ⟨_, rfl, ?_⟩
  rw [List.length_take, List.length_drop]
  omega
/-- a def by its global name -/
def GD (P : Program) (w : World) (K : PySem.W.Frag) (mg : Str → Option Value) (base : Heap) (k : Nat) (x : Str) (ps : List Str) (sp : Sp) : Prop :=
  ∃ (f : Addr) (fd : FuncData), mg x = some (.ref f) ∧ PySem.W.keepIn K (.ref f) = true ∧ Binds K fd ps [] ∧ FnOk P w K mg base CX0 k f fd ps sp
/-- a method of both classes -/
def MD (P : Program) (w : World) (K : PySem.W.Frag) (mg : Str → Option Value) (base : Heap) (cB cK : Addr) (k : Nat) (x : Str) (ps : List Str) (sp : Sp) : Prop :=
  ∃ (f : Addr) (fd : FuncData), (∀ kept, Meth K (cOf cB cK kept) x f) ∧ Binds K fd ps [] ∧ FnOk P w K mg base CX0 k f fd ps sp
/-- a class by its global name -/
def KD (P : Program) (w : World) (K : PySem.W.Frag) (mg : Str → Option Value) (base : Heap) (C : Addr) (k : Nat) (x : Str) (sp : Sp) : Prop :=
  mg x = some (.ref C) ∧ ∃ (f : Addr) (fd : FuncData), Mk K C f ∧ Binds K fd ["self", "firm"] [] ∧ FnOk P w K mg base CX0 k f fd ["self", "firm"] sp
def spLaw (K : PySem.W.Frag) : Sp := fun vs H Q _ => ∃ (a : Addr) (ns : List Int), vs = [.ref a] ∧ SqL K H a (ns.map V.int) ∧ ns.length ≤ 63 ∧ ∀ H', Q (.bl true) H'
structure Law (P : Program) (w : World) (K : PySem.W.Frag) (mg : Str → Option Value) (base : Heap) (cB cK : Addr) : Prop where
  names : GD P w K mg base 1 "_law_names" ["_law_cell_here"] spNames
  cell : GD P w K mg base 1 "_law_cell" ["_law_script", "_law_k"] (spCell K)
  lines : GD P w K mg base 2 "_law_lines" ["_law_names_here", "_law_what", "_law_cell_here"] spLines
  lmonth : GD P w K mg base 1 "_law_month" ["_law_rows", "_law_month_here"] spLMonth
  lfigs : GD P w K mg base 1 "_law_figures" ["_law_lines_here"] (spFigs K)
  moved : GD P w K mg base 2 "movement_of" ["book", "month"] (spMoved cB cK)
  same : GD P w K mg base 2 "_law_same" ["_law_found", "_law_due"] spSame
  carr : GD P w K mg base 3 "_law_carried" ["_law_one", "_law_other", "_law_due"] spLCarried
  post : MD P w K mg base cB cK 3 "post" ["self", "day", "about", "lines"] (spPost cB cK)
  close : ∃ (f : Addr) (fd : FuncData), Meth K cK "close" f ∧ Binds K fd ["self"] [] ∧ FnOk P w K mg base CX0 5 f fd ["self"] (spClose cK)
  kept : KD P w K mg base cK 2 "KeptBook" (spKInit cK)
  book : KD P w K mg base cB 1 "Book" (spBInit K)
  cl : ∀ kept, Cl K (cOf cB cK kept)
  range : mg "range" = none
  len : mg "len" = none
  list : mg "list" = none
section
variable {P : Program} {w : World} {K : PySem.W.Frag} {mg : Str → Option Value} {base : Heap}
theorem ok_law {f cB cK : Addr} {fd : FuncData} (F : Fun K "law" "law" sLaw f fd) (T : Law P w K mg base cB cK) : FnOk P w K mg base CX0 6 f fd ["_law_script"] (spLaw K) := by
  obtain ⟨fN, fdN, gN, kN, bN, GN⟩ := T.names
  obtain ⟨fC, fdC, gC, kC, bC, GC⟩ := T.cell
  obtain ⟨fL, fdL, gL, kL, bL, GL⟩ := T.lines
  obtain ⟨fM, fdM, gM, kM, bM, GM⟩ := T.lmonth
  obtain ⟨fF, fdF, gF, kF, bF, GF⟩ := T.lfigs
  obtain ⟨fV, fdV, gV, kV', bV, GV⟩ := T.moved
  obtain ⟨fS, fdS, gS, kS, bS, GS⟩ := T.same
  obtain ⟨fY, fdY, gY, kY, bY, GY⟩ := T.carr
  obtain ⟨fP, fdP, mP, bP, GP⟩ := T.post
  obtain ⟨fZ, fdZ, mZ, bZ, GZ⟩ := T.close
  obtain ⟨gK, fK', fdK, MK, bK, GK⟩ := T.kept
  obtain ⟨gB, fB', fdB, MB, bB, GB⟩ := T.book
  have TB := T.cl false
  have TK := T.cl true
  have mPB := mP false
  have mPK := mP true
  have mRange := T.range
  have mLen := T.len
  have mList := T.list
  refine F.ok scLaw (fun vs H Q E h => ?_) (fun cdv A outer s H vs Q E hr h => ?_)
  · obtain ⟨a, ns, rfl, _⟩ := h
    rfl
  · obtain ⟨a, ns, rfl, hS, hlen, q⟩ := h
    have hr1 : Room 1 _ := hr.mono (by decide)
    have hr2 : Room 2 _ := hr.mono (by decide)
    have hr3 : Room 3 _ := hr.mono (by decide)
    refine ⟨_, pss_cons (ps_set (i := 1) scLaw.nd rfl (.inl rfl) (pe_call GN hr1 (by rfl) gN kN bN .nil pass0 (pa_cons (pe_call GC hr1 (by rfl) gC kC bC .nil pass0 (pa_cons (pv 0) (pa_cons pe_int pa_nil))) pa_nil))) (pss_cons (ps_set (i := 2) scLaw.nd rfl (.inl rfl) (pe_op op_mod (pe_call GC hr1 (by rfl) gC kC bC .nil pass0 (pa_cons (pv 0) (pa_cons pe_int pa_nil))) pe_int)) (pss_cons (ps_set (i := 3) scLaw.nd rfl (.inl rfl) (pe_make MK GK hr3 (by rfl) gK bK .nil pass0 (pa_cons (pe_ix ix_list (pv 1) pe_int (fun _ _ => rfl)) pa_nil))) (pss_cons (ps_set (i := 4) scLaw.nd rfl (.inl rfl) (pe_make MB GB hr2 (by rfl) gB bB .nil pass0 (pa_cons (pe_ix ix_list (pv 1) pe_int (fun _ _ => rfl)) pa_nil))) (pss_cons (ps_set (i := 5) scLaw.nd rfl (.inl rfl) (pe_lst pa_nil)) (Evl.pss_cut (ps_for PassesOwn.never rfl (pi_range1 (by rfl) mRange (pa_cons (pe_op op_fdiv (pe_callB call_len_seq (by rfl) mLen PySem.boot_len (pa_cons (pe_slice sl_list (pv 0) (po_some pe_int) (po_some pe_int)) pa_nil)) pe_int) pa_nil)) (pg_name (i := 6) scLaw.nd rfl (.inl rfl)) (pss_cons (ps_set (i := 7) scLaw.nd rfl (.inl rfl) (pe_slice sl_list (pv 0) (po_some (pe_op op_add pe_int (pe_op op_mul pe_int (pv 6)))) (po_some (pe_op op_add pe_int (pe_op op_mul pe_int (pv 6)))))) (pss_cons (ps_set (i := 8) scLaw.nd rfl (.inl rfl) (pe_op op_mod (pe_ix ix_list (pv 7) pe_int (fun _ _ => rfl)) pe_int)) (pss_cons (ps_set (i := 9) scLaw.nd rfl (.inl rfl) (pe_call GL hr2 (by rfl) gL kL bL .nil pass0 (pa_cons (pv 1) (pa_cons (pe_ix ix_list (pv 7) pe_int (fun _ _ => rfl)) (pa_cons (pe_ix ix_list (pv 7) pe_int (fun _ _ => rfl)) pa_nil))))) (pss_cons (ps_expr (pe_meth (pv 3) TK.cl mPK GP hr3 bP .nil pass0 (pa_cons (pv 8) (pa_cons (pv 6) (pa_cons (pe_callTy call_list_of (by rfl) mList (by decide +kernel) (pa_cons (pv 9) pa_nil)) pa_nil))))) (pss_cons (ps_expr (pe_meth (pv 4) TB.cl mPB GP hr3 bP .nil pass0 (pa_cons (pe_op op_add (pv 8) (pe_op op_mul pe_int (pv 2))) (pa_cons (pv 6) (pa_cons (pe_callTy call_list_of (by rfl) mList (by decide +kernel) (pa_cons (pv 9) pa_nil)) pa_nil))))) (pss_one (ps_expr (pe_bm PySem.F.plainAttrs_list PySem.F.slot_list_append PySem.F.type_list_append mt_append (pv 5) (pa_cons (pe_tup (pa_cons (pe_op op_fdiv (pv 8) pe_int) (pa_cons (pv 9) pa_nil))) pa_nil)))))))))) (pss_cons (ps_set (i := 10) scLaw.nd rfl (.inl rfl) (pe_lst pa_nil)) (pss_cons (ps_set (i := 11) scLaw.nd rfl (.inl rfl) (pe_lst pa_nil)) (Evl.pss_cut (ps_for PassesOwn.never rfl (pi_range1 (by rfl) mRange (pa_cons pe_int pa_nil)) (pg_name (i := 12) scLaw.nd rfl (.inl rfl)) (pss_cons (ps_set (i := 13) scLaw.nd rfl (.inl rfl) (pe_call GM hr1 (by rfl) gM kM bM .nil pass0 (pa_cons (pv 5) (pa_cons (pv 12) pa_nil)))) (pss_cons (ps_set (i := 14) scLaw.nd rfl (.inl rfl) (pe_call GF hr1 (by rfl) gF kF bF .nil pass0 (pa_cons (pv 13) pa_nil))) (pss_cons (ps_set (i := 10) scLaw.nd rfl (.inl rfl) (pe_op op_cat (pv 10) (pv 13))) (pss_cons (ps_set (i := 15) scLaw.nd rfl (.inl rfl) (pe_call GV hr2 (by rfl) gV kV' bV .nil pass0 (pa_cons (pv 3) (pa_cons (pv 12) pa_nil)))) (pss_cons (ps_if (PW.pt (pw_or (pt_not (pt_val (pe_call GS hr2 (by rfl) gS kS bS .nil pass0 (pa_cons (pv 15) (pa_cons (pv 14) pa_nil))))) (pw_or1 (pt_not (pt_val (pe_call GS hr2 (by rfl) gS kS bS .nil pass0 (pa_cons (pe_call GV hr2 (by rfl) gV kV' bV .nil pass0 (pa_cons (pv 4) (pa_cons (pe_op op_add (pv 12) (pv 2)) pa_nil))) (pa_cons (pv 14) pa_nil)))))))) (pss_one ps_never) pss_nil) (pss_cons (ps_set (i := 16) scLaw.nd rfl (.inl rfl) (pe_meth0 (pv 3) TK.cl mZ GZ hr bZ .nil pass0)) (pss_cons (ps_if (PW.pt (pw_or (pt_not (pt_val (pe_call GS hr2 (by rfl) gS kS bS .nil pass0 (pa_cons (pe_ix ix_tup (pv 16) pe_int (fun _ _ => rfl)) (pa_cons (pe_call GF hr1 (by rfl) gF kF bF .nil pass0 (pa_cons (pv 10) pa_nil)) pa_nil))))) (pw_or1 (pt_not (pt_val (pe_call GY hr3 (by rfl) gY kY bY .nil pass0 (pa_cons (pv 11) (pa_cons (pv 14) (pa_cons (pe_ix ix_tup (pv 16) pe_int (fun _ _ => rfl)) pa_nil))))))))) (pss_one ps_never) pss_nil) (pss_one (ps_set (i := 11) scLaw.nd rfl (.inl rfl) (pe_ix ix_tup (pv 16) pe_int (fun _ _ => rfl)))))))))))) (pss_cons (ps_set (i := 17) scLaw.nd rfl (.inl rfl) (pe_lst pa_nil)) (Evl.pss_cut (ps_for PassesOwn.never rfl (pi_list (pe_slice sl_list (pv 0) (po_some pe_int) (po_some pe_int))) (pg_name (i := 18) scLaw.nd rfl (.inl rfl)) (pss_one (ps_set (i := 17) scLaw.nd rfl (.inl rfl) (pe_op op_cat (pv 17) (pe_call GL hr2 (by rfl) gL kL bL .nil pass0 (pa_cons (pv 1) (pa_cons (pe_op op_fdiv (pv 18) pe_int) (pa_cons (pv 18) pa_nil)))))))) (pss_cons (ps_set (i := 19) scLaw.nd rfl (.inl rfl) (pe_op op_mod (pe_op op_fdiv (pe_call GC hr1 (by rfl) gC kC bC .nil pass0 (pa_cons (pv 0) (pa_cons pe_int pa_nil))) pe_int) (pe_op op_add (pe_callB call_len_seq (by rfl) mLen PySem.boot_len (pa_cons (pv 17) pa_nil)) pe_int))) (pss_cons (ps_set (i := 20) scLaw.nd rfl (.inl rfl) (pe_call GF hr1 (by rfl) gF kF bF .nil pass0 (pa_cons (pe_slice sl_list (pv 17) po_none (po_some (pv 19))) pa_nil))) (pss_cons (ps_set (i := 21) scLaw.nd rfl (.inl rfl) (pe_call GF hr1 (by rfl) gF kF bF .nil pass0 (pa_cons (pe_slice sl_list (pv 17) (po_some (pv 19)) po_none) pa_nil))) (pss_cons (ps_set (i := 14) scLaw.nd rfl (.inl rfl) (pe_call GF hr1 (by rfl) gF kF bF .nil pass0 (pa_cons (pv 17) pa_nil))) (pss_one (ps_ret (pe_and (pe_call GY hr3 (by rfl) gY kY bY .nil pass0 (pa_cons (pv 20) (pa_cons (pv 21) (pa_cons (pv 14) pa_nil)))) (pe_one (pe_call GY hr3 (by rfl) gY kY bY .nil pass0 (pa_cons (pv 21) (pa_cons (pv 20) (pa_cons (pv 14) pa_nil)))))))))))))))))))))), ?_⟩
    -- names, far
    refine ⟨_, rfl, a, ns, 0, rfl, hS, fun c0 => ⟨c0, rfl, fun H1 nm na nb nc s1 nnm hnm l1 l2 l3 => ?_⟩⟩
    refine ⟨_, rfl, a, ns, 1, rfl, s1.seq hS, fun c1 => ⟨_, _, rfl, rfl, (by show (0 : Int) < 327; decide), ?_⟩⟩
    have hS1 := s1.seq hS
    -- book = KeptBook(names[0])
    refine ⟨_, rfl, nm, _, 0, .str na, rfl, rfl, SqL.of hnm, atI_nat (j := 0) rfl, fun bk dx1 nbk ndx1 nex1 => ?_⟩
    refine ⟨bk, dx1, na, rfl, upd_same, fun H2 PB RB UB nP nR nU e1 e2 e3 k1 hbk hPB hRB hUB => ⟨rfl, ?_⟩⟩
    have s12 : Same H1 H2 := fun b o e => k1 b o (ne_of_none e nbk) (by rw [upd_ne (ne_of_none e nbk), upd_ne (ne_of_none e ndx1)]; exact e)
    have nP1 := (upd_free (upd_free nP).2).2
    have nR1 := (upd_free (upd_free nR).2).2
    have nU1 := (upd_free (upd_free nU).2).2
    -- plain = Book(names[0])
    refine ⟨_, rfl, nm, _, 0, .str na, rfl, rfl, SqL.of (s12 _ _ hnm), atI_nat (j := 0) rfl, fun pl dx2 npl ndx2 nex2 => ?_⟩
    refine ⟨cB, pl, dx2, na, rfl, TB, upd_same, fun H3 P2 n2 k2 hpl hP2 => ⟨rfl, ?_⟩⟩
    have s23 : Same H2 H3 := fun b o e => k2 b o (ne_of_none e npl) (by rw [upd_ne (ne_of_none e npl), upd_ne (ne_of_none e ndx2)]; exact e)
    have n22 := (upd_free (upd_free n2).2).2
    -- rows = []
    refine ⟨Nat.zero_le _, fun rw nrw => ?_⟩
    have s34 : Same H3 (upd H3 rw (.lst [])) := same_upd nrw
    have hrw : upd H3 rw (.lst []) rw = some (.lst []) := upd_same
    generalize upd H3 rw (.lst []) = H4 at s34 hrw ⊢
    have s13 := s12.trans s23
    have O : Fix.Ok ⟨cB, cK, bk, pl, dx1, dx2, PB, P2, rw, RB, UB, na⟩ H1 := by
      refine ⟨nP1, s12.free n22, s13.free nrw, nR1, nU1, ?_⟩
      unfold Fix.W
      simp only [List.nodup_cons, List.mem_cons, List.not_mem_nil, or_false, not_or, not_false_eq_true, List.nodup_nil, and_true]
      exact ⟨⟨ne_of_none hPB n22, ne_of_none (s23 _ _ hPB) nrw, e1, e2⟩, ⟨ne_of_none hP2 nrw, (ne_of_none hRB n22).symm, (ne_of_none hUB n22).symm⟩, ⟨(ne_of_none (s23 _ _ hRB) nrw).symm, (ne_of_none (s23 _ _ hUB) nrw).symm⟩, e3⟩
    have S4 : S5 ⟨cB, cK, bk, pl, dx1, dx2, PB, P2, rw, RB, UB, na⟩ H1 [] [] [] [] [] H4 :=
      ⟨s13.trans s34, s34 _ _ (s23 _ _ hbk), s34 _ _ hpl, ⟨[], s34 _ _ (s23 _ _ hPB), .nil⟩, ⟨[], s34 _ _ hP2, .nil⟩, ⟨[], hrw, .nil⟩, s34 _ _ (s23 _ _ hRB), s34 _ _ (s23 _ _ hUB)⟩
    generalize hFx : (⟨cB, cK, bk, pl, dx1, dx2, PB, P2, rw, RB, UB, na⟩ : Fix) = Fx at O S4
    have fB : Fx.cB = cB := by rw [← hFx]
    have fK : Fx.cK = cK := by rw [← hFx]
    have fbk : Fx.bk = bk := by rw [← hFx]
    have fpl : Fx.pl = pl := by rw [← hFx]
    have fd1 : Fx.dx1 = dx1 := by rw [← hFx]
    have fd2 : Fx.dx2 = dx2 := by rw [← hFx]
    have fPB : Fx.PB = PB := by rw [← hFx]
    have fP2 : Fx.P2 = P2 := by rw [← hFx]
    have frw : Fx.rw = rw := by rw [← hFx]
    have fRB : Fx.RB = RB := by rw [← hFx]
    have fUB : Fx.UB = UB := by rw [← hFx]
    have ffm : Fx.firm = na := by rw [← hFx]
    have bkK : ∀ {E1 E2 R : List (Int × List Ln)} {rs us : List V} {H : Hp}, S5 Fx H1 E1 E2 R rs us H → H bk = some (.ins (cOf cB cK true) dx1 (K34.fK na PB RB UB)) := fun S => by
      have z := S.bk
      rw [fbk, fK, fd1, ffm, fPB, fRB, fUB] at z
      exact z
    have plB : ∀ {E1 E2 R : List (Int × List Ln)} {rs us : List V} {H : Hp}, S5 Fx H1 E1 E2 R rs us H → H pl = some (.ins (cOf cB cK false) dx2 (K34.fB na P2)) := fun S => by
      have z := S.pl
      rw [fpl, fB, fd2, ffm, fP2] at z
      exact z
    have lk := cut50 ns
    -- the pages
    refine ⟨fun σ' H' => ∃ (v6 v7 v8 v9 : Option V) (E : List (Int × List Ln)), σ' = [some (.ref a), some (.ref nm), some (.int (c1 % 327)), some (.ref bk), some (.ref pl), some (.ref rw), v6, v7, v8, v9, none, none, none, none, none, none, none, none, none, none, none, none] ∧
      S5 Fx H1 E (shf (c1 % 327) E) (mE E) [] [] H' ∧ E.length ≤ 16 ∧ sizeL E ≤ 64 ∧ ∀ e ∈ E, 0 ≤ e.1, ?_, ?_⟩
    · refine ⟨_, rfl, 2, rfl, 50, rfl, a, _, rfl, (s13.trans s34).seq hS1, fun p np => ?_⟩
      refine ⟨p, _, rfl, .inl (SqL.of upd_same), _, _, rfl, rfl, ⟨by decide, by decide⟩, _, rfl, by omega, by omega, for_range (n := (((cutV (ns.map V.int) (some 2) (some 50)).length : Int) / 3).toNat) (fun i σ' H' => ∃ (v6 v7 v8 v9 : Option V) (E : List (Int × List Ln)),
          σ' = [some (.ref a), some (.ref nm), some (.int (c1 % 327)), some (.ref bk), some (.ref pl), some (.ref rw), v6, v7, v8, v9, none, none, none, none, none, none, none, none, none, none, none, none] ∧ S5 Fx H1 E (shf (c1 % 327) E) (mE E) [] [] H' ∧ E.length = i ∧ sizeL E ≤ 4 * i ∧ ∀ e ∈ E, 0 ≤ e.1)
        ⟨none, none, none, none, [], rfl, S4.grow (same_upd np), rfl, Nat.le_refl _, fun e he => by simp at he⟩ ?_ ?_⟩
      · rintro i σ H5 hi ⟨v6, v7, v8, v9, E, rfl, S, lE, zE, pE⟩
        have hi16 : i < 16 := by omega
        have hi3 : 5 + 3 * i ≤ ns.length := by omega
        -- cells = script[2 + 3 * k : 5 + 3 * k]
        refine ⟨_, rfl, _, rfl, _, _, rfl, rfl, .inl ⟨by decide, by decide⟩, _, _, rfl, rfl, _, rfl, _, rfl, _, _, rfl, rfl, .inl ⟨by decide, by decide⟩, _, _, rfl, rfl, _, rfl, a, _, rfl, S.same.seq hS1, fun cl ncl => ?_⟩
        obtain ⟨x0, x1, x2, e3⟩ := cut3 ns i hi3
        dsimp only
        rw [e3]
        have sc : Same H5 (upd H5 cl (.lst [V.int x0, V.int x1, V.int x2])) := same_upd ncl
        have hcl : upd H5 cl (.lst [V.int x0, V.int x1, V.int x2]) cl = some (.lst [V.int x0, V.int x1, V.int x2]) := upd_same
        generalize upd H5 cl (.lst [V.int x0, V.int x1, V.int x2]) = H6 at sc hcl ⊢
        have S6 := S.grow sc
        -- day = cells[0] % 210
        refine ⟨_, rfl, cl, _, 0, .int x0, rfl, rfl, SqL.of hcl, atI_nat (j := 0) rfl, _, _, rfl, rfl, (by show (0 : Int) < 210; decide), ?_⟩
        have d0 := Int.emod_nonneg x0 (show (210 : Int) ≠ 0 by decide)
        -- page = _law_lines(names, cells[1], cells[2])
        refine ⟨_, rfl, _, rfl, cl, _, 1, .int x1, rfl, rfl, SqL.of hcl, atI_nat (j := 1) rfl, _, rfl, cl, _, 2, .int x2, rfl, rfl, SqL.of hcl, atI_nat (j := 2) rfl, nm, na, nb, nc, _, _, rfl, S6.same _ _ hnm, l2, fun H7 pg px ls s7 npg hpg apg bal l4 => ?_⟩
        have S7 := S6.grow s7
        have pgW : pg ∉ Fx.W := S6.notin npg
        have hdd : hid Fx.W H7 pg = some (.lst px) := hid_at pgW hpg
        have add : LAt (hid Fx.W H7) px ls := hid_At S7.muts apg
        -- book.post(day, k, list(page))
        obtain ⟨w1, hw1, g1⟩ := S7.p1
        have lw1 := g1.len
        refine ⟨_, rfl, bk, dx1, _, rfl, bkK S7, (fK_is na PB RB UB).no _ (by decide +kernel) (by decide +kernel) (by decide +kernel) (by decide +kernel), _, rfl, _, rfl, _, rfl, pg, px, rfl, .inl (SqL.of hpg), fun lc nlc => ?_⟩
        have s8 : Same H7 (upd H7 lc (.lst px)) := same_upd nlc
        have hlc : upd H7 lc (.lst px) lc = some (.lst px) := upd_same
        generalize upd H7 lc (.lst px) = H8 at s8 hlc ⊢
        have S8 := S7.grow s8
        refine ⟨true, bk, dx1, _, _, _, lc, px, ls, na, PB, w1, rfl, bkK S8, fK_is na PB RB UB, fun _ => ⟨UB, [], fK_upheld na PB RB UB, by rw [← fUB]; exact S8.p5, by show (0 : Int) ≤ x0 % 210 / 30; omega⟩, by rw [← fPB]; exact s8 _ _ hw1, by omega, hlc, At.same apg s8, by omega, bal, fun H9 t l nt nl kp hP ht hl v => ?_⟩
        have S9 : S5 Fx H1 (E ++ [(x0 % 210, ls)]) (shf (c1 % 327) E) (mE E) [] [] H9 := S8.post1 O (s8 _ _ hw1) nl (by rw [fPB]; exact kp) (by rw [fPB]; exact hP) ht hl (At.same apg s8)
        have mPB' : Fx.PB ∈ Fx.W := by unfold Fix.W; simp
        have h89 : Same (hid Fx.W H8) (hid Fx.W H9) := keepsAll mPB' (by rw [fPB]; exact kp)
        have h79 : Same (hid Fx.W H7) (hid Fx.W H9) := (hid_same fun x o _ q => s8 x o q).trans h89
        have hpg9 : H9 pg = some (.lst px) := hid_le _ _ (h79 _ _ hdd)
        have apg9 : LAt H9 px ls := At.same (At.same add h79) hid_le
        -- plain.post(day + 30 * far, k, list(page))
        obtain ⟨w2, hw2, g2⟩ := S9.p2
        have lw2 := g2.len
        rw [shf_len] at lw2
        refine ⟨_, rfl, pl, dx2, _, rfl, plB S9, (fB_is na P2).no _ (by decide +kernel) (by decide +kernel) (by decide +kernel) (by decide +kernel), _, rfl, _, rfl, _, _, rfl, rfl, .inl ⟨by decide, by decide⟩, _, _, rfl, rfl, _, rfl, _, rfl, pg, px, rfl, .inl (SqL.of hpg9), fun ld nld => ?_⟩
        have s10 : Same H9 (upd H9 ld (.lst px)) := same_upd nld
        have hld : upd H9 ld (.lst px) ld = some (.lst px) := upd_same
        generalize upd H9 ld (.lst px) = H10 at s10 hld ⊢
        have S10 := S9.grow s10
        refine ⟨false, pl, dx2, _, _, _, ld, px, ls, na, P2, w2, rfl, plB S10, fB_is na P2, (fun z => by cases z), by rw [← fP2]; exact s10 _ _ hw2, by omega, hld, At.same apg9 s10, by omega, bal, fun H11 t2 l2' nt2 nl2 kp2 hP2' ht2 hl2 v2 => ?_⟩
        have S11 : S5 Fx H1 (E ++ [(x0 % 210, ls)]) (shf (c1 % 327) E ++ [(x0 % 210 + 30 * (c1 % 327), ls)]) (mE E) [] [] H11 := S10.post2 O (s10 _ _ hw2) nl2 (by rw [fP2]; exact kp2) (by rw [fP2]; exact hP2') ht2 hl2 (At.same apg9 s10)
        have mP2' : Fx.P2 ∈ Fx.W := by unfold Fix.W; simp
        have h1011 : Same (hid Fx.W H10) (hid Fx.W H11) := keepsAll mP2' (by rw [fP2]; exact kp2)
        have h711 : Same (hid Fx.W H7) (hid Fx.W H11) := h79.trans ((hid_same fun x o _ q => s10 x o q).trans h1011)
        -- rows.append((day // 30, page))
        obtain ⟨w3, hw3, g3⟩ := S11.p3
        have lw3 : w3.length = (mE E).length := Paired.length g3
        rw [show (mE E).length = E.length by unfold mE; rw [List.length_map]] at lw3
        have hw3' : H11 rw = some (.lst w3) := by rw [← frw]; exact hw3
        refine ⟨_, rfl, .inl ⟨rfl, _, SqL.of hw3'⟩, _, rfl, _, _, rfl, rfl, ⟨by decide, by decide⟩, _, rfl, (by show 2 ≤ sizeLine; decide), fun tt ntt => ?_⟩
        dsimp only
        have s12' : Same H11 (upd H11 tt (.tup [V.int (x0 % 210 / 30), V.ref pg])) := same_upd ntt
        have htt : upd H11 tt (.tup [V.int (x0 % 210 / 30), V.ref pg]) tt = some (.tup [V.int (x0 % 210 / 30), V.ref pg]) := upd_same
        generalize upd H11 tt (.tup [V.int (x0 % 210 / 30), V.ref pg]) = H12 at s12' htt ⊢
        have S12 := S11.grow s12'
        have h712 : Same (hid Fx.W H7) (hid Fx.W H12) := h711.trans (hid_same fun x o _ q => s12' x o q)
        have S13 := S12.row O (s12' _ _ hw3) pgW htt (hid_le _ _ (h712 _ _ hdd)) (At.same (At.same add h712) hid_le)
        rw [frw] at S13
        refine ⟨rw, w3, _, rfl, rfl, s12' _ _ hw3', szl (by omega), ?_⟩
        refine ⟨_, _, _, _, E ++ [(x0 % 210, ls)], rfl, ?_, ?_, ?_, ?_⟩
        · rw [shf_snoc, mE_snoc]
          exact S13
        · rw [List.length_append, lE]
          rfl
        · rw [sizeL_snoc]
          show sizeL E + ls.length ≤ _
          omega
        · intro e he
          rcases List.mem_append.mp he with he | he
          · exact pE e he
          · rw [List.mem_singleton.mp he]
            exact d0
      · rintro σ H5 ⟨v6, v7, v8, v9, E, rfl, S, lE, zE, pE⟩
        exact ⟨v6, v7, v8, v9, E, rfl, S, by omega, by omega, pE⟩
    rintro σ H5 ⟨v6, v7, v8, v9, E, rfl, S, lE, zE, pE⟩
    have lR : ∀ e ∈ mE E, 0 ≤ e.1 := mE_low pE
    have zR : sizeL (mE E) ≤ 64 := by rw [sizeL_mE]; exact zE
    -- ahead = [], figures_here = []
    refine ⟨Nat.zero_le _, fun ah0 nah0 => ?_⟩
    have s6 : Same H5 (upd H5 ah0 (.lst [])) := same_upd nah0
    have hah0 : upd H5 ah0 (.lst []) ah0 = some (.lst []) := upd_same
    generalize upd H5 ah0 (.lst []) = H6 at s6 hah0 ⊢
    refine ⟨Nat.zero_le _, fun fh0 nfh0 => ?_⟩
    have s7 : Same H6 (upd H6 fh0 (.lst [])) := same_upd nfh0
    have hfh0 : upd H6 fh0 (.lst []) fh0 = some (.lst []) := upd_same
    generalize upd H6 fh0 (.lst []) = H7 at s7 hfh0 ⊢
    have S6 := S.grow s6
    have S7 := S6.grow s7
    have hs : ∀ {A B : Hp}, Same A B → Same (hid Fx.W A) (hid Fx.W B) := fun k => hid_same fun x o _ q => k x o q
    refine ⟨fun σ' H' => ∃ (v6 v7 v8 v9 v10 v11 v12 v13 v14 v15 v16 : Option V), σ' = [some (.ref a), some (.ref nm), some (.int (c1 % 327)), some (.ref bk), some (.ref pl), some (.ref rw), v6, v7, v8, v9, v10, v11, v12, v13, v14, v15, v16, none, none, none, none, none] ∧ Same H1 H', ?_, ?_⟩
    · refine ⟨7, rfl, by decide, by decide, for_range (n := 7) (fun m σ' H' => ∃ (v12 v13 v14 v15 v16 : Option V) (ah fh : Addr) (ax fx : List V) (fgs : List Fg) (rs us : List V),
          σ' = [some (.ref a), some (.ref nm), some (.int (c1 % 327)), some (.ref bk), some (.ref pl), some (.ref rw), v6, v7, v8, v9, some (.ref ah), some (.ref fh), v12, v13, v14, v15, v16, none, none, none, none, none] ∧
          S5 Fx H1 E (shf (c1 % 327) E) (mE E) rs us H' ∧ rs.length = m ∧ us.length = m ∧ hid Fx.W H' ah = some (.lst ax) ∧ LAt (hid Fx.W H') ax (aheadL (mE E) m) ∧ hid Fx.W H' fh = some (.lst fx) ∧ FAt (hid Fx.W H') fx fgs ∧
          IsFigs fgs (amtOf (aheadL (mE E) m)) (worOf (aheadL (mE E) m)) ∧ fgs.length ≤ 64)
        ⟨none, none, none, none, none, ah0, fh0, [], [], [], [], [], rfl, S7, rfl, rfl, hs s7 _ _ (hid_at (S.notin nah0) hah0), .nil, hid_at (S6.notin nfh0) hfh0, .nil, .nil (fun _ _ => rfl) (fun _ _ => rfl), Nat.zero_le _⟩ ?_ ?_⟩
      · rintro i σ H8 hi ⟨v12, v13, v14, v15, v16, ah, fh, ax, fx, fgs, rs, us, rfl, S8, lrs, lus, hah, aah, hfh, afh, ifg, lfg⟩
        rw [show (0 : Int) + (i : Int) = (i : Int) from Int.zero_add _]
        -- lines_here = _law_month(rows, month)
        obtain ⟨w3, hw3, g3⟩ := S8.p3
        refine ⟨_, rfl, _, rfl, rw, w3, mE E, _, rfl, by rw [← frw]; exact hw3, g3.mono hid_le, by omega, fun H9 lh lx s9 nlh hlh alh => ?_⟩
        have S9 := S8.grow s9
        have lml := monthL_len (mE E) (i : Int)
        -- due = _law_figures(lines_here)
        refine ⟨_, rfl, lh, lx, _, rfl, SqL.of hlh, At.same alh s9, by omega, fun H10 du dx fd' s10 ndu hdu fdu isd ld => ?_⟩
        have S10 := S9.grow s10
        have hdu' : hid Fx.W H10 du = some (.lst dx) := hid_at (S9.notin ndu) hdu
        have fdu' : FAt (hid Fx.W H10) dx fd' := hid_At S10.muts fdu
        -- ahead = ahead + lines_here
        have k810 : Same (hid Fx.W H8) (hid Fx.W H10) := hs (s9.trans s10)
        have hah10 := k810 _ _ hah
        have aah10 := At.same aah k810
        have alh10 : LAt (hid Fx.W H10) lx (monthL (mE E) (i : Int)) := At.same (hid_At S8.muts alh) k810
        have lal := aheadL_len (mE E) i
        have lal7 : i * sizeL (mE E) ≤ 7 * 64 := Nat.mul_le_mul (by omega) zR
        have lax : ax.length ≤ 448 := by
          rw [aah.len]
          omega
        have llx : lx.length ≤ 64 := by
          rw [alh.len]
          omega
        refine ⟨_, rfl, _, rfl, ah, lh, ax, lx, rfl, rfl, hid_le _ _ hah10, s10 _ _ hlh, sz (by omega), fun ah2 nah2 => ?_⟩
        have s11 : Same H10 (upd H10 ah2 (.lst (ax ++ lx))) := same_upd nah2
        have hah2 : upd H10 ah2 (.lst (ax ++ lx)) ah2 = some (.lst (ax ++ lx)) := upd_same
        generalize upd H10 ah2 (.lst (ax ++ lx)) = H11 at s11 hah2 ⊢
        have S11 := S10.grow s11
        have hah2' : hid Fx.W H11 ah2 = some (.lst (ax ++ lx)) := hid_at (S10.notin nah2) hah2
        have aah2 : LAt (hid Fx.W H11) (ax ++ lx) (aheadL (mE E) (i + 1)) := At.same (LAt.app aah10 alh10) (hs s11)
        have k811 := k810.trans (hs s11)
        -- moved = movement_of(book, month)
        have lE' : E.length ≤ 1000 := by omega
        have zE' : sizeL E ≤ 10000 := by omega
        have BB : ∀ {H : Hp} {rs us : List V}, S5 Fx H1 E (shf (c1 % 327) E) (mE E) rs us H → BkAt cB cK H bk na PB E := fun S => by
          have z := S.book
          rw [fB, fK, fbk, ffm, fPB] at z
          exact z
        have BP : ∀ {H : Hp} {rs us : List V}, S5 Fx H1 E (shf (c1 % 327) E) (mE E) rs us H → BkAt cB cK H pl na P2 (shf (c1 % 327) E) := fun S => by
          have z := S.plain
          rw [fB, fK, fpl, ffm, fP2] at z
          exact z
        refine ⟨_, rfl, _, rfl, bk, na, PB, E, _, rfl, BB S11, lE', zE', fun H12 mo mx fm s12 nmo hmo fmo ism lm => ?_⟩
        have S12 := S11.grow s12
        have efm : fm = fd' := ism.uniq isd (fun _ _ => rfl) (fun _ _ => rfl)
        subst efm
        -- both movements are those of the lines
        have hdu12 : hid Fx.W H12 du = some (.lst dx) := hs s12 _ _ (hs s11 _ _ hdu')
        have fdu12 : FAt (hid Fx.W H12) dx fm := At.same fdu' (hs (s11.trans s12))
        refine ⟨_, rfl, _, rfl, mo, du, mx, dx, fm, rfl, hmo, hid_le _ _ hdu12, fmo, At.same fdu12 hid_le, true, rfl, iteF ?_⟩
        refine ⟨_, rfl, _, rfl, _, rfl, _, _, rfl, rfl, pl, na, P2, shf (c1 % 327) E, _, rfl, BP S12, by rw [shf_len]; omega, by rw [sizeL_shf]; omega, fun H13 mo2 mx2 fm2 s13' nmo2 hmo2 fmo2 ism2 lm2 => ?_⟩
        have S13 := S12.grow s13'
        have efm2 : fm2 = fm := by
          rw [month_far] at ism2
          exact ism2.uniq isd (fun _ _ => rfl) (fun _ _ => rfl)
        subst efm2
        have hdu13 : hid Fx.W H13 du = some (.lst dx) := hs s13' _ _ hdu12
        have fdu13 : FAt (hid Fx.W H13) dx fm2 := At.same fdu12 (hs s13')
        refine ⟨_, rfl, mo2, du, mx2, dx, fm2, rfl, hmo2, hid_le _ _ hdu13, fmo2, At.same fdu13 hid_le, true, rfl, iteF ?_⟩
        -- paper = book.close()
        obtain ⟨w1, hw1, g1⟩ := S13.p1
        have z4 := S13.p4
        have z5 := S13.p5
        rw [fRB] at z4
        rw [fUB] at z5
        rw [fPB] at hw1
        refine ⟨_, rfl, bk, dx1, _, rfl, bkK S13, (fK_is na PB RB UB).no _ (by decide +kernel) (by decide +kernel) (by decide +kernel) (by decide +kernel), bk, dx1, na, PB, RB, UB, w1, rs, us, E, rfl, bkK S13, hw1, g1.same hid_le, z4, z5, e3, by omega, by omega, lE', zE',
          fun H14 pp pf x y z r fy ffs k14 npp npf hpp hpf fay isf lf hR' hU' => ?_⟩
        obtain ⟨S14, k1314⟩ := S13.closed O (r := r) (by rw [fRB, fUB]; exact k14) (by rw [fRB]; exact hR') (by rw [fUB]; exact hU')
        have hpf' : hid Fx.W H14 pf = some (.lst fy) := hid_at (S13.notin npf) hpf
        have fay' : FAt (hid Fx.W H14) fy ffs := hid_At S14.muts fay
        have k1114 : Same (hid Fx.W H11) (hid Fx.W H14) := (hs (s12.trans s13')).trans k1314
        have hah14 := k1114 _ _ hah2'
        have aah14 := At.same aah2 k1114
        have lal2 := aheadL_len (mE E) (i + 1)
        have lal27 : (i + 1) * sizeL (mE E) ≤ 7 * 64 := Nat.mul_le_mul (by omega) zR
        rw [lus] at isf
        -- _law_same(paper[3], _law_figures(ahead))
        refine ⟨_, rfl, pp, _, 3, _, rfl, rfl, SqT.of hpp, atI_nat (j := 3) rfl, _, rfl, ah2, ax ++ lx, aheadL (mE E) (i + 1), rfl, SqL.of (hid_le _ _ hah14), At.same aah14 hid_le, by omega, fun H15 fa fax ffa s15 nfa hfa ffa' isfa lfa => ?_⟩
        have S15 := S14.grow s15
        have effa : ffa = ffs := isfa.uniq isf (fun b c => (ahead_upto _ lR i b c).symm) (fun b c => (ahead_upto _ lR i b c).symm)
        subst effa
        refine ⟨pf, fa, fy, fax, ffa, rfl, s15 _ _ hpf, hfa, At.same fay s15, ffa', true, rfl, iteF ?_⟩
        -- _law_carried(figures_here, due, paper[3])
        have k815 : Same (hid Fx.W H8) (hid Fx.W H15) := (k811.trans k1114).trans (hs s15)
        have hdu15 : hid Fx.W H15 du = some (.lst dx) := hs s15 _ _ (k1314 _ _ hdu13)
        have fdu15 : FAt (hid Fx.W H15) dx fm2 := At.same fdu13 (k1314.trans (hs s15))
        have tsum : ∀ (g : Ln → Int), (∀ b c, tot g (fgs.map (Fg.ln "")) b c = tot g (aheadL (mE E) i) b c) → (∀ b c, tot g (fm2.map (Fg.ln "")) b c = tot g (monthL (mE E) (i : Int)) b c) → ∀ b c, tot g (uptoL (mE E) ((i : Nat) : Int)) b c = tot g (flns fgs fm2) b c := fun g q1 q2 b c => by
          rw [ahead_upto g lR i]
          show tot g (aheadL (mE E) i ++ monthL (mE E) (i : Int)) b c = tot g ((fgs ++ fm2).map (Fg.ln "")) b c
          rw [tot_append, List.map_append, tot_append, q1, q2]
        have isc : IsFigs ffa (amtOf (flns fgs fm2)) (worOf (flns fgs fm2)) := isf.to (tsum Ln.amt (fun b c => ifg.amt "" b c) (fun b c => isd.amt "" b c)) (tsum Ln.wor (fun b c => ifg.wor "" b c) (fun b c => isd.wor "" b c))
        refine ⟨_, rfl, _, rfl, _, rfl, pp, _, 3, _, rfl, rfl, SqT.of (s15 _ _ hpp), atI_nat (j := 3) rfl, fh, du, pf, fx, dx, fy, fgs, fm2, ffa, rfl, hid_le _ _ (k815 _ _ hfh), hid_le _ _ hdu15, s15 _ _ hpf, At.same (At.same afh k815) hid_le, At.same fdu15 hid_le, At.same fay s15, isc, by omega, fun H16 s16 => ?_⟩
        refine ⟨true, rfl, iteF ?_⟩
        -- figures_here = paper[3]
        have S16 := S15.grow s16
        have k1416 : Same (hid Fx.W H14) (hid Fx.W H16) := hs (s15.trans s16)
        refine ⟨_, rfl, pp, _, 3, _, rfl, rfl, SqT.of (s16 _ _ (s15 _ _ hpp)), atI_nat (j := 3) rfl, ?_⟩
        refine ⟨_, _, _, _, _, ah2, pf, ax ++ lx, fy, ffa, rs ++ [r], us ++ [r], rfl, S16, ?_, ?_, k1416 _ _ hah14, At.same aah14 k1416, k1416 _ _ hpf', At.same fay' k1416, ?_, by omega⟩
        · rw [List.length_append, lrs]
          rfl
        · rw [List.length_append, lus]
          rfl
        · exact isf.to (fun b c => ahead_upto _ lR i b c) (fun b c => ahead_upto _ lR i b c)
      · rintro σ H8 ⟨v12, v13, v14, v15, v16, ah, fh, ax, fx, fgs, rs, us, rfl, S8, _⟩
        exact ⟨_, _, _, _, _, _, _, _, _, _, _, rfl, S8.same⟩
    rintro σ H8 ⟨v6', v7', v8', v9', v10, v11, v12, v13, v14, v15, v16, rfl, sH⟩
    have hSH := sH.seq hS1
    have hnmH := sH _ _ hnm
    -- some = []
    refine ⟨Nat.zero_le _, fun sm0 nsm0 => ?_⟩
    have t9 : Same H8 (upd H8 sm0 (.lst [])) := same_upd nsm0
    have hsm0 : upd H8 sm0 (.lst []) sm0 = some (.lst []) := upd_same
    generalize upd H8 sm0 (.lst []) = H9 at t9 hsm0 ⊢
    refine ⟨fun σ' H' => ∃ (v18 : Option V) (sm : Addr) (sx : List V) (ls : List Ln), σ' = [some (.ref a), some (.ref nm), some (.int (c1 % 327)), some (.ref bk), some (.ref pl), some (.ref rw), v6', v7', v8', v9', v10, v11, v12, v13, v14, v15, v16, some (.ref sm), v18, none, none, none] ∧
      Same H8 H' ∧ H' sm = some (.lst sx) ∧ LAt H' sx ls ∧ ls.length ≤ 252, ?_, ?_⟩
    · refine ⟨_, rfl, 5, rfl, 50, rfl, a, _, rfl, t9.seq hSH, fun sl nsl => ?_⟩
      obtain ⟨ms, em, lm⟩ := cutInts ns 5 50
      have t10 : Same H9 (upd H9 sl (.lst (ms.map V.int))) := same_upd nsl
      have hsl : upd H9 sl (.lst (ms.map V.int)) sl = some (.lst (ms.map V.int)) := upd_same
      have em' : cutV (ns.map V.int) (some 5) (some 50) = ms.map V.int := em
      rw [em']
      generalize upd H9 sl (.lst (ms.map V.int)) = H10 at t10 hsl ⊢
      refine ⟨sl, rfl, ⟨_, SqL.of hsl⟩, for_list (K := K) (a := sl) (xs := ms.map V.int) (fun i σ' H' => ∃ (v18 : Option V) (sm : Addr) (sx : List V) (ls : List Ln), σ' = [some (.ref a), some (.ref nm), some (.int (c1 % 327)), some (.ref bk), some (.ref pl), some (.ref rw), v6', v7', v8', v9', v10, v11, v12, v13, v14, v15, v16, some (.ref sm), v18, none, none, none] ∧
          Same H10 H' ∧ H' sm = some (.lst sx) ∧ LAt H' sx ls ∧ ls.length ≤ 4 * i)
        ⟨none, sm0, [], [], rfl, Same.refl _, t10 _ _ hsm0, .nil, Nat.le_refl _⟩ (fun i σ' H' _ ⟨_, _, _, _, _, e, _⟩ => SqL.of (e _ _ hsl)) ?_ ?_⟩
      · rintro i x σ H11 hi ⟨v18, sm, sx, ls, rfl, t11, hsm, asm, lls⟩
        have hi63 : i < ms.length := by
          have z := (List.getElem?_eq_some_iff.mp hi).1
          rw [List.length_map] at z
          exact z
        obtain ⟨c, rfl⟩ : ∃ c : Int, x = V.int c := by
          rw [List.getElem?_map] at hi
          cases e : ms[i]? with
          | none =>
            rw [e] at hi
            cases hi
          | some c =>
            rw [e] at hi
            exact ⟨c, (Option.some.inj hi).symm⟩
        have tt := (t9.trans t10).trans t11
        refine ⟨_, rfl, _, rfl, _, rfl, _, _, rfl, rfl, ⟨by decide, by decide⟩, _, rfl, nm, na, nb, nc, _, _, rfl, tt _ _ hnmH, l2, fun H12 qq qx ql t12 nqq hqq aqq bal l4 => ?_⟩
        have lsx := asm.len
        have lqx := aqq.len
        refine ⟨sm, qq, sx, qx, rfl, rfl, t12 _ _ hsm, hqq, sz (by omega), fun sm2 nsm2 => ?_⟩
        have t13 : Same H12 (upd H12 sm2 (.lst (sx ++ qx))) := same_upd nsm2
        refine ⟨_, sm2, _, ls ++ ql, rfl, (t11.trans t12).trans t13, upd_same, At.same (LAt.app (At.same asm t12) aqq) t13, ?_⟩
        rw [List.length_append]
        omega
      · rintro σ H11 ⟨v18, sm, sx, ls, rfl, t11, hsm, asm, lls⟩
        rw [List.length_map] at lls
        exact ⟨v18, sm, sx, ls, rfl, (t9.trans t10).trans t11, hsm, asm, by omega⟩
    rintro σ H10 ⟨v18, sm, sx, ls, rfl, t10, hsm, asm, lls⟩
    have lsx := asm.len
    -- cut
    refine ⟨_, rfl, a, ns, 1, rfl, t10.seq hSH, fun c2 => ⟨_, _, rfl, rfl, ⟨by decide, by decide⟩, _, rfl, sm, sx, rfl, .inl (SqL.of hsm), _, _, rfl, rfl, _, _, rfl, rfl, (by show (0 : Int) < (sx.length : Int) + 1; omega), ?_⟩⟩
    have u0 := Int.emod_nonneg (c2 / 327) (show ((sx.length : Int) + 1) ≠ 0 by omega)
    have u1 := Int.emod_lt_of_pos (c2 / 327) (show (0 : Int) < (sx.length : Int) + 1 by omega)
    dsimp only
    generalize hcut : c2 / 327 % ((sx.length : Int) + 1) = cut at u0 u1
    -- one = _law_figures(some[:cut])
    refine ⟨_, rfl, _, rfl, _, rfl, sm, sx, rfl, SqL.of hsm, fun o1 no1 => ?_⟩
    have c1e := cut_lo sx u0 (by omega)
    rw [c1e]
    have t11 : Same H10 (upd H10 o1 (.lst (sx.take cut.toNat))) := same_upd no1
    have ho1 : upd H10 o1 (.lst (sx.take cut.toNat)) o1 = some (.lst (sx.take cut.toNat)) := upd_same
    generalize upd H10 o1 (.lst (sx.take cut.toNat)) = H11 at t11 ho1 ⊢
    have ltk : (ls.take cut.toNat).length ≤ 252 := by
      rw [List.length_take]
      omega
    have ldr : (ls.drop cut.toNat).length ≤ 252 := by
      rw [List.length_drop]
      omega
    refine ⟨o1, _, ls.take cut.toNat, rfl, SqL.of ho1, At.same (LAt.take _ asm) t11, by omega, fun H12 p1 y1 g1 t12 np1 hp1 fp1 is1 lg1 => ?_⟩
    have t1012 := t11.trans t12
    -- other = _law_figures(some[cut:])
    refine ⟨_, rfl, _, rfl, _, rfl, sm, sx, rfl, SqL.of (t1012 _ _ hsm), fun o2 no2 => ?_⟩
    have c2e := cut_hi sx u0 (by omega)
    rw [c2e]
    have t13 : Same H12 (upd H12 o2 (.lst (sx.drop cut.toNat))) := same_upd no2
    have ho2 : upd H12 o2 (.lst (sx.drop cut.toNat)) o2 = some (.lst (sx.drop cut.toNat)) := upd_same
    generalize upd H12 o2 (.lst (sx.drop cut.toNat)) = H13 at t13 ho2 ⊢
    have t1013 := t1012.trans t13
    refine ⟨o2, _, ls.drop cut.toNat, rfl, SqL.of ho2, At.same (LAt.drop _ asm) t1013, by omega, fun H14 p2 y2 g2 t14 np2 hp2 fp2 is2 lg2 => ?_⟩
    have t1014 := t1013.trans t14
    -- due = _law_figures(some)
    refine ⟨_, rfl, sm, sx, ls, rfl, SqL.of (t1014 _ _ hsm), At.same asm t1014, by omega, fun H15 p3 y3 g3 t15 np3 hp3 fp3 is3 lg3 => ?_⟩
    have t1215 := (t13.trans t14).trans t15
    have tsum : ∀ (g : Ln → Int), (∀ b c, tot g (g1.map (Fg.ln "")) b c = tot g (ls.take cut.toNat) b c) → (∀ b c, tot g (g2.map (Fg.ln "")) b c = tot g (ls.drop cut.toNat) b c) → ∀ b c, tot g ls b c = tot g (flns g1 g2) b c ∧ tot g ls b c = tot g (flns g2 g1) b c := fun g q1 q2 b c => by
      have e0 : tot g ls b c = tot g (ls.take cut.toNat) b c + tot g (ls.drop cut.toNat) b c := by
        rw [← tot_append, List.take_append_drop]
      have e1 : tot g (flns g1 g2) b c = tot g (g1.map (Fg.ln "")) b c + tot g (g2.map (Fg.ln "")) b c := by
        unfold flns
        rw [List.map_append, tot_append]
      have e2 : tot g (flns g2 g1) b c = tot g (g2.map (Fg.ln "")) b c + tot g (g1.map (Fg.ln "")) b c := by
        unfold flns
        rw [List.map_append, tot_append]
      rw [q1, q2] at e1
      rw [q1, q2] at e2
      omega
    have am := tsum Ln.amt (fun b c => is1.amt "" b c) (fun b c => is2.amt "" b c)
    have wm := tsum Ln.wor (fun b c => is1.wor "" b c) (fun b c => is2.wor "" b c)
    -- return both
    refine ⟨_, rfl, _, rfl, _, rfl, p1, p2, p3, y1, y2, y3, g1, g2, g3, rfl, t1215 _ _ hp1, t15 _ _ hp2, hp3, At.same fp1 t1215, At.same fp2 t15, fp3, is3.to (fun b c => (am b c).1) (fun b c => (wm b c).1), by omega, fun H16 t16 => ?_⟩
    refine ⟨true, rfl, iteT ?_⟩
    exact ⟨_, rfl, _, rfl, _, rfl, p2, p1, p3, y2, y1, y3, g2, g1, g3, rfl, t16 _ _ (t15 _ _ hp2), t16 _ _ (t1215 _ _ hp1), t16 _ _ hp3, At.same fp2 (t15.trans t16), At.same fp1 (t1215.trans t16), At.same fp3 t16, is3.to (fun b c => (am b c).2) (fun b c => (wm b c).2), by omega, fun H17 _ => q H17⟩
end
end K34

/-! what the top has written; the given theorem -/
namespace K34
open PySem PySem.Spec PyProof.Rows L2
theorem all_mk {l : PySem.W.OpenLaw} {w : World} {K : PySem.W.Frag} {h : Heap} {mg : Str → Option Value} {fa : Addr} (X : K.In h) (G : h.Ns mainGlobals mg) (hfa : mg "law" = some (.ref fa))
    {f_rests f_month f_figs f_moved f_carried f_copied f_cell f_whole f_names f_amount f_lines f_lfigs f_same f_lcarried f_lmonth f_law f_binit f_bmay f_post f_entries f_spots f_upto f_figures f_kinit f_kmay f_close cB cK T_spots T_upto T_figures : Addr} {od_rests an_rests od_month an_month od_figs an_figs od_moved an_moved od_carried an_carried od_copied an_copied od_cell an_cell od_whole an_whole od_names an_names od_amount an_amount od_lines an_lines od_lfigs an_lfigs od_same an_same od_lcarried an_lcarried od_lmonth an_lmonth od_law an_law od_binit an_binit od_bmay an_bmay od_post an_post od_entries an_entries od_spots an_spots od_upto an_upto od_figures an_figures od_kinit an_kinit od_kmay an_kmay od_close an_close td_spots td_upto td_figures : Option Addr} {oc_rests kV_rests dc_rests pm_rests cd_rests ct_rests oc_month kV_month dc_month pm_month cd_month ct_month oc_figs kV_figs dc_figs pm_figs cd_figs ct_figs oc_moved kV_moved dc_moved pm_moved cd_moved ct_moved oc_carried kV_carried dc_carried pm_carried cd_carried ct_carried oc_copied kV_copied dc_copied pm_copied cd_copied ct_copied oc_cell kV_cell dc_cell pm_cell cd_cell ct_cell oc_whole kV_whole dc_whole pm_whole cd_whole ct_whole oc_names kV_names dc_names pm_names cd_names ct_names oc_amount kV_amount dc_amount pm_amount cd_amount ct_amount oc_lines kV_lines dc_lines pm_lines cd_lines ct_lines oc_lfigs kV_lfigs dc_lfigs pm_lfigs cd_lfigs ct_lfigs oc_same kV_same dc_same pm_same cd_same ct_same oc_lcarried kV_lcarried dc_lcarried pm_lcarried cd_lcarried ct_lcarried oc_lmonth kV_lmonth dc_lmonth pm_lmonth cd_lmonth ct_lmonth oc_law kV_law dc_law pm_law cd_law ct_law oc_binit kV_binit dc_binit pm_binit cd_binit ct_binit oc_bmay kV_bmay dc_bmay pm_bmay cd_bmay ct_bmay oc_post kV_post dc_post pm_post cd_post ct_post oc_entries kV_entries dc_entries pm_entries cd_entries ct_entries oc_spots kV_spots dc_spots pm_spots cd_spots ct_spots oc_upto kV_upto dc_upto pm_upto cd_upto ct_upto oc_figures kV_figures dc_figures pm_figures cd_figures ct_figures oc_kinit kV_kinit dc_kinit pm_kinit cd_kinit ct_kinit oc_kmay kV_kmay dc_kmay pm_kmay cd_kmay ct_kmay oc_close kV_close dc_close pm_close cd_close ct_close to_spots to_upto to_figures : Value} {sl_rests sl_month sl_figs sl_moved sl_carried sl_copied sl_cell sl_whole sl_names sl_amount sl_lines sl_lfigs sl_same sl_lcarried sl_lmonth sl_law sl_binit sl_bmay sl_post sl_entries sl_spots sl_upto sl_figures sl_kinit sl_kmay sl_close ts_spots ts_upto ts_figures : Array (Option Value)} {tn_spots tn_upto tn_figures : Nat}
    (aB : PySem.W.nsIn K mainGlobals "Book" = some (some (.ref cB)))
    (aK : PySem.W.nsIn K mainGlobals "KeptBook" = some (some (.ref cK)))
    (a_rests : PySem.W.nsIn K mainGlobals "rests_of" = some (some (.ref f_rests)))
    (l_rests : K.lookup f_rests = some ⟨oc_rests, od_rests, .func (PySem.W.fnOf "rests_of" "rests_of" (defArgs sRests) (defBody sRests) (defScope sRests) .none kV_rests dc_rests pm_rests an_rests cd_rests ct_rests), sl_rests⟩)
    (c_rests : PySem.W.codeIn K cd_rests "rests_of" = true)
    (k_rests : PySem.W.keepIn K (.ref f_rests) = true)
    (a_month : PySem.W.nsIn K mainGlobals "month_of" = some (some (.ref f_month)))
    (l_month : K.lookup f_month = some ⟨oc_month, od_month, .func (PySem.W.fnOf "month_of" "month_of" (defArgs sMonthOf) (defBody sMonthOf) (defScope sMonthOf) .none kV_month dc_month pm_month an_month cd_month ct_month), sl_month⟩)
    (c_month : PySem.W.codeIn K cd_month "month_of" = true)
    (k_month : PySem.W.keepIn K (.ref f_month) = true)
    (a_figs : PySem.W.nsIn K mainGlobals "figures_of" = some (some (.ref f_figs)))
    (l_figs : K.lookup f_figs = some ⟨oc_figs, od_figs, .func (PySem.W.fnOf "figures_of" "figures_of" (defArgs sFigs) (defBody sFigs) (defScope sFigs) .none kV_figs dc_figs pm_figs an_figs cd_figs ct_figs), sl_figs⟩)
    (c_figs : PySem.W.codeIn K cd_figs "figures_of" = true)
    (k_figs : PySem.W.keepIn K (.ref f_figs) = true)
    (a_moved : PySem.W.nsIn K mainGlobals "movement_of" = some (some (.ref f_moved)))
    (l_moved : K.lookup f_moved = some ⟨oc_moved, od_moved, .func (PySem.W.fnOf "movement_of" "movement_of" (defArgs sMoved) (defBody sMoved) (defScope sMoved) .none kV_moved dc_moved pm_moved an_moved cd_moved ct_moved), sl_moved⟩)
    (c_moved : PySem.W.codeIn K cd_moved "movement_of" = true)
    (k_moved : PySem.W.keepIn K (.ref f_moved) = true)
    (a_carried : PySem.W.nsIn K mainGlobals "carried" = some (some (.ref f_carried)))
    (l_carried : K.lookup f_carried = some ⟨oc_carried, od_carried, .func (PySem.W.fnOf "carried" "carried" (defArgs sCarried) (defBody sCarried) (defScope sCarried) .none kV_carried dc_carried pm_carried an_carried cd_carried ct_carried), sl_carried⟩)
    (c_carried : PySem.W.codeIn K cd_carried "carried" = true)
    (k_carried : PySem.W.keepIn K (.ref f_carried) = true)
    (a_copied : PySem.W.nsIn K mainGlobals "paper_copied" = some (some (.ref f_copied)))
    (l_copied : K.lookup f_copied = some ⟨oc_copied, od_copied, .func (PySem.W.fnOf "paper_copied" "paper_copied" (defArgs sCopied) (defBody sCopied) (defScope sCopied) .none kV_copied dc_copied pm_copied an_copied cd_copied ct_copied), sl_copied⟩)
    (c_copied : PySem.W.codeIn K cd_copied "paper_copied" = true)
    (k_copied : PySem.W.keepIn K (.ref f_copied) = true)
    (a_cell : PySem.W.nsIn K mainGlobals "_law_cell" = some (some (.ref f_cell)))
    (l_cell : K.lookup f_cell = some ⟨oc_cell, od_cell, .func (PySem.W.fnOf "_law_cell" "_law_cell" (defArgs sCell) (defBody sCell) (defScope sCell) .none kV_cell dc_cell pm_cell an_cell cd_cell ct_cell), sl_cell⟩)
    (c_cell : PySem.W.codeIn K cd_cell "_law_cell" = true)
    (k_cell : PySem.W.keepIn K (.ref f_cell) = true)
    (a_whole : PySem.W.nsIn K mainGlobals "_law_whole" = some (some (.ref f_whole)))
    (l_whole : K.lookup f_whole = some ⟨oc_whole, od_whole, .func (PySem.W.fnOf "_law_whole" "_law_whole" (defArgs sWhole) (defBody sWhole) (defScope sWhole) .none kV_whole dc_whole pm_whole an_whole cd_whole ct_whole), sl_whole⟩)
    (c_whole : PySem.W.codeIn K cd_whole "_law_whole" = true)
    (k_whole : PySem.W.keepIn K (.ref f_whole) = true)
    (a_names : PySem.W.nsIn K mainGlobals "_law_names" = some (some (.ref f_names)))
    (l_names : K.lookup f_names = some ⟨oc_names, od_names, .func (PySem.W.fnOf "_law_names" "_law_names" (defArgs sNames) (defBody sNames) (defScope sNames) .none kV_names dc_names pm_names an_names cd_names ct_names), sl_names⟩)
    (c_names : PySem.W.codeIn K cd_names "_law_names" = true)
    (k_names : PySem.W.keepIn K (.ref f_names) = true)
    (a_amount : PySem.W.nsIn K mainGlobals "_law_amount" = some (some (.ref f_amount)))
    (l_amount : K.lookup f_amount = some ⟨oc_amount, od_amount, .func (PySem.W.fnOf "_law_amount" "_law_amount" (defArgs sAmount) (defBody sAmount) (defScope sAmount) .none kV_amount dc_amount pm_amount an_amount cd_amount ct_amount), sl_amount⟩)
    (c_amount : PySem.W.codeIn K cd_amount "_law_amount" = true)
    (k_amount : PySem.W.keepIn K (.ref f_amount) = true)
    (a_lines : PySem.W.nsIn K mainGlobals "_law_lines" = some (some (.ref f_lines)))
    (l_lines : K.lookup f_lines = some ⟨oc_lines, od_lines, .func (PySem.W.fnOf "_law_lines" "_law_lines" (defArgs sLines) (defBody sLines) (defScope sLines) .none kV_lines dc_lines pm_lines an_lines cd_lines ct_lines), sl_lines⟩)
    (c_lines : PySem.W.codeIn K cd_lines "_law_lines" = true)
    (k_lines : PySem.W.keepIn K (.ref f_lines) = true)
    (a_lfigs : PySem.W.nsIn K mainGlobals "_law_figures" = some (some (.ref f_lfigs)))
    (l_lfigs : K.lookup f_lfigs = some ⟨oc_lfigs, od_lfigs, .func (PySem.W.fnOf "_law_figures" "_law_figures" (defArgs sLFigs) (defBody sLFigs) (defScope sLFigs) .none kV_lfigs dc_lfigs pm_lfigs an_lfigs cd_lfigs ct_lfigs), sl_lfigs⟩)
    (c_lfigs : PySem.W.codeIn K cd_lfigs "_law_figures" = true)
    (k_lfigs : PySem.W.keepIn K (.ref f_lfigs) = true)
    (a_same : PySem.W.nsIn K mainGlobals "_law_same" = some (some (.ref f_same)))
    (l_same : K.lookup f_same = some ⟨oc_same, od_same, .func (PySem.W.fnOf "_law_same" "_law_same" (defArgs sSame) (defBody sSame) (defScope sSame) .none kV_same dc_same pm_same an_same cd_same ct_same), sl_same⟩)
    (c_same : PySem.W.codeIn K cd_same "_law_same" = true)
    (k_same : PySem.W.keepIn K (.ref f_same) = true)
    (a_lcarried : PySem.W.nsIn K mainGlobals "_law_carried" = some (some (.ref f_lcarried)))
    (l_lcarried : K.lookup f_lcarried = some ⟨oc_lcarried, od_lcarried, .func (PySem.W.fnOf "_law_carried" "_law_carried" (defArgs sLCarried) (defBody sLCarried) (defScope sLCarried) .none kV_lcarried dc_lcarried pm_lcarried an_lcarried cd_lcarried ct_lcarried), sl_lcarried⟩)
    (c_lcarried : PySem.W.codeIn K cd_lcarried "_law_carried" = true)
    (k_lcarried : PySem.W.keepIn K (.ref f_lcarried) = true)
    (a_lmonth : PySem.W.nsIn K mainGlobals "_law_month" = some (some (.ref f_lmonth)))
    (l_lmonth : K.lookup f_lmonth = some ⟨oc_lmonth, od_lmonth, .func (PySem.W.fnOf "_law_month" "_law_month" (defArgs sLMonth) (defBody sLMonth) (defScope sLMonth) .none kV_lmonth dc_lmonth pm_lmonth an_lmonth cd_lmonth ct_lmonth), sl_lmonth⟩)
    (c_lmonth : PySem.W.codeIn K cd_lmonth "_law_month" = true)
    (k_lmonth : PySem.W.keepIn K (.ref f_lmonth) = true)
    (a_law : PySem.W.nsIn K mainGlobals "law" = some (some (.ref f_law)))
    (l_law : K.lookup f_law = some ⟨oc_law, od_law, .func (PySem.W.fnOf "law" "law" (defArgs sLaw) (defBody sLaw) (defScope sLaw) .none kV_law dc_law pm_law an_law cd_law ct_law), sl_law⟩)
    (c_law : PySem.W.codeIn K cd_law "law" = true)
    (k_law : PySem.W.keepIn K (.ref f_law) = true)
    (a_binit : PySem.W.findIn K (.ref cB) "__init__" = some (some (.ref f_binit)))
    (i_binit : PySem.W.isFn K (.ref f_binit) = true)
    (l_binit : K.lookup f_binit = some ⟨oc_binit, od_binit, .func (PySem.W.fnOf "__init__" "Book.__init__" (defArgs sBInit) (defBody sBInit) (defScope sBInit) .none kV_binit dc_binit pm_binit an_binit cd_binit ct_binit), sl_binit⟩)
    (c_binit : PySem.W.codeIn K cd_binit "Book.__init__" = true)
    (k_binit : PySem.W.keepIn K (.ref f_binit) = true)
    (a_bmay : PySem.W.findIn K (.ref cB) "may_enter" = some (some (.ref f_bmay)))
    (i_bmay : PySem.W.isFn K (.ref f_bmay) = true)
    (l_bmay : K.lookup f_bmay = some ⟨oc_bmay, od_bmay, .func (PySem.W.fnOf "may_enter" "Book.may_enter" (defArgs sBMay) (defBody sBMay) (defScope sBMay) .none kV_bmay dc_bmay pm_bmay an_bmay cd_bmay ct_bmay), sl_bmay⟩)
    (c_bmay : PySem.W.codeIn K cd_bmay "Book.may_enter" = true)
    (k_bmay : PySem.W.keepIn K (.ref f_bmay) = true)
    (a_post : PySem.W.findIn K (.ref cB) "post" = some (some (.ref f_post)))
    (i_post : PySem.W.isFn K (.ref f_post) = true)
    (l_post : K.lookup f_post = some ⟨oc_post, od_post, .func (PySem.W.fnOf "post" "Book.post" (defArgs sPost) (defBody sPost) (defScope sPost) .none kV_post dc_post pm_post an_post cd_post ct_post), sl_post⟩)
    (c_post : PySem.W.codeIn K cd_post "Book.post" = true)
    (k_post : PySem.W.keepIn K (.ref f_post) = true)
    (a_entries : PySem.W.findIn K (.ref cB) "entries" = some (some (.ref f_entries)))
    (i_entries : PySem.W.isFn K (.ref f_entries) = true)
    (l_entries : K.lookup f_entries = some ⟨oc_entries, od_entries, .func (PySem.W.fnOf "entries" "Book.entries" (defArgs sEntries) (defBody sEntries) (defScope sEntries) .none kV_entries dc_entries pm_entries an_entries cd_entries ct_entries), sl_entries⟩)
    (c_entries : PySem.W.codeIn K cd_entries "Book.entries" = true)
    (k_entries : PySem.W.keepIn K (.ref f_entries) = true)
    (a_spots : PySem.W.findIn K (.ref cB) "spots" = some (some (.ref f_spots)))
    (i_spots : PySem.W.isFn K (.ref f_spots) = true)
    (l_spots : K.lookup f_spots = some ⟨oc_spots, od_spots, .func (PySem.W.fnOf "spots" "Book.spots" (defArgs sSpots) (defBody sSpots) (defScope sSpots) (.ref T_spots) kV_spots dc_spots pm_spots an_spots cd_spots ct_spots), sl_spots⟩)
    (c_spots : PySem.W.codeIn K cd_spots "Book.spots" = true)
    (k_spots : PySem.W.keepIn K (.ref f_spots) = true)
    (t_spots : K.lookup T_spots = some ⟨to_spots, td_spots, .seq #[Value.none] tn_spots, ts_spots⟩)
    (a_upto : PySem.W.findIn K (.ref cB) "lines_upto" = some (some (.ref f_upto)))
    (i_upto : PySem.W.isFn K (.ref f_upto) = true)
    (l_upto : K.lookup f_upto = some ⟨oc_upto, od_upto, .func (PySem.W.fnOf "lines_upto" "Book.lines_upto" (defArgs sUpto) (defBody sUpto) (defScope sUpto) (.ref T_upto) kV_upto dc_upto pm_upto an_upto cd_upto ct_upto), sl_upto⟩)
    (c_upto : PySem.W.codeIn K cd_upto "Book.lines_upto" = true)
    (k_upto : PySem.W.keepIn K (.ref f_upto) = true)
    (t_upto : K.lookup T_upto = some ⟨to_upto, td_upto, .seq #[Value.none] tn_upto, ts_upto⟩)
    (a_figures : PySem.W.findIn K (.ref cB) "figures" = some (some (.ref f_figures)))
    (i_figures : PySem.W.isFn K (.ref f_figures) = true)
    (l_figures : K.lookup f_figures = some ⟨oc_figures, od_figures, .func (PySem.W.fnOf "figures" "Book.figures" (defArgs sFigures) (defBody sFigures) (defScope sFigures) (.ref T_figures) kV_figures dc_figures pm_figures an_figures cd_figures ct_figures), sl_figures⟩)
    (c_figures : PySem.W.codeIn K cd_figures "Book.figures" = true)
    (k_figures : PySem.W.keepIn K (.ref f_figures) = true)
    (t_figures : K.lookup T_figures = some ⟨to_figures, td_figures, .seq #[Value.none] tn_figures, ts_figures⟩)
    (a_kinit : PySem.W.findIn K (.ref cK) "__init__" = some (some (.ref f_kinit)))
    (i_kinit : PySem.W.isFn K (.ref f_kinit) = true)
    (l_kinit : K.lookup f_kinit = some ⟨oc_kinit, od_kinit, .func (PySem.W.fnOf "__init__" "KeptBook.__init__" (defArgs sKInit) (defBody sKInit) (defScope sKInit) .none kV_kinit dc_kinit pm_kinit an_kinit cd_kinit ct_kinit), sl_kinit⟩)
    (c_kinit : PySem.W.codeIn K cd_kinit "KeptBook.__init__" = true)
    (k_kinit : PySem.W.keepIn K (.ref f_kinit) = true)
    (a_kmay : PySem.W.findIn K (.ref cK) "may_enter" = some (some (.ref f_kmay)))
    (i_kmay : PySem.W.isFn K (.ref f_kmay) = true)
    (l_kmay : K.lookup f_kmay = some ⟨oc_kmay, od_kmay, .func (PySem.W.fnOf "may_enter" "KeptBook.may_enter" (defArgs sKMay) (defBody sKMay) (defScope sKMay) .none kV_kmay dc_kmay pm_kmay an_kmay cd_kmay ct_kmay), sl_kmay⟩)
    (c_kmay : PySem.W.codeIn K cd_kmay "KeptBook.may_enter" = true)
    (k_kmay : PySem.W.keepIn K (.ref f_kmay) = true)
    (a_close : PySem.W.findIn K (.ref cK) "close" = some (some (.ref f_close)))
    (i_close : PySem.W.isFn K (.ref f_close) = true)
    (l_close : K.lookup f_close = some ⟨oc_close, od_close, .func (PySem.W.fnOf "close" "KeptBook.close" (defArgs sClose) (defBody sClose) (defScope sClose) .none kV_close dc_close pm_close an_close cd_close ct_close), sl_close⟩)
    (c_close : PySem.W.codeIn K cd_close "KeptBook.close" = true)
    (k_close : PySem.W.keepIn K (.ref f_close) = true)
    (h_post : PySem.W.findIn K (.ref cK) "post" = some (some (.ref f_post)))
    (h_entries : PySem.W.findIn K (.ref cK) "entries" = some (some (.ref f_entries)))
    (h_spots : PySem.W.findIn K (.ref cK) "spots" = some (some (.ref f_spots)))
    (h_upto : PySem.W.findIn K (.ref cK) "lines_upto" = some (some (.ref f_upto)))
    (h_figures : PySem.W.findIn K (.ref cK) "figures" = some (some (.ref f_figures)))
    (pg_cB : PySem.W.plainGet K cB Str.empty = true)
    (hd_cB : PySem.W.hasDictIn K cB = true)
    (po_cB : PySem.W.plainOver K cB = true)
    (sa_cB : PySem.W.findIn K (.ref cB) "__setattr__" = some (some (.builtin "object.__setattr__")))
    (mk_cB : PySem.W.makesIn K cB = true)
    (kc_cB : PySem.W.keepIn K (.ref cB) = true)
    (nbook_cB : PySem.W.findIn K (.ref cB) "book" = some none)
    (npages_cB : PySem.W.findIn K (.ref cB) "pages" = some none)
    (nrecords_cB : PySem.W.findIn K (.ref cB) "records" = some none)
    (nupheld_cB : PySem.W.findIn K (.ref cB) "upheld" = some none)
    (pg_cK : PySem.W.plainGet K cK Str.empty = true)
    (hd_cK : PySem.W.hasDictIn K cK = true)
    (po_cK : PySem.W.plainOver K cK = true)
    (sa_cK : PySem.W.findIn K (.ref cK) "__setattr__" = some (some (.builtin "object.__setattr__")))
    (mk_cK : PySem.W.makesIn K cK = true)
    (kc_cK : PySem.W.keepIn K (.ref cK) = true)
    (nbook_cK : PySem.W.findIn K (.ref cK) "book" = some none)
    (npages_cK : PySem.W.findIn K (.ref cK) "pages" = some none)
    (nrecords_cK : PySem.W.findIn K (.ref cK) "records" = some none)
    (nupheld_cK : PySem.W.findIn K (.ref cK) "upheld" = some none)
    (rd : PySem.W.readsIn K cB (.type "type") = true)
    (ga : PySem.W.specialIn K (.ref cB) "__getattribute__" = some (some (.builtin "type.__getattribute__")))
    (fc : PySem.W.findCls K (.ref cB) (.type "type") "__init__" = some (.val (.ref f_binit)))
    (z_sorted : PySem.W.nsIn K mainGlobals "sorted" = some none)
    (z_list : PySem.W.nsIn K mainGlobals "list" = some none)
    (z_len : PySem.W.nsIn K mainGlobals "len" = some none)
    (z_sum : PySem.W.nsIn K mainGlobals "sum" = some none)
    (z_range : PySem.W.nsIn K mainGlobals "range" = some none)
    (z_enumerate : PySem.W.nsIn K mainGlobals "enumerate" = some none)
    (z_isinstance : PySem.W.nsIn K mainGlobals "isinstance" = some none)
    (z_int : PySem.W.nsIn K mainGlobals "int" = some none)
    (z_bool : PySem.W.nsIn K mainGlobals "bool" = some none)
    (z_tuple : PySem.W.nsIn K mainGlobals "tuple" = some none)
    : ∃ fd : FuncData, (∀ (s : Shared) (v : Value), BindsTo s fd ⟨[v], []⟩ [("_law_script", v)]) ∧ ∀ base : Heap, K.In base → base.Ns mainGlobals mg → FnOk l.prog w K mg base CX0 6 fa fd ["_law_script"] (spLaw K) := by
  have e := hfa.symm.trans (PySem.W.mg_of X G a_law)
  cases e
  have F_rests := fun_mk (st := sRests) l_rests c_rests k_rests
  have b_rests := F_rests.binds (ps := ["sides"]) fun _ _ _ _ _ _ us hl => match us, hl with | [_], _ => rfl
  have F_month := fun_mk (st := sMonthOf) l_month c_month k_month
  have b_month := F_month.binds (ps := ["day"]) fun _ _ _ _ _ _ us hl => match us, hl with | [_], _ => rfl
  have F_figs := fun_mk (st := sFigs) l_figs c_figs k_figs
  have b_figs := F_figs.binds (ps := ["lines"]) fun _ _ _ _ _ _ us hl => match us, hl with | [_], _ => rfl
  have F_moved := fun_mk (st := sMoved) l_moved c_moved k_moved
  have b_moved := F_moved.binds (ps := ["book", "month"]) fun _ _ _ _ _ _ us hl => match us, hl with | [_, _], _ => rfl
  have F_carried := fun_mk (st := sCarried) l_carried c_carried k_carried
  have b_carried := F_carried.binds (ps := ["figures", "more"]) fun _ _ _ _ _ _ us hl => match us, hl with | [_, _], _ => rfl
  have F_copied := fun_mk (st := sCopied) l_copied c_copied k_copied
  have b_copied := F_copied.binds (ps := ["paper"]) fun _ _ _ _ _ _ us hl => match us, hl with | [_], _ => rfl
  have F_cell := fun_mk (st := sCell) l_cell c_cell k_cell
  have b_cell := F_cell.binds (ps := ["_law_script", "_law_k"]) fun _ _ _ _ _ _ us hl => match us, hl with | [_, _], _ => rfl
  have F_whole := fun_mk (st := sWhole) l_whole c_whole k_whole
  have b_whole := F_whole.binds (ps := ["_law_found"]) fun _ _ _ _ _ _ us hl => match us, hl with | [_], _ => rfl
  have F_names := fun_mk (st := sNames) l_names c_names k_names
  have b_names := F_names.binds (ps := ["_law_cell_here"]) fun _ _ _ _ _ _ us hl => match us, hl with | [_], _ => rfl
  have F_amount := fun_mk (st := sAmount) l_amount c_amount k_amount
  have b_amount := F_amount.binds (ps := ["_law_cell_here"]) fun _ _ _ _ _ _ us hl => match us, hl with | [_], _ => rfl
  have F_lines := fun_mk (st := sLines) l_lines c_lines k_lines
  have b_lines := F_lines.binds (ps := ["_law_names_here", "_law_what", "_law_cell_here"]) fun _ _ _ _ _ _ us hl => match us, hl with | [_, _, _], _ => rfl
  have F_lfigs := fun_mk (st := sLFigs) l_lfigs c_lfigs k_lfigs
  have b_lfigs := F_lfigs.binds (ps := ["_law_lines_here"]) fun _ _ _ _ _ _ us hl => match us, hl with | [_], _ => rfl
  have F_same := fun_mk (st := sSame) l_same c_same k_same
  have b_same := F_same.binds (ps := ["_law_found", "_law_due"]) fun _ _ _ _ _ _ us hl => match us, hl with | [_, _], _ => rfl
  have F_lcarried := fun_mk (st := sLCarried) l_lcarried c_lcarried k_lcarried
  have b_lcarried := F_lcarried.binds (ps := ["_law_one", "_law_other", "_law_due"]) fun _ _ _ _ _ _ us hl => match us, hl with | [_, _, _], _ => rfl
  have F_lmonth := fun_mk (st := sLMonth) l_lmonth c_lmonth k_lmonth
  have b_lmonth := F_lmonth.binds (ps := ["_law_rows", "_law_month_here"]) fun _ _ _ _ _ _ us hl => match us, hl with | [_, _], _ => rfl
  have F_law := fun_mk (st := sLaw) l_law c_law k_law
  have F_binit := fun_mk (st := sBInit) l_binit c_binit k_binit
  have b_binit := F_binit.binds (ps := ["self", "firm"]) fun _ _ _ _ _ _ us hl => match us, hl with | [_, _], _ => rfl
  have F_bmay := fun_mk (st := sBMay) l_bmay c_bmay k_bmay
  have b_bmay := F_bmay.binds (ps := ["self", "day"]) fun _ _ _ _ _ _ us hl => match us, hl with | [_, _], _ => rfl
  have F_post := fun_mk (st := sPost) l_post c_post k_post
  have b_post := F_post.binds (ps := ["self", "day", "about", "lines"]) fun _ _ _ _ _ _ us hl => match us, hl with | [_, _, _, _], _ => rfl
  have F_entries := fun_mk (st := sEntries) l_entries c_entries k_entries
  have b_entries := F_entries.binds (ps := ["self"]) fun _ _ _ _ _ _ us hl => match us, hl with | [_], _ => rfl
  have F_spots : FunN K "spots" "Book.spots" sSpots f_spots _ := ⟨⟨_, _, _, _, _, _, _, _, _, _, rfl, l_spots, c_spots, .inr ⟨by simp, T_spots, _, [Value.none], _, rfl, t_spots, rfl, .cons rfl .nil⟩, .inl rfl⟩, k_spots⟩
  have F_upto : FunN K "lines_upto" "Book.lines_upto" sUpto f_upto _ := ⟨⟨_, _, _, _, _, _, _, _, _, _, rfl, l_upto, c_upto, .inr ⟨by simp, T_upto, _, [Value.none], _, rfl, t_upto, rfl, .cons rfl .nil⟩, .inl rfl⟩, k_upto⟩
  have F_figures : FunN K "figures" "Book.figures" sFigures f_figures _ := ⟨⟨_, _, _, _, _, _, _, _, _, _, rfl, l_figures, c_figures, .inr ⟨by simp, T_figures, _, [Value.none], _, rfl, t_figures, rfl, .cons rfl .nil⟩, .inl rfl⟩, k_figures⟩
  have F_kinit := fun_mk (st := sKInit) l_kinit c_kinit k_kinit
  have b_kinit := F_kinit.binds (ps := ["self", "firm"]) fun _ _ _ _ _ _ us hl => match us, hl with | [_, _], _ => rfl
  have F_kmay := fun_mk (st := sKMay) l_kmay c_kmay k_kmay
  have b_kmay := F_kmay.binds (ps := ["self", "day"]) fun _ _ _ _ _ _ us hl => match us, hl with | [_, _], _ => rfl
  have F_close := fun_mk (st := sClose) l_close c_close k_close
  have b_close := F_close.binds (ps := ["self"]) fun _ _ _ _ _ _ us hl => match us, hl with | [_], _ => rfl
  have g_rests := PySem.W.mg_of X G a_rests
  have g_month := PySem.W.mg_of X G a_month
  have g_figs := PySem.W.mg_of X G a_figs
  have g_moved := PySem.W.mg_of X G a_moved
  have g_carried := PySem.W.mg_of X G a_carried
  have g_copied := PySem.W.mg_of X G a_copied
  have g_cell := PySem.W.mg_of X G a_cell
  have g_whole := PySem.W.mg_of X G a_whole
  have g_names := PySem.W.mg_of X G a_names
  have g_amount := PySem.W.mg_of X G a_amount
  have g_lines := PySem.W.mg_of X G a_lines
  have g_lfigs := PySem.W.mg_of X G a_lfigs
  have g_same := PySem.W.mg_of X G a_same
  have g_lcarried := PySem.W.mg_of X G a_lcarried
  have g_lmonth := PySem.W.mg_of X G a_lmonth
  have g_B := PySem.W.mg_of X G aB
  have g_K := PySem.W.mg_of X G aK
  have m_sorted := PySem.W.mg_none_of X G z_sorted
  have m_list := PySem.W.mg_none_of X G z_list
  have m_len := PySem.W.mg_none_of X G z_len
  have m_sum := PySem.W.mg_none_of X G z_sum
  have m_range := PySem.W.mg_none_of X G z_range
  have m_enumerate := PySem.W.mg_none_of X G z_enumerate
  have m_isinstance := PySem.W.mg_none_of X G z_isinstance
  have m_int := PySem.W.mg_none_of X G z_int
  have m_bool := PySem.W.mg_none_of X G z_bool
  have m_tuple := PySem.W.mg_none_of X G z_tuple
  have TB : Cl K cB := ⟨⟨pg_cB, hd_cB, po_cB, sa_cB⟩, nbook_cB, npages_cB⟩
  have TK : Cl K cK := ⟨⟨pg_cK, hd_cK, po_cK, sa_cK⟩, nbook_cK, npages_cK⟩
  have T : ∀ kept, Cl K (cOf cB cK kept) := fun kept => match kept with | false => TB | true => TK
  have M_post : ∀ kept, Meth K (cOf cB cK kept) "post" f_post := fun kept => match kept with | false => ⟨a_post, i_post, k_post⟩ | true => ⟨h_post, i_post, k_post⟩
  have M_entries : ∀ kept, Meth K (cOf cB cK kept) "entries" f_entries := fun kept => match kept with | false => ⟨a_entries, i_entries, k_entries⟩ | true => ⟨h_entries, i_entries, k_entries⟩
  have M_spots : ∀ kept, Meth K (cOf cB cK kept) "spots" f_spots := fun kept => match kept with | false => ⟨a_spots, i_spots, k_spots⟩ | true => ⟨h_spots, i_spots, k_spots⟩
  have M_upto : ∀ kept, Meth K (cOf cB cK kept) "lines_upto" f_upto := fun kept => match kept with | false => ⟨a_upto, i_upto, k_upto⟩ | true => ⟨h_upto, i_upto, k_upto⟩
  have M_figures : ∀ kept, Meth K (cOf cB cK kept) "figures" f_figures := fun kept => match kept with | false => ⟨a_figures, i_figures, k_figures⟩ | true => ⟨h_figures, i_figures, k_figures⟩
  refine ⟨PySem.W.fnOf "law" "law" (defArgs sLaw) (defBody sLaw) (defScope sLaw) .none kV_law dc_law pm_law an_law cd_law ct_law, fun s v => .of_eq rfl, fun base _ _ => ?_⟩
  have o_spots : FnOk l.prog w K mg base CX0 2 f_spots _ ["self", "upto"] (spSpots cB cK) := ok_spots F_spots F_month b_month g_month m_enumerate T
  have o_upto : FnOk l.prog w K mg base CX0 3 f_upto _ ["self", "upto"] (spUpto cB cK) := ok_upto F_upto F_spots o_spots M_spots T
  have o_figures : FnOk l.prog w K mg base CX0 4 f_figures _ ["self", "upto"] (spFigures cB cK) := ok_figures F_figures F_upto o_upto M_upto F_figs b_figs g_figs m_sorted T
  have MM : ∀ kept, ∃ (fM : Addr) (fdM : FuncData), Meth K (cOf cB cK kept) "may_enter" fM ∧ Binds K fdM ["self", "day"] [] ∧ FnOk l.prog w K mg base CX0 2 fM fdM ["self", "day"] (spMay kept (cOf cB cK kept)) := fun kept => match kept with
    | false => ⟨f_bmay, _, ⟨a_bmay, i_bmay, k_bmay⟩, b_bmay, (ok_bmay F_bmay).mono (by decide)⟩
    | true => ⟨f_kmay, _, ⟨a_kmay, i_kmay, k_kmay⟩, b_kmay, ok_kmay F_kmay F_month b_month g_month m_len TK nupheld_cK⟩
  refine ok_law F_law ⟨⟨_, _, g_names, k_names, b_names, ok_names F_names m_range⟩, ⟨_, _, g_cell, k_cell, b_cell, ok_cell F_cell m_len⟩, ⟨_, _, g_lines, k_lines, b_lines, ok_lines F_lines F_amount b_amount g_amount⟩,
    ⟨_, _, g_lmonth, k_lmonth, b_lmonth, ok_lmonth F_lmonth⟩, ⟨_, _, g_lfigs, k_lfigs, b_lfigs, ok_lfigs F_lfigs m_sorted⟩,
    ⟨_, _, g_moved, k_moved, b_moved, ok_moved F_moved F_month b_month g_month F_figs b_figs g_figs m_sorted F_entries b_entries M_entries m_list T⟩,
    ⟨_, _, g_same, k_same, b_same, ok_same F_same F_whole b_whole g_whole m_isinstance m_int m_bool m_list m_tuple m_len⟩,
    ⟨_, _, g_lcarried, k_lcarried, b_lcarried, ok_lcarried F_lcarried F_carried b_carried g_carried F_figs b_figs g_figs m_sorted F_same b_same g_same F_whole b_whole g_whole m_isinstance m_int m_bool m_list m_tuple m_len⟩,
    ⟨_, _, M_post, b_post, ok_post F_post F_rests b_rests g_rests m_len m_sum m_list T MM⟩,
    ⟨_, _, ⟨a_close, i_close, k_close⟩, b_close, ok_close F_close F_figures o_figures M_figures F_copied b_copied g_copied m_len m_list TK nrecords_cK nupheld_cK⟩,
    ⟨g_K, _, _, ⟨mk_cK, a_kinit, i_kinit, kc_cK⟩, b_kinit, ok_kinit F_kinit F_binit b_binit g_B ⟨rd, ga⟩ fc TK nrecords_cK nupheld_cK⟩,
    ⟨g_B, _, _, ⟨mk_cB, a_binit, i_binit, kc_cB⟩, b_binit, ok_binit F_binit⟩, T, m_range, m_len, m_list⟩
theorem walk {l : PySem.W.OpenLaw} {q : Program} {loose : List Str} {XP : (Str → Option Value) → Heap → Prop} {YP : World → Heap → Prop} {d : DefRec} {K : Params → PySem.W.Frag} (hn : l.most = some 63) (hdf : d.params.defaults = [])
    (hY : ∀ (w : World) (h : Heap), YP w h → (K w.params).In h)
    (F : ∀ (w : World) (mg : Str → Option Value) (fa : Addr) (h : Heap), (K w.params).In h → h.Ns mainGlobals mg → mg d.name = some (.ref fa) →
      ∃ fd : FuncData, (∀ (s : Shared) (u : Value), BindsTo s fd ⟨[u], []⟩ [("_law_script", u)]) ∧ ∀ base : Heap, (K w.params).In base → base.Ns mainGlobals mg → FnOk l.prog w (K w.params) mg base CX0 6 fa fd ["_law_script"] (spLaw (K w.params))) :
    PySem.W.WalkO q loose XP YP l.row.toRowW d [] (fun f vs => PySem.call f vs) :=
  L2.walk_of (n := 63) (k := 6) (x := "_law_script") (CX := fun _ => CX0) (sp := fun w => spLaw (K w.params)) hn (by decide) hdf ⟨rfl, by decide, by decide⟩ hY F (fun _ _ a ns hl _ hS => ⟨a, ns, rfl, hS, hl, fun _ => rfl⟩) fun _ _ _ _ _ z => z
end K34

open PySem PySem.W PyProof.Rows in
set_option maxRecDepth 100000 in
set_option maxHeartbeats 0 in
theorem PySem.Challenge.cw_groupbooks_k34_movements_holds : PySem.Challenge.rw_groupbooks_k34_movements.Holds := by
  w_on; o_law; k_head; (case hw => w_witness2)
  k_fill
  refine K34.walk (l := PySem.Challenge.rw_groupbooks_k34_movements) rfl rfl (fun w h Y => PySem.W.kIn_of Y) ?F
  case F =>
    intro w mg fa h KX G hmg
    refine' K34.all_mk KX G hmg ?aB ?aK ?a_rests ?l_rests ?c_rests ?k_rests ?a_month ?l_month ?c_month ?k_month ?a_figs ?l_figs ?c_figs ?k_figs ?a_moved ?l_moved ?c_moved ?k_moved ?a_carried ?l_carried ?c_carried ?k_carried ?a_copied ?l_copied ?c_copied ?k_copied ?a_cell ?l_cell ?c_cell ?k_cell ?a_whole ?l_whole ?c_whole ?k_whole ?a_names ?l_names ?c_names ?k_names ?a_amount ?l_amount ?c_amount ?k_amount ?a_lines ?l_lines ?c_lines ?k_lines ?a_lfigs ?l_lfigs ?c_lfigs ?k_lfigs ?a_same ?l_same ?c_same ?k_same ?a_lcarried ?l_lcarried ?c_lcarried ?k_lcarried ?a_lmonth ?l_lmonth ?c_lmonth ?k_lmonth ?a_law ?l_law ?c_law ?k_law ?a_binit ?i_binit ?l_binit ?c_binit ?k_binit ?a_bmay ?i_bmay ?l_bmay ?c_bmay ?k_bmay ?a_post ?i_post ?l_post ?c_post ?k_post ?a_entries ?i_entries ?l_entries ?c_entries ?k_entries ?a_spots ?i_spots ?l_spots ?c_spots ?k_spots ?t_spots ?a_upto ?i_upto ?l_upto ?c_upto ?k_upto ?t_upto ?a_figures ?i_figures ?l_figures ?c_figures ?k_figures ?t_figures ?a_kinit ?i_kinit ?l_kinit ?c_kinit ?k_kinit ?a_kmay ?i_kmay ?l_kmay ?c_kmay ?k_kmay ?a_close ?i_close ?l_close ?c_close ?k_close ?h_post ?h_entries ?h_spots ?h_upto ?h_figures ?pg_cB ?hd_cB ?po_cB ?sa_cB ?mk_cB ?kc_cB ?nbook_cB ?npages_cB ?nrecords_cB ?nupheld_cB ?pg_cK ?hd_cK ?po_cK ?sa_cK ?mk_cK ?kc_cK ?nbook_cK ?npages_cK ?nrecords_cK ?nupheld_cK ?rd ?ga ?fc ?z_sorted ?z_list ?z_len ?z_sum ?z_range ?z_enumerate ?z_isinstance ?z_int ?z_bool ?z_tuple
    (case aB => k_is)
    (case aK => k_is)
    (case a_rests => k_is)
    (case l_rests => k_is)
    (case c_rests => k_is)
    (case k_rests => k_is)
    (case a_month => k_is)
    (case l_month => k_is)
    (case c_month => k_is)
    (case k_month => k_is)
    (case a_figs => k_is)
    (case l_figs => k_is)
    (case c_figs => k_is)
    (case k_figs => k_is)
    (case a_moved => k_is)
    (case l_moved => k_is)
    (case c_moved => k_is)
    (case k_moved => k_is)
    (case a_carried => k_is)
    (case l_carried => k_is)
    (case c_carried => k_is)
    (case k_carried => k_is)
    (case a_copied => k_is)
    (case l_copied => k_is)
    (case c_copied => k_is)
    (case k_copied => k_is)
    (case a_cell => k_is)
    (case l_cell => k_is)
    (case c_cell => k_is)
    (case k_cell => k_is)
    (case a_whole => k_is)
    (case l_whole => k_is)
    (case c_whole => k_is)
    (case k_whole => k_is)
    (case a_names => k_is)
    (case l_names => k_is)
    (case c_names => k_is)
    (case k_names => k_is)
    (case a_amount => k_is)
    (case l_amount => k_is)
    (case c_amount => k_is)
    (case k_amount => k_is)
    (case a_lines => k_is)
    (case l_lines => k_is)
    (case c_lines => k_is)
    (case k_lines => k_is)
    (case a_lfigs => k_is)
    (case l_lfigs => k_is)
    (case c_lfigs => k_is)
    (case k_lfigs => k_is)
    (case a_same => k_is)
    (case l_same => k_is)
    (case c_same => k_is)
    (case k_same => k_is)
    (case a_lcarried => k_is)
    (case l_lcarried => k_is)
    (case c_lcarried => k_is)
    (case k_lcarried => k_is)
    (case a_lmonth => k_is)
    (case l_lmonth => k_is)
    (case c_lmonth => k_is)
    (case k_lmonth => k_is)
    (case a_law => k_is)
    (case l_law => k_is)
    (case c_law => k_is)
    (case k_law => k_is)
    (case a_binit => k_is)
    (case i_binit => k_is)
    (case l_binit => k_is)
    (case c_binit => k_is)
    (case k_binit => k_is)
    (case a_bmay => k_is)
    (case i_bmay => k_is)
    (case l_bmay => k_is)
    (case c_bmay => k_is)
    (case k_bmay => k_is)
    (case a_post => k_is)
    (case i_post => k_is)
    (case l_post => k_is)
    (case c_post => k_is)
    (case k_post => k_is)
    (case a_entries => k_is)
    (case i_entries => k_is)
    (case l_entries => k_is)
    (case c_entries => k_is)
    (case k_entries => k_is)
    (case a_spots => k_is)
    (case i_spots => k_is)
    (case l_spots => k_is)
    (case c_spots => k_is)
    (case k_spots => k_is)
    (case t_spots => k_is)
    (case a_upto => k_is)
    (case i_upto => k_is)
    (case l_upto => k_is)
    (case c_upto => k_is)
    (case k_upto => k_is)
    (case t_upto => k_is)
    (case a_figures => k_is)
    (case i_figures => k_is)
    (case l_figures => k_is)
    (case c_figures => k_is)
    (case k_figures => k_is)
    (case t_figures => k_is)
    (case a_kinit => k_is)
    (case i_kinit => k_is)
    (case l_kinit => k_is)
    (case c_kinit => k_is)
    (case k_kinit => k_is)
    (case a_kmay => k_is)
    (case i_kmay => k_is)
    (case l_kmay => k_is)
    (case c_kmay => k_is)
    (case k_kmay => k_is)
    (case a_close => k_is)
    (case i_close => k_is)
    (case l_close => k_is)
    (case c_close => k_is)
    (case k_close => k_is)
    (case h_post => k_is)
    (case h_entries => k_is)
    (case h_spots => k_is)
    (case h_upto => k_is)
    (case h_figures => k_is)
    (case pg_cB => k_is)
    (case hd_cB => k_is)
    (case po_cB => k_is)
    (case sa_cB => k_is)
    (case mk_cB => k_is)
    (case kc_cB => k_is)
    (case nbook_cB => k_is)
    (case npages_cB => k_is)
    (case nrecords_cB => k_is)
    (case nupheld_cB => k_is)
    (case pg_cK => k_is)
    (case hd_cK => k_is)
    (case po_cK => k_is)
    (case sa_cK => k_is)
    (case mk_cK => k_is)
    (case kc_cK => k_is)
    (case nbook_cK => k_is)
    (case npages_cK => k_is)
    (case nrecords_cK => k_is)
    (case nupheld_cK => k_is)
    (case rd => k_is)
    (case ga => k_is)
    (case fc => k_is)
    (case z_sorted => k_is)
    (case z_list => k_is)
    (case z_len => k_is)
    (case z_sum => k_is)
    (case z_range => k_is)
    (case z_enumerate => k_is)
    (case z_isinstance => k_is)
    (case z_int => k_is)
    (case z_bool => k_is)
    (case z_tuple => k_is)
