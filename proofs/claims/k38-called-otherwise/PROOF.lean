import PyProof.Rows.All
import Wide.All
import OpenK.AllK
import Wide.FinOn
import HandS.ForMost
import HandS.IsInst
import HandS.Defaults
import PyProof.DictMoreH
import HandS.Conv
import HandS.Set
import KE.KStateDown
import HandS.Head0
import HandS.Head1
import HandS.Head2
import HandS.HeadEnd
import HandS.HeadHook1
import HandS.HeadHook2
import PySem.Challenge.RW_fewstand_k38_whole_longest_called_otherw
set_option Elab.async false
set_option linter.all false
set_option maxRecDepth 100000
/-! The mathematics of rows of partners, in plain Lean. -/
namespace Few
abbrev Pr := List Int × List Int
/-- whether two lots share nothing -/
def miss (a b : List Int) : Bool := a.all fun t => !decide (t ∈ b)
theorem miss_iff {a b : List Int} : miss a b = true ↔ ∀ t ∈ a, t ∉ b := by
  unfold miss
  simp
/-- the pair of a number -/
def sel (ps : List Pr) (k : Int) : Pr := ps.getD k.toNat ([], [])
theorem sel_nat (ps : List Pr) (i : Nat) : sel ps (i : Int) = ps.getD i ([], []) := by
  unfold sel
  simp
theorem sel_get {ps : List Pr} {k : Int} (h0 : 0 ≤ k) (h1 : k < (ps.length : Int)) : ps[k.toNat]? = some (sel ps k) := by
  have h : k.toNat < ps.length := by omega
  unfold sel
  rw [List.getD_eq_getElem?_getD, List.getElem?_eq_getElem h]
  rfl
theorem sel_mem {ps : List Pr} {k : Int} (h0 : 0 ≤ k) (h1 : k < (ps.length : Int)) : sel ps k ∈ ps :=
  List.mem_of_getElem? (sel_get h0 h1)
structure IsRow (ps : List Pr) (r : List Int) : Prop where
  nd : r.Nodup
  inb : ∀ k ∈ r, 0 ≤ k ∧ k < (ps.length : Int)
  own : ∀ k ∈ r, miss (sel ps k).1 (sel ps k).2 = true
  up : r.Pairwise fun i j => miss (sel ps i).1 (sel ps j).2 = false
theorem IsRow.nil (ps : List Pr) : IsRow ps [] := ⟨List.nodup_nil, fun _ h => (nomatch h), fun _ h => (nomatch h), List.Pairwise.nil⟩
/-- may_come_last -/
def mayB (ps : List Pr) (row : List Int) (k : Int) : Bool := !decide (k ∈ row) && miss (sel ps k).1 (sel ps k).2 && row.all fun a => !miss (sel ps a).1 (sel ps k).2
theorem mayB_iff {ps : List Pr} {row : List Int} {k : Int} : mayB ps row k = true ↔ k ∉ row ∧ miss (sel ps k).1 (sel ps k).2 = true ∧ ∀ a ∈ row, miss (sel ps a).1 (sel ps k).2 = false := by
  unfold mayB
  simp [and_assoc]
theorem isRow_snoc {ps : List Pr} {r : List Int} {k : Int} : IsRow ps (r ++ [k]) ↔ IsRow ps r ∧ (0 ≤ k ∧ k < (ps.length : Int)) ∧ mayB ps r k = true := by
  constructor
  · intro h
    have h1 := List.nodup_append.mp h.nd
    have h2 := List.pairwise_append.mp h.up
    refine ⟨⟨h1.1, fun a ha => h.inb a (List.mem_append_left _ ha), fun a ha => h.own a (List.mem_append_left _ ha), h2.1⟩, h.inb k (by simp), mayB_iff.mpr ⟨fun hk => h1.2.2 k hk k (by simp) rfl, h.own k (by simp), fun a ha => h2.2.2 a ha k (by simp)⟩⟩
  · rintro ⟨h, hk, hm⟩
    obtain ⟨m1, m2, m3⟩ := mayB_iff.mp hm
    refine ⟨List.nodup_append.mpr ⟨h.nd, by simp, fun a ha b hb e => ?_⟩, fun a ha => ?_, fun a ha => ?_, List.pairwise_append.mpr ⟨h.up, List.pairwise_singleton _ _, fun a ha b hb => ?_⟩⟩
    · simp only [List.mem_singleton] at hb
      subst hb e
      exact m1 ha
    · rcases List.mem_append.mp ha with ha | ha
      · exact h.inb a ha
      · simp only [List.mem_singleton] at ha
        subst ha
        exact hk
    · rcases List.mem_append.mp ha with ha | ha
      · exact h.own a ha
      · simp only [List.mem_singleton] at ha
        subst ha
        exact m2
    · simp only [List.mem_singleton] at hb
      subst hb
      exact m3 a ha
theorem mayB_perm {ps : List Pr} {r r' : List Int} {k : Int} (p : r.Perm r') (h : mayB ps r k = true) : mayB ps r' k = true := by
  obtain ⟨m1, m2, m3⟩ := mayB_iff.mp h
  exact mayB_iff.mpr ⟨fun z => m1 (p.mem_iff.mpr z), m2, fun a ha => m3 a (p.mem_iff.mpr ha)⟩
theorem IsRow.take {ps : List Pr} {r : List Int} (h : IsRow ps r) (n : Nat) : IsRow ps (r.take n) :=
  ⟨h.nd.sublist (List.take_sublist ..), fun k hk => h.inb k (List.mem_of_mem_take hk), fun k hk => h.own k (List.mem_of_mem_take hk), h.up.sublist (List.take_sublist ..)⟩
/-- rising lists over a ground -/
def Up (m : Int) (l : List Int) : Prop := l.Pairwise (· < ·) ∧ ∀ x ∈ l, 0 ≤ x ∧ x < m
theorem Up.nodup {m : Int} {l : List Int} (h : Up m l) : l.Nodup := h.1.imp fun e z => by omega
theorem up_mono {m m' : Int} {l : List Int} (h : Up m l) (e : m ≤ m') : Up m' l := ⟨h.1, fun x hx => ⟨(h.2 x hx).1, by have := (h.2 x hx).2; omega⟩⟩
theorem rising_strict {l : List Int} (h : l.Pairwise (· ≤ ·)) (n : l.Nodup) : l.Pairwise (· < ·) := by
  induction l with
  | nil => exact .nil
  | cons a l ih =>
    rw [List.pairwise_cons] at h ⊢
    rw [List.nodup_cons] at n
    refine ⟨fun b hb => ?_, ih h.2 n.2⟩
    have h1 := h.1 b hb
    have h2 : a ≠ b := fun e => n.1 (e ▸ hb)
    omega
theorem rising_eq {l l' : List Int} (p : l.Perm l') (h : l.Pairwise (· ≤ ·)) (h' : l'.Pairwise (· ≤ ·)) : l = l' :=
  List.Perm.eq_of_pairwise (fun a b _ _ h1 h2 => by omega) h h' p
/-- how many rising lists there are -/
theorem count_up : ∀ (n : Nat) (a : Int) (ks : List (List Int)), ks.Nodup → (∀ k ∈ ks, k.Pairwise (· < ·) ∧ ∀ x ∈ k, a ≤ x ∧ x < a + (n : Int)) → ks.length ≤ 2 ^ n
  | 0, a, ks, nd, h => by
    have all : ∀ k ∈ ks, k = [] := fun k hk => by
      cases k with
      | nil => rfl
      | cons x r =>
        have := (h _ hk).2 x (by simp)
        omega
    match ks, nd, all with
    | [], _, _ => simp
    | [_], _, _ => simp
    | x :: y :: r, nd, all =>
      exfalso
      have e1 := all x (by simp)
      have e2 := all y (by simp)
      rw [List.nodup_cons] at nd
      exact nd.1 (by rw [e1, e2]; simp)
  | n + 1, a, ks, nd, h => by
    have e : ks.length = (ks.filter fun k => k.head? == some a).length + (ks.filter fun k => !(k.head? == some a)).length := by
      clear nd h
      induction ks with
      | nil => rfl
      | cons k ks ih =>
        rw [List.filter_cons, List.filter_cons, List.length_cons]
        by_cases hk : (k.head? == some a) = true
        · rw [if_pos hk, if_neg (by simp [hk]), List.length_cons]
          omega
        · rw [if_neg hk, if_pos (by simpa using hk), List.length_cons]
          omega
    have head : ∀ k ∈ ks.filter (fun k => k.head? == some a), k = a :: k.tail := fun k hk => by
      have := (List.mem_filter.mp hk).2
      cases k with
      | nil => simp at this
      | cons x r =>
        simp at this
        rw [this]
        rfl
    have hA : ((ks.filter fun k => k.head? == some a).map List.tail).length ≤ 2 ^ n := by
      refine count_up n (a + 1) _ ?_ ?_
      · show List.Pairwise _ _
        rw [List.pairwise_map]
        refine ((nd.sublist List.filter_sublist).imp_of_mem fun {x y} hx hy hxy z => hxy ?_)
        rw [head x hx, head y hy, z]
      · intro t ht
        obtain ⟨k, hk, rfl⟩ := List.mem_map.mp ht
        obtain ⟨h1, h2⟩ := h k (List.mem_filter.mp hk).1
        rw [head k hk] at h1 h2
        rw [List.pairwise_cons] at h1
        refine ⟨h1.2, fun x hx => ?_⟩
        have e1 := h1.1 x hx
        have e2 := h2 x (List.mem_cons_of_mem _ hx)
        omega
    have hB : (ks.filter fun k => !(k.head? == some a)).length ≤ 2 ^ n := by
      refine count_up n (a + 1) _ (nd.sublist List.filter_sublist) fun k hk => ?_
      obtain ⟨hm, hh⟩ := List.mem_filter.mp hk
      obtain ⟨h1, h2⟩ := h k hm
      refine ⟨h1, fun x hx => ?_⟩
      cases k with
      | nil => exact nomatch hx
      | cons y r =>
        have hy : y ≠ a := fun z => by
          rw [z] at hh
          simp at hh
        have b1 := h2 y (by simp)
        have b2 := h2 x hx
        have b3 : y ≤ x := by
          rcases List.mem_cons.mp hx with z | z
          · omega
          · have := (List.pairwise_cons.mp h1).1 x z
            omega
        omega
    rw [List.length_map] at hA
    rw [e, Nat.pow_succ]
    omega
/-- a layer: for each set of n numbers that stands in a row one such row -/
structure Layer (ps : List Pr) (n : Nat) (rows : List (List Int)) : Prop where
  row : ∀ r ∈ rows, IsRow ps r ∧ r.length = n
  all : ∀ r, IsRow ps r → r.length = n → ∃ r' ∈ rows, r'.Perm r
  few : rows.length ≤ 2 ^ ps.length
theorem layer_zero (ps : List Pr) : Layer ps 0 [[]] where
  row := fun r hr => by
    simp only [List.mem_singleton] at hr
    subst hr
    exact ⟨IsRow.nil ps, rfl⟩
  all := fun r _ hl => ⟨[], by simp, by rw [List.length_eq_zero_iff.mp hl]⟩
  few := Nat.one_le_two_pow
/-- what the dict of longer_rows holds: (key, row), made of the rows and numbers done so far -/
structure Got (ps : List Pr) (n : Nat) (D : List Int → Int → Prop) (es : List (List Int × List Int)) : Prop where
  row : ∀ e ∈ es, IsRow ps e.2 ∧ e.2.length = n + 1
  key : ∀ e ∈ es, e.1.Perm e.2 ∧ e.1.Pairwise (· ≤ ·)
  nd : (es.map (·.1)).Nodup
  all : ∀ r k, D r k → mayB ps r k = true → ∃ e ∈ es, e.2.Perm (r ++ [k])
theorem Got.few {ps : List Pr} {n : Nat} {D : List Int → Int → Prop} {es : List (List Int × List Int)} (g : Got ps n D es) : es.length ≤ 2 ^ ps.length := by
  have h := count_up ps.length 0 (es.map (·.1)) g.nd fun k hk => by
    obtain ⟨e, he, rfl⟩ := List.mem_map.mp hk
    obtain ⟨p, s⟩ := g.key e he
    obtain ⟨r, _⟩ := g.row e he
    refine ⟨rising_strict s (p.nodup_iff.mpr r.nd), fun x hx => ?_⟩
    have := r.inb x (p.mem_iff.mp hx)
    omega
  rwa [List.length_map] at h
theorem Got.nil (ps : List Pr) (n : Nat) : Got ps n (fun _ _ => False) [] := ⟨fun _ h => (nomatch h), fun _ h => (nomatch h), List.nodup_nil, fun _ _ h => h.elim⟩
theorem Got.mono {ps : List Pr} {n : Nat} {D D' : List Int → Int → Prop} {es : List (List Int × List Int)} (g : Got ps n D es) (h : ∀ r k, D' r k → D r k) : Got ps n D' es :=
  ⟨g.row, g.key, g.nd, fun r k d m => g.all r k (h r k d) m⟩
/-- a pair that may not come last -/
theorem Got.skip {ps : List Pr} {n : Nat} {D : List Int → Int → Prop} {es : List (List Int × List Int)} {r0 : List Int} {k0 : Int} (g : Got ps n D es) (h : mayB ps r0 k0 = false) : Got ps n (fun r k => D r k ∨ (r = r0 ∧ k = k0)) es :=
  ⟨g.row, g.key, g.nd, fun r k d m => by
    rcases d with d | ⟨rfl, rfl⟩
    · exact g.all r k d m
    · rw [h] at m
      cases m⟩
/-- its key stands already -/
theorem Got.old {ps : List Pr} {n : Nat} {D : List Int → Int → Prop} {es : List (List Int × List Int)} {r0 key : List Int} {k0 : Int} (g : Got ps n D es) (hp : key.Perm (r0 ++ [k0])) (hk : key ∈ es.map (·.1)) : Got ps n (fun r k => D r k ∨ (r = r0 ∧ k = k0)) es :=
  ⟨g.row, g.key, g.nd, fun r k d m => by
    rcases d with d | ⟨rfl, rfl⟩
    · exact g.all r k d m
    · obtain ⟨e, he, q⟩ := List.mem_map.mp hk
      exact ⟨e, he, (g.key e he).1.symm.trans (q ▸ hp)⟩⟩
/-- a new key -/
theorem Got.new {ps : List Pr} {n : Nat} {D : List Int → Int → Prop} {es : List (List Int × List Int)} {r0 key : List Int} {k0 : Int} (g : Got ps n D es) (hp : key.Perm (r0 ++ [k0])) (hs : key.Pairwise (· ≤ ·)) (hk : key ∉ es.map (·.1))
    (hr : IsRow ps r0) (hl : r0.length = n) (hk0 : 0 ≤ k0 ∧ k0 < (ps.length : Int)) (hm : mayB ps r0 k0 = true) : Got ps n (fun r k => D r k ∨ (r = r0 ∧ k = k0)) (es ++ [(key, r0 ++ [k0])]) := by
  refine ⟨fun e he => ?_, fun e he => ?_, ?_, fun r k d m => ?_⟩
  · rcases List.mem_append.mp he with he | he
    · exact g.row e he
    · simp only [List.mem_singleton] at he
      subst he
      exact ⟨isRow_snoc.mpr ⟨hr, hk0, hm⟩, by simp [hl]⟩
  · rcases List.mem_append.mp he with he | he
    · exact g.key e he
    · simp only [List.mem_singleton] at he
      subst he
      exact ⟨hp, hs⟩
  · rw [List.map_append, List.nodup_append]
    refine ⟨g.nd, by simp, fun a ha b hb e => ?_⟩
    simp only [List.map_cons, List.map_nil, List.mem_singleton] at hb
    subst hb e
    exact hk ha
  · rcases d with d | ⟨rfl, rfl⟩
    · obtain ⟨e, he, q⟩ := g.all r k d m
      exact ⟨e, List.mem_append_left _ he, q⟩
    · exact ⟨_, List.mem_append_right _ (List.mem_singleton.mpr rfl), List.Perm.refl _⟩
/-- all rows and numbers gone through: the next layer -/
theorem Got.done {ps : List Pr} {n : Nat} {rows : List (List Int)} {es : List (List Int × List Int)} (L : Layer ps n rows) (g : Got ps n (fun r k => r ∈ rows ∧ 0 ≤ k ∧ k < (ps.length : Int)) es) : Layer ps (n + 1) (es.map (·.2)) where
  row := fun r hr => by
    obtain ⟨e, he, rfl⟩ := List.mem_map.mp hr
    exact g.row e he
  all := fun r hr hl => by
    have hne : r ≠ [] := fun z => by
      rw [z] at hl
      simp at hl
    have e1 : r = r.dropLast ++ [r.getLast hne] := (List.dropLast_concat_getLast hne).symm
    rw [e1] at hr
    obtain ⟨h1, h2, h3⟩ := isRow_snoc.mp hr
    obtain ⟨r', hr', p⟩ := L.all _ h1 (by rw [List.length_dropLast, hl]; rfl)
    obtain ⟨e, he, q⟩ := g.all r' (r.getLast hne) ⟨hr', h2⟩ (mayB_perm p.symm h3)
    refine ⟨e.2, List.mem_map_of_mem he, q.trans ?_⟩
    conv => rhs; rw [e1]
    exact p.append_right _
  few := by
    rw [List.length_map]
    exact g.few
/-- a longest row -/
structure Best (ps : List Pr) (r : List Int) : Prop where
  row : IsRow ps r
  most : ∀ r', IsRow ps r' → r'.length ≤ r.length
theorem IsRow.len {ps : List Pr} {r : List Int} (h : IsRow ps r) : r.length ≤ ps.length := by
  have p : r.Nodup := h.nd
  have key : ∀ (n : Nat) (l : List Int), l.Nodup → (∀ k ∈ l, 0 ≤ k ∧ k < (n : Int)) → l.length ≤ n := by
    intro n
    induction n with
    | zero =>
      intro l _ hl
      cases l with
      | nil => exact Nat.le_refl _
      | cons x r =>
        have := hl x (by simp)
        omega
    | succ n ih =>
      intro l nd hl
      have h1 := ih (l.erase (n : Int)) (nd.erase _) fun k hk => by
        have h2 := hl k (List.mem_of_mem_erase hk)
        have h3 : k ≠ (n : Int) := fun z => by
          rw [z] at hk
          exact (List.Nodup.not_mem_erase nd) hk
        omega
      rw [List.length_erase] at h1
      split at h1 <;> omega
  exact key _ _ p h.inb
theorem best_of {ps : List Pr} {n : Nat} {r : List Int} {rows : List (List Int)} (L : Layer ps n (r :: rows)) (L' : Layer ps (n + 1) []) : Best ps r := by
  obtain ⟨h1, h2⟩ := L.row r (by simp)
  refine ⟨h1, fun r' h' => ?_⟩
  rw [h2]
  refine Nat.le_of_not_lt fun hlt => ?_
  obtain ⟨_, q, _⟩ := L'.all (r'.take (n + 1)) (h'.take _) (by rw [List.length_take]; omega)
  exact nomatch q
/-- a list of pairs that is a row of partners -/
def Good (qs : List Pr) : Prop := (∀ q ∈ qs, miss q.1 q.2 = true) ∧ qs.Pairwise fun a b => miss a.1 b.2 = false
/-- the number at a place -/
def at' (is : List Int) (j : Int) : Int := is.getD j.toNat 0
theorem at_get {is : List Int} {j : Int} (h0 : 0 ≤ j) (h1 : j < (is.length : Int)) : is[j.toNat]? = some (at' is j) := by
  have h : j.toNat < is.length := by omega
  unfold at'
  rw [List.getD_eq_getElem?_getD, List.getElem?_eq_getElem h]
  rfl
theorem at_mem {is : List Int} {j : Int} (h0 : 0 ≤ j) (h1 : j < (is.length : Int)) : at' is j ∈ is := List.mem_of_getElem? (at_get h0 h1)
theorem at_inj {is : List Int} (nd : is.Nodup) {i j : Int} (h0 : 0 ≤ i) (h1 : i < (is.length : Int)) (g0 : 0 ≤ j) (g1 : j < (is.length : Int)) (e : at' is i = at' is j) : i = j := by
  have a := at_get h0 h1
  have b := at_get g0 g1
  rw [e] at a
  obtain ⟨l1, e1⟩ := List.getElem?_eq_some_iff.mp a
  obtain ⟨l2, e2⟩ := List.getElem?_eq_some_iff.mp b
  have := (List.getElem_inj nd).mp (e1.trans e2.symm)
  omega
theorem at_onto {is : List Int} {k : Int} (h : k ∈ is) : ∃ j : Int, (0 ≤ j ∧ j < (is.length : Int)) ∧ at' is j = k := by
  obtain ⟨i, hi, e⟩ := List.mem_iff_getElem.mp h
  refine ⟨(i : Int), ⟨by omega, by omega⟩, ?_⟩
  unfold at'
  simp [hi, e]
/-- qs are pairs of ps, called otherwise or not: the pair j of qs is the pair is[j] of ps -/
structure Led (ps qs : List Pr) (is : List Int) : Prop where
  nd : is.Nodup
  inb : ∀ k ∈ is, 0 ≤ k ∧ k < (ps.length : Int)
  len : qs.length = is.length
  eq : ∀ i j : Int, 0 ≤ i → i < (is.length : Int) → 0 ≤ j → j < (is.length : Int) → miss (sel qs i).1 (sel qs j).2 = miss (sel ps (at' is i)).1 (sel ps (at' is j)).2
theorem Led.to {ps qs : List Pr} {is : List Int} (L : Led ps qs is) {r : List Int} (h : IsRow qs r) : IsRow ps (r.map (at' is)) := by
  have hb : ∀ k ∈ r, 0 ≤ k ∧ k < (is.length : Int) := fun k hk => by
    have := h.inb k hk
    rw [L.len] at this
    exact this
  refine ⟨?_, fun k hk => ?_, fun k hk => ?_, ?_⟩
  · show List.Pairwise _ _
    rw [List.pairwise_map]
    exact h.nd.imp_of_mem fun {x y} hx hy ne e => ne (at_inj L.nd (hb x hx).1 (hb x hx).2 (hb y hy).1 (hb y hy).2 e)
  · obtain ⟨j, hj, rfl⟩ := List.mem_map.mp hk
    exact L.inb _ (at_mem (hb j hj).1 (hb j hj).2)
  · obtain ⟨j, hj, rfl⟩ := List.mem_map.mp hk
    have b := hb j hj
    rw [← L.eq j j b.1 b.2 b.1 b.2]
    exact h.own j hj
  · rw [List.pairwise_map]
    exact h.up.imp_of_mem fun {x y} hx hy e => by
      rw [← L.eq x y (hb x hx).1 (hb x hx).2 (hb y hy).1 (hb y hy).2]
      exact e
theorem nd_of_map {f : Int → Int} : ∀ {l : List Int}, (l.map f).Nodup → l.Nodup := fun {l} h => by
  have h' : List.Pairwise _ (l.map f) := h
  rw [List.pairwise_map] at h'
  exact h'.imp fun ne e => ne (by rw [e])
theorem Led.back {ps qs : List Pr} {is : List Int} (L : Led ps qs is) (hall : ∀ k : Int, 0 ≤ k → k < (ps.length : Int) → k ∈ is) {r : List Int} (h : IsRow ps r) : ∃ r', IsRow qs r' ∧ r'.length = r.length := by
  have ex : ∀ r : List Int, (∀ k ∈ r, 0 ≤ k ∧ k < (ps.length : Int)) → ∃ r' : List Int, r'.map (at' is) = r ∧ ∀ j ∈ r', 0 ≤ j ∧ j < (is.length : Int) := by
    intro r
    induction r with
    | nil => exact fun _ => ⟨[], rfl, fun _ h => nomatch h⟩
    | cons k r ih =>
      intro hr
      obtain ⟨r', e, hb⟩ := ih fun k hk => hr k (List.mem_cons_of_mem _ hk)
      obtain ⟨h1, h2⟩ := hr k (by simp)
      obtain ⟨j, hj, ej⟩ := at_onto (hall k h1 h2)
      refine ⟨j :: r', by rw [List.map_cons, e, ej], fun i hi => ?_⟩
      rcases List.mem_cons.mp hi with z | z
      · rw [z]
        exact hj
      · exact hb i z
  obtain ⟨r', e, hb⟩ := ex r h.inb
  subst e
  refine ⟨r', ⟨nd_of_map h.nd, fun k hk => ?_, fun k hk => ?_, ?_⟩, by rw [List.length_map]⟩
  · have := hb k hk
    rw [L.len]
    exact this
  · have b := hb k hk
    rw [L.eq k k b.1 b.2 b.1 b.2]
    exact h.own _ (List.mem_map_of_mem hk)
  · have u := h.up
    rw [List.pairwise_map] at u
    exact u.imp_of_mem fun {x y} hx hy e => by
      rw [L.eq x y (hb x hx).1 (hb x hx).2 (hb y hy).1 (hb y hy).2]
      exact e
/-- part of the pairs: no longer row -/
theorem Led.le {ps qs : List Pr} {is : List Int} (L : Led ps qs is) {r r' : List Int} (b : Best ps r) (b' : Best qs r') : r'.length ≤ r.length := by
  have := b.most _ (L.to b'.row)
  rwa [List.length_map] at this
/-- all of the pairs: as long -/
theorem Led.same {ps qs : List Pr} {is : List Int} (L : Led ps qs is) (hall : ∀ k : Int, 0 ≤ k → k < (ps.length : Int) → k ∈ is) {r r' : List Int} (b : Best ps r) (b' : Best qs r') : r'.length = r.length := by
  obtain ⟨r2, h1, h2⟩ := L.back hall b.row
  have := b'.most _ h1
  have := L.le b b'
  omega
theorem best_same {ps : List Pr} {r r' : List Int} (b : Best ps r) (b' : Best ps r') : r'.length = r.length := by
  have := b.most _ b'.row
  have := b'.most _ b.row
  omega
/-- a sublist is led -/
theorem led_sub {ps qs : List Pr} (h : qs.Sublist ps) : ∃ is, Led ps qs is := by
  obtain ⟨js, e, up⟩ := List.sublist_eq_map_getElem h
  refine ⟨js.map fun j => ((j.val : Nat) : Int), ⟨?_, fun k hk => ?_, by rw [e]; simp, fun i j hi0 hi hj0 hj => ?_⟩⟩
  · show List.Pairwise _ _
    rw [List.pairwise_map]
    exact up.imp fun {a b} hab z => by
      have : a.val < b.val := hab
      omega
  · obtain ⟨j, _, rfl⟩ := List.mem_map.mp hk
    have := j.isLt
    omega
  · have one : ∀ i : Int, 0 ≤ i → i < ((js.map fun j => ((j.val : Nat) : Int)).length : Int) → sel qs i = sel ps (at' (js.map fun j => ((j.val : Nat) : Int)) i) := fun i h0 h1 => by
      rw [List.length_map] at h1
      have hl : i.toNat < js.length := by omega
      have e1 : at' (js.map fun j => ((j.val : Nat) : Int)) i = ((js[i.toNat].val : Nat) : Int) := by
        unfold at'
        rw [List.getD_eq_getElem?_getD, List.getElem?_map, List.getElem?_eq_getElem hl]
        rfl
      rw [e1, sel_nat, e]
      unfold sel
      rw [List.getD_eq_getElem?_getD, List.getElem?_map, List.getElem?_eq_getElem hl, List.getD_eq_getElem?_getD, List.getElem?_eq_getElem js[i.toNat].isLt]
      rfl
    rw [one i hi0 hi, one j hj0 hj]
/-- lots called otherwise -/
structure Called (m : Int) (nm : Int → Int) (p q : Pr) : Prop where
  one : q.1.Perm (p.1.map nm)
  two : q.2.Perm (p.2.map nm)
  in1 : ∀ x ∈ p.1, 0 ≤ x ∧ x < m
  in2 : ∀ x ∈ p.2, 0 ≤ x ∧ x < m
theorem miss_called {m : Int} {nm : Int → Int} (inj : ∀ x y, 0 ≤ x → x < m → 0 ≤ y → y < m → nm x = nm y → x = y) {p q p' q' : Pr} (c : Called m nm p q) (c' : Called m nm p' q') : miss q.1 q'.2 = miss p.1 p'.2 := by
  have h : miss q.1 q'.2 = true ↔ miss p.1 p'.2 = true := by
    rw [miss_iff, miss_iff]
    constructor
    · intro h t ht ht'
      exact h (nm t) (c.one.mem_iff.mpr (List.mem_map_of_mem ht)) (c'.two.mem_iff.mpr (List.mem_map_of_mem ht'))
    · intro h t ht ht'
      obtain ⟨x, hx, ex⟩ := List.mem_map.mp (c.one.mem_iff.mp ht)
      obtain ⟨y, hy, ey⟩ := List.mem_map.mp (c'.two.mem_iff.mp ht')
      have e := inj x y (c.in1 x hx).1 (c.in1 x hx).2 (c'.in2 y hy).1 (c'.in2 y hy).2 (ex.trans ey.symm)
      subst e
      exact h x hx hy
  cases h1 : miss q.1 q'.2 <;> cases h2 : miss p.1 p'.2 <;> simp_all
/-- the pairs called otherwise and in another order -/
theorem led_called {m : Int} {nm : Int → Int} (inj : ∀ x y, 0 ≤ x → x < m → 0 ≤ y → y < m → nm x = nm y → x = y) {ps cs : List Pr} (hc : ∀ i : Int, 0 ≤ i → i < (ps.length : Int) → Called m nm (sel ps i) (sel cs i))
    {is : List Int} (nd : is.Nodup) (inb : ∀ k ∈ is, 0 ≤ k ∧ k < (ps.length : Int)) : Led ps (is.map (sel cs)) is := by
  refine ⟨nd, inb, by rw [List.length_map], fun i j hi0 hi hj0 hj => ?_⟩
  have one : ∀ i : Int, 0 ≤ i → i < (is.length : Int) → sel (is.map (sel cs)) i = sel cs (at' is i) := fun i h0 h1 => by
    have hlt : i.toNat < is.length := by omega
    unfold at'
    show (is.map (sel cs)).getD i.toNat ([], []) = _
    rw [List.getD_eq_getElem?_getD, List.getElem?_map, List.getElem?_eq_getElem hlt, List.getD_eq_getElem?_getD, List.getElem?_eq_getElem hlt]
    rfl
  rw [one i hi0 hi, one j hj0 hj]
  have bi := inb _ (at_mem hi0 hi)
  have bj := inb _ (at_mem hj0 hj)
  exact miss_called inj (hc _ bi.1 bi.2) (hc _ bj.1 bj.2)
/-- a row, its pairs called otherwise -/
theorem good_called {m : Int} {nm : Int → Int} (inj : ∀ x y, 0 ≤ x → x < m → 0 ≤ y → y < m → nm x = nm y → x = y) {ps cs : List Pr} (hc : ∀ i : Int, 0 ≤ i → i < (ps.length : Int) → Called m nm (sel ps i) (sel cs i))
    {r : List Int} (h : IsRow ps r) : Good (r.map (sel cs)) := by
  refine ⟨fun q hq => ?_, ?_⟩
  · obtain ⟨k, hk, rfl⟩ := List.mem_map.mp hq
    have b := h.inb k hk
    rw [miss_called inj (hc k b.1 b.2) (hc k b.1 b.2)]
    exact h.own k hk
  · rw [List.pairwise_map]
    exact h.up.imp_of_mem fun {x y} hx hy e => by
      have bx := h.inb x hx
      have by' := h.inb y hy
      rw [miss_called inj (hc x bx.1 bx.2) (hc y by'.1 by'.2)]
      exact e
theorem good_of {ps : List Pr} {r : List Int} (h : IsRow ps r) : Good (r.map (sel ps)) := by
  refine ⟨fun q hq => ?_, ?_⟩
  · obtain ⟨k, hk, rfl⟩ := List.mem_map.mp hq
    exact h.own k hk
  · rw [List.pairwise_map]
    exact h.up
/-- names: each thing of the ground once -/
theorem names_inj {m : Int} {names : List Int} (nd : names.Nodup) (hl : (names.length : Int) = m) : ∀ x y, 0 ≤ x → x < m → 0 ≤ y → y < m → at' names x = at' names y → x = y := fun x y h0 h1 g0 g1 e =>
  at_inj nd h0 (by omega) g0 (by omega) e
end Few
namespace Fw
open PySem PySem.Spec PyProof.Rows L2 Few
/-! ### the text -/
def top (i : Nat) : Stmt := PySem.Challenge.pw_fewstand_k38_whole_longest_called_otherw.main.body.getD i (.Pass ⟨0, 0, 0, 0⟩)
abbrev FnP (K : PySem.W.Frag) (x : Str) (st : Stmt) (f : Addr) (fd : FuncData) : Prop := FunD K x x (defArgs st) (defBody st) (defScope st) [] [] f fd
abbrev sWhole : Stmt := top 4
abbrev sWithin : Stmt := top 5
abbrev sRising : Stmt := top 7
abbrev sLot : Stmt := top 8
abbrev sMisses : Stmt := top 9
abbrev sPair : Stmt := top 12
abbrev sRow : Stmt := top 13
abbrev sLook : Stmt := top 14
abbrev sMay : Stmt := top 15
abbrev sLonger : Stmt := top 16
abbrev sLongest : Stmt := top 17
abbrev sPool : Stmt := top 19
abbrev sTake : Stmt := top 20
abbrev sSome : Stmt := top 21
abbrev sLPair : Stmt := top 26
abbrev sCase : Stmt := top 27
abbrev sShuf : Stmt := top 28
abbrev sCalled : Stmt := top 29
abbrev sRight : Stmt := top 30
abbrev sLaw : Stmt := top 31
/-- what the top leaves of the built-in names -/
structure Bl (mg : Str → Option Value) : Prop where
  isi : mg "isinstance" = none
  int : mg "int" = none
  bool : mg "bool" = none
  tuple : mg "tuple" = none
  list : mg "list" = none
  len : mg "len" = none
  range : mg "range" = none
  all : mg "all" = none
  sorted : mg "sorted" = none
  min : mg "min" = none
  enum : mg "enumerate" = none
  most : ∃ t, mg "MOST_PAIRS" = some (.int 12 t)
/-! ### data on the heap -/
abbrev iv (ns : List Int) : List V := ns.map V.int
structure PairAt (H : Hp) (a : Addr) (p : Pr) : Prop where
  ex : ∃ b c, H a = some (.tup [.ref b, .ref c]) ∧ H b = some (.tup (iv p.1)) ∧ H c = some (.tup (iv p.2))
theorem same_upd {H : Hp} {p : Addr} {o : HO} (h : H p = none) : Same H (upd H p o) := fun b x e => by
  rw [upd_ne (ne_of_none e h)]
  exact e
theorem PairAt.mono {H H' : Hp} {a : Addr} {p : Pr} (h : PairAt H a p) (s : ∀ b xs, H b = some (.tup xs) → H' b = some (.tup xs)) : PairAt H' a p :=
  let ⟨b, c, h1, h2, h3⟩ := h.ex; ⟨b, c, s _ _ h1, s _ _ h2, s _ _ h3⟩
/-- valid pairs -/
structure Val (m s q : Int) (p : Pr) : Prop where
  one : Up m p.1
  len : (p.1.length : Int) = s
  two : Up m p.2
  most : (p.2.length : Int) ≤ q
section
variable {P : Program} {w : World} {K : PySem.W.Frag} {mg : Str → Option Value} {base : Heap}
/-! ### is_whole, is_within -/
def spWhole : Sp := fun vs H Q _ => ∃ n : Int, vs = [.int n] ∧ Q (.bl true) H
theorem scWhole : FnScope ["thing"] ["thing"] (defScope sWhole) := ⟨rfl, rfl, rfl, by decide +kernel, rfl, by decide +kernel, by decide +kernel⟩
theorem ok_whole {f : Addr} {fd : FuncData} (F : FnP K "is_whole" sWhole f fd) (B : Bl mg) : FnOk P w K mg base CX0 1 f fd ["thing"] spWhole := by
  refine F.ok scWhole (fun vs H Q E h => ?_) (fun cdv A outer s H vs Q E hr h => ⟨_, PSs.nox (pss_one (ps_ret (pe_and
    (pe_callB call_isi (by rfl) B.isi PyProof.Rows.boot_isinstance (pa_cons (pv 0) (pa_cons (pe_bltn (v := .ty "int") (by rfl) B.int PyProof.Rows.boot_int rfl) pa_nil)))
    (pe_one (pe_not (pe_callB call_isi (by rfl) B.isi PyProof.Rows.boot_isinstance (pa_cons (pv 0) (pa_cons (pe_bltn (v := .ty "bool") (by rfl) B.bool PyProof.Rows.boot_bool rfl) pa_nil)))))))), ?_⟩)
  · obtain ⟨n, rfl, _⟩ := h
    rfl
  · obtain ⟨n, rfl, q⟩ := h
    refine ⟨_, rfl, .int n, .ty "int", _, _, true, rfl, .ty _, .base (.int n), kit_ty (by decide +kernel), _, rfl, iteT ?_⟩
    exact ⟨_, rfl, .int n, .ty "bool", _, _, false, rfl, .ty _, .base (.int n), kit_ty (by decide +kernel), _, rfl, q⟩
def spWithin : Sp := fun vs H Q _ => ∃ n a b : Int, vs = [.int n, .int a, .int b] ∧ Q (.bl (decide (a ≤ n ∧ n ≤ b))) H
theorem scWithin : FnScope ["thing", "least", "most"] ["thing", "least", "most"] (defScope sWithin) := ⟨rfl, rfl, rfl, by decide +kernel, rfl, by decide +kernel, by decide +kernel⟩
theorem ok_within {f fW : Addr} {fd fdW : FuncData} (F : FnP K "is_within" sWithin f fd) (FW : FnP K "is_whole" sWhole fW fdW) (gW : mg "is_whole" = some (.ref fW)) (B : Bl mg) : FnOk P w K mg base CX0 2 f fd ["thing", "least", "most"] spWithin := by
  have GW : FnOk P w K mg base CX0 1 fW fdW ["thing"] spWhole := ok_whole FW B
  have bW : Binds K fdW ["thing"] [] := FW.bindsN fun _ _ _ _ _ _ us hl => match us, hl with | [_], _ => rfl
  refine F.ok scWithin (fun vs H Q E h => ?_) (fun cdv A outer s H vs Q E hr h => ⟨_, PSs.nox (pss_one (ps_ret (pe_and
    (pe_call GW hr (by rfl) gW FW.kp bW .nil pass0 (pa_cons (pv 0) pa_nil))
    (pe_one (pe_chain op_le op_le (pv 1) (pv 0) (pv 2)))))), ?_⟩)
  · obtain ⟨n, a, b, rfl, _⟩ := h
    rfl
  · obtain ⟨n, a, b, rfl, q⟩ := h
    refine ⟨_, rfl, n, rfl, _, rfl, iteT ?_⟩
    refine ⟨_, rfl, _, rfl, _, _, rfl, rfl, _, rfl, ?_⟩
    refine ite2 (fun e => ?_) (fun e => ?_)
    · have e1 : a ≤ n := of_decide_eq_true e
      refine ⟨_, rfl, _, _, rfl, rfl, ?_⟩
      have e2 : decide (n ≤ b) = decide (a ≤ n ∧ n ≤ b) := by simp [e1]
      show Q (V.bl (decide (n ≤ b))) H
      rw [e2]
      exact q
    · have e1 : ¬ a ≤ n := fun z => e (decide_eq_true z)
      have e2 : decide (a ≤ n ∧ n ≤ b) = false := by simp [e1]
      rw [e2] at q
      exact q
/-! ### is_rising, is_lot, misses, is_pair -/
theorem item_int {ns : List Int} {i : Nat} {x : V} (h : (iv ns)[i]? = some x) : ∃ n, ns[i]? = some n ∧ x = .int n := by
  rw [List.getElem?_map] at h
  cases e : ns[i]? with
  | none =>
    rw [e] at h
    cases h
  | some n =>
    rw [e] at h
    exact ⟨n, rfl, (Option.some.inj h).symm⟩
theorem drop_at {α : Type} {ns : List α} {i : Nat} {n : α} (h : ns[i]? = some n) : ns.drop i = n :: ns.drop (i + 1) := by
  obtain ⟨hi, e⟩ := List.getElem?_eq_some_iff.mp h
  rw [List.drop_eq_getElem_cons hi, e]
theorem take_at {α : Type} {ns : List α} {i : Nat} {n : α} (h : ns[i]? = some n) : ns.take (i + 1) = ns.take i ++ [n] := by
  rw [List.take_add_one, h]
  rfl
theorem iv_len (ns : List Int) : (iv ns).length = ns.length := List.length_map _
def spRising : Sp := fun vs H Q _ => ∃ (m : Int) (a : Addr) (ns : List Int), vs = [.int m, .ref a] ∧ H a = some (.tup (iv ns)) ∧ Up m ns ∧ Q (.bl true) H
theorem scRising : FnScope ["many", "thing", "last", "one"] ["many", "thing"] (defScope sRising) := ⟨rfl, rfl, rfl, by decide +kernel, rfl, by decide +kernel, by decide +kernel⟩
theorem ok_rising {f fN : Addr} {fd fdN : FuncData} (F : FnP K "is_rising" sRising f fd) (bN : Binds K fdN ["thing", "least", "most"] []) (kN : PySem.W.keepIn K (.ref fN) = true) (gN : mg "is_within" = some (.ref fN)) (B : Bl mg)
    (GN : FnOk P w K mg base CX0 2 fN fdN ["thing", "least", "most"] spWithin) : FnOk P w K mg base CX0 3 f fd ["many", "thing"] spRising := by
  refine F.ok scRising (fun vs H Q E h => ?_) (fun cdv A outer s H vs Q E hr h => ⟨_, PSs.nox (
    pss_cons (ps_if (pt_not (pt_val (pe_callB call_isi (by rfl) B.isi PyProof.Rows.boot_isinstance (pa_cons (pv 1) (pa_cons (pe_bltn (v := .ty "tuple") (by rfl) B.tuple PyProof.Rows.boot_tuple rfl) pa_nil))))) (pss_one (ps_ret pe_bl)) pss_nil)
    (pss_cons (ps_set (i := 2) scRising.nd rfl (.inl rfl) (pe_un un_neg pe_int))
    (pss_cons (ps_for PassesOwn.never rfl (pi_tup (pv 1)) (pg_name (i := 3) scRising.nd rfl (.inl rfl))
      (pss_cons (ps_if (pt_not (pt_val (pe_call GN hr (by rfl) gN kN bN .nil pass0 (pa_cons (pv 3) (pa_cons (pe_op op_add (pv 2) pe_int) (pa_cons (pe_op op_sub (pv 0) pe_int) pa_nil)))))) (pss_one (ps_ret pe_bl)) pss_nil)
      (pss_one (ps_set (i := 2) scRising.nd rfl (.inl rfl) (pv 3)))))
    (pss_one (ps_ret pe_bl))))), ?_⟩)
  · obtain ⟨m, a, ns, rfl, _⟩ := h
    rfl
  · obtain ⟨m, a, ns, rfl, ha, hup, q⟩ := h
    refine ⟨_, rfl, .ref a, .ty "tuple", _, _, true, rfl, .ty _, .base (.tup ha), kit_ty (by decide +kernel), _, rfl, iteF ?_⟩
    refine ⟨1, rfl, ?_⟩
    refine ⟨_, rfl, a, rfl, ⟨_, SqT.of ha⟩, for_tup (K := K) (a := a) (xs := iv ns) (fun i σ H2 => H2 = H ∧ ∃ (l : Int) (v : Option V), σ = [some (.int m), some (.ref a), some (.int l), v] ∧ -1 ≤ l ∧ ∀ x ∈ ns.drop i, l < x)
      ⟨rfl, -1, none, rfl, by omega, fun x hx => ?_⟩ (fun i σ H2 _ ⟨e, _⟩ => by rw [e]; exact SqT.of ha) ?_ ?_⟩
    · have := (hup.2 x (List.mem_of_mem_drop hx)).1
      omega
    · rintro i x σ H2 hi ⟨rfl, l, v, rfl, hl, hd⟩
      obtain ⟨n, hn, rfl⟩ := item_int hi
      have hm : n ∈ ns := List.mem_of_getElem? hn
      have e := drop_at hn
      have b1 : l < n := hd n (by rw [e]; simp)
      have b2 := hup.2 n hm
      refine ⟨_, rfl, _, rfl, _, _, rfl, rfl, _, rfl, _, _, rfl, rfl, n, l + 1, m - 1, rfl, _, rfl, ?_⟩
      rw [decide_eq_true (show l + 1 ≤ n ∧ n ≤ m - 1 by omega)]
      refine iteF ?_
      refine ⟨_, rfl, rfl, n, _, rfl, by omega, fun x hx => ?_⟩
      have hp : (ns.drop i).Pairwise (· < ·) := hup.1.sublist (List.drop_sublist ..)
      rw [e] at hp
      exact (List.pairwise_cons.mp hp).1 x hx
    · rintro σ H2 ⟨rfl, l, v, rfl, _, _⟩
      exact q
def spLot : Sp := fun vs H Q _ => ∃ (m s : Int) (a : Addr) (ns : List Int), vs = [.int m, .int s, .ref a] ∧ H a = some (.tup (iv ns)) ∧ Up m ns ∧ (ns.length : Int) = s ∧ Q (.bl true) H
theorem scLot : FnScope ["many", "size", "thing"] ["many", "size", "thing"] (defScope sLot) := ⟨rfl, rfl, rfl, by decide +kernel, rfl, by decide +kernel, by decide +kernel⟩
theorem ok_lot {f fN : Addr} {fd fdN : FuncData} (F : FnP K "is_lot" sLot f fd) (bN : Binds K fdN ["many", "thing"] []) (kN : PySem.W.keepIn K (.ref fN) = true) (gN : mg "is_rising" = some (.ref fN)) (B : Bl mg)
    (GN : FnOk P w K mg base CX0 3 fN fdN ["many", "thing"] spRising) : FnOk P w K mg base CX0 4 f fd ["many", "size", "thing"] spLot := by
  refine F.ok scLot (fun vs H Q E h => ?_) (fun cdv A outer s H vs Q E hr h => ⟨_, PSs.nox (
    pss_one (ps_ret (pe_and (pe_call GN hr (by rfl) gN kN bN .nil pass0 (pa_cons (pv 0) (pa_cons (pv 2) pa_nil)))
      (pe_one (pe_cmpR op_eq (pe_callB call_len_seq (by rfl) B.len PySem.boot_len (pa_cons (pv 2) pa_nil)) (pv 1) (nomark _)))))), ?_⟩)
  · obtain ⟨m, s, a, ns, rfl, _⟩ := h
    rfl
  · obtain ⟨m, s, a, ns, rfl, ha, hup, hs, q⟩ := h
    refine ⟨_, rfl, _, rfl, m, a, ns, rfl, ha, hup, _, rfl, iteT ?_⟩
    refine ⟨_, rfl, a, _, rfl, .inr (SqT.of ha), _, rfl, rfl, ?_⟩
    rw [iv_len, hs, decide_eq_true rfl]
    exact q
theorem inV_int (n : Int) (ys : List Int) : inV (.int n) (iv ys) = decide (n ∈ ys) := by
  unfold inV
  induction ys with
  | nil => rfl
  | cons y ys ih =>
    show (eqV (.int y) (.int n) || (iv ys).any fun y => eqV y (.int n)) = decide (n ∈ y :: ys)
    rw [ih]
    show (eqV (.int y) (.int n) || decide (n ∈ ys)) = decide (n ∈ y :: ys)
    by_cases e : y = n
    · subst e
      simp [eqV]
    · have e' : ¬ n = y := fun z => e z.symm
      simp [eqV, e, e']
theorem flat_iv (ys : List Int) : (iv ys).all flatV = true := by
  rw [List.all_eq_true]
  intro x hx
  obtain ⟨n, _, rfl⟩ := List.mem_map.mp hx
  rfl
def spMisses : Sp := fun vs H Q _ => ∃ (a b : Addr) (xs ys : List Int), vs = [.ref a, .ref b] ∧ H a = some (.tup (iv xs)) ∧ H b = some (.tup (iv ys)) ∧ Q (.bl (miss xs ys)) H
theorem scMisses : FnScope ["one", "other", "thing"] ["one", "other"] (defScope sMisses) := ⟨rfl, rfl, rfl, by decide +kernel, rfl, by decide +kernel, by decide +kernel⟩
theorem ok_misses {f : Addr} {fd : FuncData} {k : Nat} (F : FnP K "misses" sMisses f fd) : FnOk P w K mg base CX0 (k + 1) f fd ["one", "other"] spMisses := by
  refine F.ok scMisses (fun vs H Q E h => ?_) (fun cdv A outer s H vs Q E hr h => ⟨_, PSs.nox (
    pss_cons (ps_for PassesOwn.never rfl (pi_tup (pv 0)) (pg_name (i := 2) scMisses.nd rfl (.inl rfl))
      (pss_one (ps_if (pt_cmpR op_in_seq (pv 2) (pv 1) (by rfl)) (pss_one (ps_ret pe_bl)) pss_nil)))
    (pss_one (ps_ret pe_bl))), ?_⟩)
  · obtain ⟨a, b, xs, ys, rfl, _⟩ := h
    rfl
  · obtain ⟨a, b, xs, ys, rfl, ha, hb, q⟩ := h
    refine ⟨_, rfl, a, rfl, ⟨_, SqT.of ha⟩, for_tup (K := K) (a := a) (xs := iv xs) (fun i σ H2 => H2 = H ∧ ∃ (v : Option V), σ = [some (.ref a), some (.ref b), v] ∧ ∀ x ∈ xs.take i, x ∉ ys)
      ⟨rfl, none, rfl, fun x hx => by simp at hx⟩ (fun i σ H2 _ ⟨e, _⟩ => by rw [e]; exact SqT.of ha) ?_ ?_⟩
    · rintro i x σ H2 hi ⟨rfl, v, rfl, hd⟩
      obtain ⟨n, hn, rfl⟩ := item_int hi
      refine ⟨_, rfl, _, rfl, b, _, rfl, .inr (SqT.of hb), rfl, flat_iv ys, _, rfl, ?_⟩
      rw [inV_int]
      refine ite2 (fun e => ?_) (fun e => ?_)
      · have e1 : n ∈ ys := by simpa using e
        have e2 : miss xs ys = false := by
          cases e3 : miss xs ys with
          | false => rfl
          | true => exact absurd e1 (miss_iff.mp e3 n (List.mem_of_getElem? hn))
        rw [e2] at q
        exact q
      · refine ⟨rfl, _, rfl, fun x hx => ?_⟩
        rw [take_at hn] at hx
        rcases List.mem_append.mp hx with hx | hx
        · exact hd x hx
        · simp only [List.mem_singleton] at hx
          subst hx
          exact fun z => e (by simpa using z)
    · rintro σ H2 ⟨rfl, v, rfl, hd⟩
      have e2 : miss xs ys = true := miss_iff.mpr fun t ht => hd t (by rw [iv_len, List.take_length]; exact ht)
      rw [e2] at q
      exact q
def spPair : Sp := fun vs H Q _ => ∃ (m s t : Int) (a : Addr) (p : Pr), vs = [.int m, .int s, .int t, .ref a] ∧ PairAt H a p ∧ Val m s t p ∧ Q (.bl true) H
theorem scPair : FnScope ["many", "size", "strangers", "thing"] ["many", "size", "strangers", "thing"] (defScope sPair) := ⟨rfl, rfl, rfl, by decide +kernel, rfl, by decide +kernel, by decide +kernel⟩
theorem ok_pair {f fN fL : Addr} {fd fdN fdL : FuncData} (F : FnP K "is_pair" sPair f fd) (bN : Binds K fdN ["many", "thing"] []) (kN : PySem.W.keepIn K (.ref fN) = true) (gN : mg "is_rising" = some (.ref fN))
    (bL : Binds K fdL ["many", "size", "thing"] []) (kL : PySem.W.keepIn K (.ref fL) = true) (gL : mg "is_lot" = some (.ref fL)) (B : Bl mg)
    (GN : FnOk P w K mg base CX0 3 fN fdN ["many", "thing"] spRising) (GL : FnOk P w K mg base CX0 4 fL fdL ["many", "size", "thing"] spLot) : FnOk P w K mg base CX0 5 f fd ["many", "size", "strangers", "thing"] spPair := by
  refine F.ok scPair (fun vs H Q E h => ?_) (fun cdv A outer s H vs Q E hr h => ⟨_, PSs.nox (
    pss_cons (ps_if (PW.pt (pw_or (pt_not (pt_val (pe_callB call_isi (by rfl) B.isi PyProof.Rows.boot_isinstance (pa_cons (pv 3) (pa_cons (pe_bltn (v := .ty "tuple") (by rfl) B.tuple PyProof.Rows.boot_tuple rfl) pa_nil)))))
        (pw_or (pt_cmpR op_ne (pe_callB call_len_seq (by rfl) B.len PySem.boot_len (pa_cons (pv 3) pa_nil)) pe_int (nomark _))
        (pw_or1 (pt_not (pt_val (pe_call GL hr (by rfl) gL kL bL .nil pass0 (pa_cons (pv 0) (pa_cons (pv 1) (pa_cons (pe_ix ix_tup (pv 3) pe_int (fun _ _ => rfl)) pa_nil)))))))))) (pss_one (ps_ret pe_bl)) pss_nil)
    (pss_one (ps_ret (pe_and (pe_call GN (hr.mono (by decide)) (by rfl) gN kN bN .nil pass0 (pa_cons (pv 0) (pa_cons (pe_ix ix_tup (pv 3) pe_int (fun _ _ => rfl)) pa_nil)))
      (pe_one (pe_cmpR op_le (pe_callB call_len_seq (by rfl) B.len PySem.boot_len (pa_cons (pe_ix ix_tup (pv 3) pe_int (fun _ _ => rfl)) pa_nil)) (pv 2) (nomark _))))))), ?_⟩)
  · obtain ⟨m, s, t, a, p, rfl, _⟩ := h
    rfl
  · obtain ⟨m, s, t, a, p, rfl, ⟨b, c, ha, hb, hc⟩, hv, q⟩ := h
    refine ⟨_, rfl, .ref a, .ty "tuple", _, _, true, rfl, .ty _, .base (.tup ha), kit_ty (by decide +kernel), _, rfl, iteF ?_⟩
    refine ⟨_, rfl, a, _, rfl, .inr (SqT.of ha), rfl, _, rfl, iteF ?_⟩
    refine ⟨_, rfl, _, rfl, _, rfl, a, _, 0, _, rfl, rfl, SqT.of ha, atI_nat (j := 0) rfl, m, s, b, p.1, rfl, hb, hv.one, hv.len, _, rfl, iteF ?_⟩
    refine ⟨_, rfl, _, rfl, a, _, 1, _, rfl, rfl, SqT.of ha, atI_nat (j := 1) rfl, m, c, p.2, rfl, hc, hv.two, _, rfl, iteT ?_⟩
    refine ⟨_, rfl, a, _, 1, _, rfl, rfl, SqT.of ha, atI_nat (j := 1) rfl, c, _, rfl, .inr (SqT.of hc), _, rfl, _, _, rfl, rfl, ?_⟩
    rw [iv_len]
    show Q (V.bl (decide ((p.2.length : Int) ≤ t))) H
    rw [decide_eq_true hv.most]
    exact q
end
end Fw
namespace Fw
open PySem PySem.Spec PyProof.Rows L2 Few
/-- a list of pairs -/
structure PairsAt (H : Hp) (a : Addr) (ps : List Pr) : Prop where
  ex : ∃ as : List Addr, H a = some (.lst (as.map V.ref)) ∧ as.length = ps.length ∧ ∀ (i : Nat) (b : Addr) (p : Pr), as[i]? = some b → ps[i]? = some p → PairAt H b p
theorem PairsAt.mono {H H' : Hp} {a : Addr} {ps : List Pr} (h : PairsAt H a ps) (s : Same H H') : PairsAt H' a ps :=
  let ⟨as, h1, h2, h3⟩ := h.ex; ⟨as, s _ _ h1, h2, fun i b p e1 e2 => (h3 i b p e1 e2).mono fun _ _ z => s _ _ z⟩
theorem refs_at {as : List Addr} {i : Nat} {x : V} (h : (as.map V.ref)[i]? = some x) : ∃ b, as[i]? = some b ∧ x = .ref b := by
  rw [List.getElem?_map] at h
  cases e : as[i]? with
  | none =>
    rw [e] at h
    cases h
  | some n =>
    rw [e] at h
    exact ⟨n, rfl, (Option.some.inj h).symm⟩
theorem at_len {α β : Type} {as : List α} {bs : List β} (h : as.length = bs.length) {i : Nat} {a : α} (e : as[i]? = some a) : ∃ b, bs[i]? = some b := by
  have h1 : i < as.length := (List.getElem?_eq_some_iff.mp e).1
  exact ⟨bs[i]'(by omega), List.getElem?_eq_getElem (by omega)⟩
section
variable {P : Program} {w : World} {K : PySem.W.Frag} {mg : Str → Option Value} {base : Heap}
abbrev psPair : List Str := ["many", "size", "strangers", "thing"]
abbrev psMisses : List Str := ["one", "other"]
/-! ### is_row -/
def spRow : Sp := fun vs H Q _ => ∃ (m s t : Int) (a : Addr) (qs : List Pr), vs = [.int m, .int s, .int t, .ref a] ∧ PairsAt H a qs ∧ (∀ p ∈ qs, Val m s t p) ∧ Good qs ∧ qs.length ≤ 1000 ∧ ∀ H', Same H H' → Q (.bl true) H'
theorem scRow : FnScope ["many", "size", "strangers", "thing", "ones", "pair", "one"] ["many", "size", "strangers", "thing"] (defScope sRow) := ⟨rfl, rfl, rfl, by decide +kernel, rfl, by decide +kernel, by decide +kernel⟩
theorem ok_row {f fP fM : Addr} {fd fdP fdM : FuncData} (F : FnP K "is_row" sRow f fd) (bP : Binds K fdP psPair []) (kP : PySem.W.keepIn K (.ref fP) = true) (gP : mg "is_pair" = some (.ref fP))
    (bM : Binds K fdM psMisses []) (kM : PySem.W.keepIn K (.ref fM) = true) (gM : mg "misses" = some (.ref fM)) (B : Bl mg)
    (GP : FnOk P w K mg base CX0 5 fP fdP psPair spPair) (GM : FnOk P w K mg base CX0 1 fM fdM psMisses spMisses) : FnOk P w K mg base CX0 6 f fd ["many", "size", "strangers", "thing"] spRow := by
  refine F.ok scRow (fun vs H Q E h => ?_) (fun cdv A outer s H vs Q E hr h => ⟨_, PSs.nox (
    pss_cons (ps_if (pt_not (pt_val (pe_callB call_isi (by rfl) B.isi PyProof.Rows.boot_isinstance (pa_cons (pv 3) (pa_cons (pe_bltn (v := .ty "list") (by rfl) B.list PyProof.Rows.boot_list rfl) pa_nil))))) (pss_one (ps_ret pe_bl)) pss_nil)
    (pss_cons (ps_set (i := 4) scRow.nd rfl (.inl rfl) (pe_lst pa_nil))
    (pss_cons (ps_for PassesOwn.never rfl (pi_list (pv 3)) (pg_name (i := 5) scRow.nd rfl (.inl rfl))
      (pss_cons (ps_if (PW.pt (pw_or (pt_not (pt_val (pe_call GP hr (by rfl) gP kP bP .nil pass0 (pa_cons (pv 0) (pa_cons (pv 1) (pa_cons (pv 2) (pa_cons (pv 5) pa_nil)))))))
          (pw_or1 (pt_not (pt_val (pe_call GM (hr.mono (by decide)) (by rfl) gM kM bM .nil pass0 (pa_cons (pe_ix ix_tup (pv 5) pe_int (fun _ _ => rfl)) (pa_cons (pe_ix ix_tup (pv 5) pe_int (fun _ _ => rfl)) pa_nil)))))))) (pss_one (ps_ret pe_bl)) pss_nil)
      (pss_cons (ps_for PassesOwn.never rfl (pi_list (pv 4)) (pg_name (i := 6) scRow.nd rfl (.inl rfl))
        (pss_one (ps_if (pt_val (pe_call GM (hr.mono (by decide)) (by rfl) gM kM bM .nil pass0 (pa_cons (pv 6) (pa_cons (pe_ix ix_tup (pv 5) pe_int (fun _ _ => rfl)) pa_nil)))) (pss_one (ps_ret pe_bl)) pss_nil)))
      (pss_one (ps_expr (pe_bm PySem.F.plainAttrs_list PySem.F.slot_list_append PySem.F.type_list_append mt_append (pv 4) (pa_cons (pe_ix ix_tup (pv 5) pe_int (fun _ _ => rfl)) pa_nil)))))))
    (pss_one (ps_ret pe_bl))))), ?_⟩)
  · obtain ⟨m, s, t, a, qs, rfl, _⟩ := h
    rfl
  · obtain ⟨m, s, t, a, qs, rfl, hP, hv, hg, hz, q⟩ := h
    obtain ⟨as, ha, hl, hat⟩ := hP.ex
    refine ⟨_, rfl, .ref a, .ty "list", _, _, true, rfl, .ty _, .base (.lst ha), kit_ty (by decide +kernel), _, rfl, iteF ?_⟩
    refine ⟨Nat.zero_le _, fun o no => ?_⟩
    have s1 : Same H (upd H o (.lst [])) := same_upd no
    refine ⟨_, rfl, a, rfl, ⟨_, s1.seq (SqL.of ha)⟩, for_list (K := K) (a := a) (xs := as.map V.ref) (fun i σ H2 => Same H H2 ∧ ∃ (bs : List Addr) (v5 v6 : Option V), σ = [some (.int m), some (.int s), some (.int t), some (.ref a), some (.ref o), v5, v6] ∧
        H2 o = some (.lst (bs.map V.ref)) ∧ bs.length = i ∧ ∀ (j : Nat) (b : Addr) (p : Pr), bs[j]? = some b → qs[j]? = some p → H b = some (.tup (iv p.1)))
      ⟨s1, [], none, none, rfl, upd_same, rfl, fun j b p e => by simp at e⟩ (fun i σ H2 _ ⟨e, _⟩ => e.seq (SqL.of ha)) ?_ ?_⟩
    · rintro i x σ H2 hi ⟨s2, bs, v5, v6, rfl, ho, hbl, hbs⟩
      obtain ⟨c, hc, rfl⟩ := refs_at hi
      obtain ⟨p, hp⟩ := at_len hl hc
      have hpm : p ∈ qs := List.mem_of_getElem? hp
      obtain ⟨c1, c2, e0, e1, e2⟩ := ((hat i c p hc hp).mono (H' := H2) fun _ _ z => s2 _ _ z).ex
      refine ⟨_, rfl, _, rfl, _, rfl, _, rfl, m, s, t, c, p, rfl, ⟨c1, c2, e0, e1, e2⟩, hv p hpm, _, rfl, iteF ?_⟩
      refine ⟨_, rfl, c, _, 0, _, rfl, rfl, SqT.of e0, atI_nat (j := 0) rfl, _, rfl, c, _, 1, _, rfl, rfl, SqT.of e0, atI_nat (j := 1) rfl, c1, c2, _, _, rfl, e1, e2, _, rfl, ?_⟩
      rw [hg.1 p hpm]
      refine iteF ?_
      refine ⟨_, rfl, o, rfl, ⟨_, SqL.of ho⟩, for_list (K := K) (a := o) (xs := bs.map V.ref) (fun j σ H3 => H3 = H2 ∧ ∃ (v6 : Option V), σ = [some (.int m), some (.int s), some (.int t), some (.ref a), some (.ref o), some (.ref c), v6])
        ⟨rfl, v6, rfl⟩ (fun j σ H3 _ ⟨e, _⟩ => by rw [e]; exact SqL.of ho) ?_ ?_⟩
      · rintro j x σ H3 hj ⟨rfl, v6, rfl⟩
        obtain ⟨d, hd, rfl⟩ := refs_at hj
        have hji : j < i := by
          have := (List.getElem?_eq_some_iff.mp hd).1
          omega
        have hiq : i < qs.length := (List.getElem?_eq_some_iff.mp hp).1
        have hpj : qs[j]? = some (qs[j]'(by omega)) := List.getElem?_eq_getElem (by omega)
        have ed := s2 _ _ (hbs j d _ hd hpj)
        refine ⟨_, rfl, _, rfl, c, _, 1, _, rfl, rfl, SqT.of e0, atI_nat (j := 1) rfl, d, c2, _, _, rfl, ed, e2, _, rfl, ?_⟩
        have hm : miss (qs[j]'(by omega)).1 p.2 = false := by
          have h1 := List.pairwise_iff_getElem.mp hg.2 j i (by omega) hiq hji
          rw [(List.getElem?_eq_some_iff.mp hp).2] at h1
          exact h1
        rw [hm]
        exact iteF ⟨rfl, _, rfl⟩
      · rintro σ H3 ⟨rfl, v6, rfl⟩
        refine ⟨_, rfl, .inl ⟨rfl, _, SqL.of ho⟩, _, rfl, c, _, 0, _, rfl, rfl, SqT.of e0, atI_nat (j := 0) rfl, o, _, _, rfl, rfl, ho, ?_, ?_⟩
        · rw [List.length_map, hbl]
          have : i < qs.length := (List.getElem?_eq_some_iff.mp hp).1
          exact small1000 (by omega)
        · refine ⟨fun b z e => ?_, bs ++ [c1], _, _, rfl, ?_, by simp [hbl], fun j b p' ej ep => ?_⟩
          · rw [upd_ne (ne_of_none e no)]
            exact s2 _ _ e
          · rw [upd_same, List.map_append]
            rfl
          · by_cases hj : j < bs.length
            · rw [List.getElem?_append_left hj] at ej
              exact hbs j b p' ej ep
            · rw [List.getElem?_append_right (by omega)] at ej
              have hj0 : j - bs.length = 0 := by
                have := (List.getElem?_eq_some_iff.mp ej).1
                simp at this
                omega
              rw [hj0] at ej
              have eb : c1 = b := by simpa using ej
              have eji : j = i := by omega
              rw [eji, hp] at ep
              cases ep
              obtain ⟨d1, d2, g0, g1, g2⟩ := (hat i c p hc hp).ex
              have z := s2 _ _ g0
              rw [e0] at z
              injection z with z
              injection z with z
              injection z with z1 z2
              injection z1 with z1
              rw [← eb, z1]
              exact g1
    · rintro σ H2 ⟨s2, bs, v5, v6, rfl, _⟩
      exact q H2 s2
/-! ### look_at_pairs -/
def spLook : Sp := fun vs H Q _ => ∃ (m s t : Int) (a : Addr) (qs : List Pr), vs = [.int m, .int s, .int t, .ref a] ∧ PairsAt H a qs ∧ (∀ p ∈ qs, Val m s t p) ∧ qs.length ≤ 12 ∧ ∀ H', Same H H' → Q .non H'
theorem scLook : FnScope ["many", "size", "strangers", "thing", "at", "pair"] ["many", "size", "strangers", "thing"] (defScope sLook) := ⟨rfl, rfl, rfl, by decide +kernel, rfl, by decide +kernel, by decide +kernel⟩
theorem ok_look {f fP : Addr} {fd fdP : FuncData} (F : FnP K "look_at_pairs" sLook f fd) (bP : Binds K fdP psPair []) (kP : PySem.W.keepIn K (.ref fP) = true) (gP : mg "is_pair" = some (.ref fP)) (B : Bl mg)
    (GP : FnOk P w K mg base CX0 5 fP fdP psPair spPair) : FnOk P w K mg base CX0 6 f fd ["many", "size", "strangers", "thing"] spLook := by
  obtain ⟨tk, hmost⟩ := B.most
  refine F.ok scLook (fun vs H Q E h => ?_) (fun cdv A outer s H vs Q E hr h => ⟨_, PSs.nox (
    pss_cons (ps_if (PW.pt (pw_or (pt_not (pt_val (pe_callB call_isi (by rfl) B.isi PyProof.Rows.boot_isinstance (pa_cons (pv 3) (pa_cons (pe_bltn (v := .ty "list") (by rfl) B.list PyProof.Rows.boot_list rfl) pa_nil)))))
        (pw_or1 (pt_cmpR op_gt (pe_callB call_len_seq (by rfl) B.len PySem.boot_len (pa_cons (pv 3) pa_nil)) (pe_glob (v := .int 12) (by rfl) hmost ⟨_, rfl⟩) (nomark _))))) pss_never pss_nil)
    (pss_one (ps_for PassesOwn.never rfl (pi_enum (by rfl) B.enum (pa_cons (pv 3) pa_nil)) (pg_tup rfl (pgs_cons (pg_name (i := 4) scLook.nd rfl (.inl rfl)) (pgs_cons (pg_name (i := 5) scLook.nd rfl (.inl rfl)) pgs_nil)))
      (pss_one (ps_if (pt_not (pt_val (pe_call GP hr (by rfl) gP kP bP .nil pass0 (pa_cons (pv 0) (pa_cons (pv 1) (pa_cons (pv 2) (pa_cons (pv 5) pa_nil))))))) pss_never pss_nil))))), ?_⟩)
  · obtain ⟨m, s, t, a, qs, rfl, _⟩ := h
    rfl
  · obtain ⟨m, s, t, a, qs, rfl, hP, hv, hz, q⟩ := h
    obtain ⟨as, ha, hl, hat⟩ := hP.ex
    refine ⟨_, rfl, .ref a, .ty "list", _, _, true, rfl, .ty _, .base (.lst ha), kit_ty (by decide +kernel), _, rfl, iteF ?_⟩
    refine ⟨_, rfl, a, _, rfl, .inl (SqL.of ha), _, _, rfl, rfl, _, rfl, ?_⟩
    rw [List.length_map, hl, decide_eq_false (show ¬ ((12 : Int) < (qs.length : Int)) by omega)]
    refine iteF ?_
    refine ⟨_, rfl, a, _, rfl, SqL.of ha, ?_⟩
    refine ⟨fun i n σ H3 => ∃ v4 v5, σ = [some (.int m), some (.int s), some (.int t), some (.ref a), v4, v5] ∧ i + n = qs.length ∧ Same H H3, ⟨qs.length, none, none, rfl, by omega, Same.refl H⟩, fun i n σ H3 hW => ?_⟩
    obtain ⟨v4, v5, rfl, en, s3⟩ := hW
    by_cases hi : i < qs.length
    · have hia : i < as.length := by omega
      have g : (as.map V.ref)[i]? = some (.ref as[i]) := by
        rw [List.getElem?_map, List.getElem?_eq_getElem hia]
        rfl
      refine .inr ⟨⟨_, _, s3.seq (SqL.of ha), g⟩, fun σ' H' => ∃ v4 v5, σ' = [some (.int m), some (.int s), some (.int t), some (.ref a), v4, v5] ∧ Same H H', fun σ' H' hN => ?_, fun x H' hy => ?_⟩
      · obtain ⟨z4, z5, e1, e2⟩ := hN
        exact ⟨n - 1, by omega, z4, z5, e1, by omega, e2⟩
      · obtain ⟨T, x1, rfl, nT, rfl, f1⟩ := hy
        have ex1 : x1 = .ref as[i] := Option.some.inj ((f1 _ (s3.seq (SqL.of ha))).symm.trans g)
        subst ex1
        have s4 : Same H (upd H3 T (.tup [.int (i : Nat), .ref as[i]])) := s3.trans (same_upd nT)
        refine ⟨T, _, rfl, SqT.of upd_same, rfl, _, _, rfl, _, _, rfl, rfl, ?_⟩
        have hp : PairAt H as[i] qs[i] := hat i _ _ (List.getElem?_eq_getElem hia) (List.getElem?_eq_getElem hi)
        refine ⟨_, rfl, _, rfl, _, rfl, _, rfl, m, s, t, as[i], qs[i], rfl, hp.mono fun _ _ z => s4 _ _ z, hv _ (List.getElem_mem hi), _, rfl, iteF ?_⟩
        exact ⟨_, _, rfl, s4⟩
    · refine .inl ⟨⟨_, s3.seq (SqL.of ha), ?_⟩, q H3 s3⟩
      rw [List.length_map]
      omega
end
end Fw
namespace Fw
open PySem PySem.Spec PyProof.Rows L2 Few
section
variable {P : Program} {w : World} {K : PySem.W.Frag} {mg : Str → Option Value} {base : Heap}
theorem yes_ok {Q : Bool → Hp → Prop} {σ : L2.St} {H : Hp} (h : Q true H) : tYes σ H Q := h
/-! ### may_come_last -/
theorem pair_of {H : Hp} {a : Addr} {ps : List Pr} (h : PairsAt H a ps) {k : Int} (h0 : 0 ≤ k) (h1 : k < (ps.length : Int)) : ∃ (as : List Addr) (b c d : Addr), H a = some (.lst (as.map V.ref)) ∧ atI (as.map V.ref) k = some (.ref b) ∧ H b = some (.tup [.ref c, .ref d]) ∧
    H c = some (.tup (iv (sel ps k).1)) ∧ H d = some (.tup (iv (sel ps k).2)) := by
  obtain ⟨as, ha, hl, hat⟩ := h.ex
  have hk : k.toNat < as.length := by omega
  obtain ⟨c, d, e0, e1, e2⟩ := (hat k.toNat as[k.toNat] (sel ps k) (List.getElem?_eq_getElem hk) (sel_get h0 h1)).ex
  refine ⟨as, as[k.toNat], c, d, ha, ?_, e0, e1, e2⟩
  have e : (as.map V.ref)[k.toNat]? = some (.ref as[k.toNat]) := by
    rw [List.getElem?_map, List.getElem?_eq_getElem hk]
    rfl
  have := atI_nat e
  rwa [show ((k.toNat : Nat) : Int) = k by omega] at this
def spMay : Sp := fun vs H Q _ => ∃ (a b : Addr) (ps : List Pr) (row : List Int) (k : Int), vs = [.ref a, .ref b, .int k] ∧ PairsAt H a ps ∧ H b = some (.lst (iv row)) ∧ (0 ≤ k ∧ k < (ps.length : Int)) ∧ (∀ x ∈ row, 0 ≤ x ∧ x < (ps.length : Int)) ∧ row.length ≤ 1000 ∧
  ∀ H', Same H H' → Q (.bl (mayB ps row k)) H'
abbrev nMay : List Str := ["pairs", "row", "number", "one", "other", "ahead"]
theorem scMay : FnScope nMay ["pairs", "row", "number"] (defScope sMay) := ⟨rfl, rfl, rfl, by decide +kernel, rfl, by decide +kernel, by decide +kernel⟩
theorem ok_may {f fM : Addr} {fd fdM : FuncData} (F : FnP K "may_come_last" sMay f fd) (bM : Binds K fdM psMisses []) (kM : PySem.W.keepIn K (.ref fM) = true) (gM : mg "misses" = some (.ref fM)) (B : Bl mg)
    (GM : FnOk P w K mg base CX0 1 fM fdM psMisses spMisses) : FnOk P w K mg base CX0 2 f fd ["pairs", "row", "number"] spMay := by
  refine F.ok scMay (fun vs H Q E h => ?_) (fun cdv A outer s H vs Q E hr h => ⟨_, PSs.nox (
    pss_cons (ps_asg (pe_ix ix_list (pv 0) (pv 2) (fun _ _ => rfl)) (pg_tup rfl (pgs_cons (pg_name (i := 3) scMay.nd rfl (.inl rfl)) (pgs_cons (pg_name (i := 4) scMay.nd rfl (.inr rfl)) pgs_nil))))
    (pss_cons (ps_if (PW.pt (pw_or (pt_cmpR op_in_seq (pv 2) (pv 1) (by rfl)) (pw_or1 (pt_not (pt_val (pe_call GM hr (by rfl) gM kM bM .nil pass0 (pa_cons (pv 3) (pa_cons (pv 4) pa_nil)))))))) (pss_one (ps_ret pe_bl)) pss_nil)
    (pss_one (ps_ret (pe_callB (cr_all rfl) (by rfl) B.all PyProof.Rows.boot_all (pa_cons (pe_lc (own := [("ahead", 5)]) (g := gName 5) (tt := tYes) rfl scMay.nd (pi_list (pv 1)) (blkOk_by (own := [("ahead", 5)]) (N := nMay) (sc := defScope sMay) (by decide +kernel))
      (fun _ _ _ _ _ => pg_name (i := 5) scMay.nd rfl (Or.inl rfl)) (fun _ _ _ _ _ => pts_nil)
      (fun _ _ _ _ _ => pe_not (pe_call GM hr (by rfl) gM kM bM .nil pass0 (pa_cons (pe_ix (r := rIxT K) ix_tup (pe_ix (r := rIxL K) ix_list (pv 0) (pv 5) (fun _ _ => rfl)) pe_int (fun _ _ => rfl)) (pa_cons (pv 4) pa_nil))))) pa_nil)))))), ?_⟩)
  · obtain ⟨a, b, ps, row, k, rfl, _⟩ := h
    rfl
  · obtain ⟨a, b, ps, row, k, rfl, hP, hb, hk, hrow, hz, q⟩ := h
    obtain ⟨as, b0, c, d, ha, hat, e0, e1, e2⟩ := pair_of hP hk.1 hk.2
    refine ⟨_, rfl, _, rfl, a, _, k, _, rfl, rfl, SqL.of ha, hat, b0, _, rfl, SqT.of e0, rfl, _, _, rfl, _, _, rfl, rfl, ?_⟩
    refine ⟨_, rfl, _, rfl, b, _, rfl, .inl (SqL.of hb), rfl, flat_iv row, _, rfl, ?_⟩
    rw [inV_int]
    refine ite2 (fun e => ?_) (fun e => ?_)
    · have hm : mayB ps row k = false := by
        cases h : mayB ps row k with
        | false => rfl
        | true => exact absurd (show k ∈ row by simpa using e) (mayB_iff.mp h).1
      have := q H (Same.refl H)
      rw [hm] at this
      exact this
    · have hkr : k ∉ row := fun z => e (by simpa using z)
      refine ⟨_, rfl, _, rfl, c, d, _, _, rfl, e1, e2, _, rfl, ?_⟩
      cases hm : miss (sel ps k).1 (sel ps k).2 with
      | false =>
        have hm2 : mayB ps row k = false := by
          cases h : mayB ps row k with
          | false => rfl
          | true =>
            have := (mayB_iff.mp h).2.1
            rw [hm] at this
            cases this
        have := q H (Same.refl H)
        rw [hm2] at this
        exact iteT this
      | true =>
        refine iteF ?_
        refine ⟨_, rfl, b, rfl, ⟨_, SqL.of hb⟩, fun D nD => ?_⟩
        have sD : ∀ xs, Same H (upd H D (.lst xs)) := fun xs => same_upd nD
        refine lc_list (K := K) (a := b) (xs := iv row) (fun i H3 => H3 = upd H D (.lst (((row.take i).map fun x => !miss (sel ps x).1 (sel ps k).2).map V.bl))) rfl (fun i H3 _ e => by rw [e]; exact (sD _).seq (SqL.of hb)) ?_ ?_
        · rintro i x H3 hi rfl
          obtain ⟨n, hn, rfl⟩ := item_int hi
          have hnr : n ∈ row := List.mem_of_getElem? hn
          obtain ⟨as', b1, c1, d1, ha1, hat1, g0, g1, g2⟩ := pair_of (hP.mono (sD (((row.take i).map fun x => !miss (sel ps x).1 (sel ps k).2).map V.bl))) (hrow n hnr).1 (hrow n hnr).2
          refine ⟨rfl, yes_ok ?_⟩
          refine iteT ?_
          refine ⟨_, rfl, _, rfl, a, _, n, _, rfl, rfl, SqL.of ha1, hat1, b1, _, 0, _, rfl, rfl, SqT.of g0, atI_nat (j := 0) rfl, _, rfl, c1, d, _, _, rfl, g1, sD _ _ _ e2, _, rfl, _, upd_same, ?_, ?_⟩
          · rw [List.length_map, List.length_map, List.length_take]
            have := hz
            exact small1000 (by omega)
          · rw [upd_upd, take_at hn, List.map_append, List.map_append]
            rfl
        · rintro H3 rfl
          rw [iv_len, List.take_length]
          refine ⟨D, _, rfl, SqL.of upd_same, ?_⟩
          have e : (row.map fun x => !miss (sel ps x).1 (sel ps k).2).all id = mayB ps row k := by
            unfold mayB
            rw [List.all_map, hm, decide_eq_false hkr]
            rfl
          rw [e]
          exact q _ (sD _)
end
end Fw
namespace Fw
open PySem PySem.Spec PyProof.Rows L2 Few
section
variable {X : Cx} {pins : List (Addr × Obj)} {σ : L2.St} {H : Hp} {s : Shared} {A : Around} {E : Value → Shared → Prop}
/-- setdefault at a key that is a tuple of ints and texts: the value that stands there, or the default, laid behind all others -/
theorem setd_run {tab key : Addr} {dflt : Value} {y : V} {k : List Key} {kvs : List (List Key × V)} {Q : Value → Shared → Prop}
    (room : A.units + 1 < cLine) (I : Inv X pins σ H s) (atTab : H tab = some (.dT kvs)) (atKey' : H key = some (.tup (k.map kV))) (hy : RelV y dflt) (small : kvs.length < sizeLine)
    (old : ∀ v, valV kvs k = some v → ∀ (u : Value) (s' : Shared), RelV v u → Inv X pins σ H s' → Q u s')
    (new : valV kvs k = none → ∀ s' : Shared, Inv X pins σ (upd H tab (.dT (putK kvs k y))) s' → Q dflt s') :
    wpAny (model X.prog X.w) A (call (.builtin "dict.setdefault") [.ref tab, .ref key, dflt]) Q E s := by
  have ⟨_, notSys, es, pairs, isTab⟩ := dt_of I.hok atTab
  have val := pairs.val k
  have fits : es.length ≤ sizeLine := by
    have := Paired.length pairs
    omega
  have meets := meetsH_dict_setdefault (tupleKind (mixKind X.prog X.w)) tab key notSys dflt
  refine call_meetsIn PySem.F.slot_dict_setdefault isTab.typeIs PySem.F.entry_dict_setdefault (PySem.F.args_dict_setdefault_3 _ _ _) meets ?_
  refine ⟨tupleKind_room_in1 room, k, es, key_of I.hok atKey', isTab, fits, ?there, ?absent⟩
  case there =>
    intro p hp
    rw [hp] at val
    match stands : valV kvs k with
    | some v =>
      rw [stands] at val
      exact old v stands _ _ val (I.tok _)
    | none =>
      rw [stands] at val
      exact False.elim val
  case absent =>
    intro hn h' isTab' but
    rw [hn] at val
    match stands : valV kvs k with
    | some v =>
      rw [stands] at val
      exact False.elim val
    | none =>
      have ⟨o, entries, epoch, ho, ex, dat, list, _, nodup⟩ := isTab'
      have keys := (pairs.put k atKey' hy).keeps (H' := upd H tab (.dT (putK kvs k y))) fun c ys atC => by
        have apart : c ≠ tab := ne_of atC atTab (by intro e; cases e)
        rw [upd_ne apart, atC]
      have grown : (putK kvs k y).length ≤ sizeLine := Nat.le_trans (length_putK kvs k y) small
      exact new stands _ (d_write I (by rw [atTab]; trivial) but ⟨o, ho⟩ ⟨grown, notSys, _, keys, o, entries, epoch, ho, ex, dat, list, nodup⟩)
end
/-- the reading of table.setdefault(key, default), keys tuples: the table, the key, the default, from the left -/
def tSetdT (tt tk ty : TE) : TE := fun σ H Q => tt σ H fun x H1 => ∃ tab, x = .ref tab ∧ IsD H1 tab ∧
  tk σ H1 fun z H2 => ty σ H2 fun y H3 => ∃ (key : Addr) (k : List Key) (kvs : List (List Key × V)), z = .ref key ∧ H3 tab = some (.dT kvs) ∧ H3 key = some (.tup (k.map kV)) ∧ kvs.length < sizeLine ∧
    (∀ v, valV kvs k = some v → Q v H3) ∧ (valV kvs k = none → Q y (upd H3 tab (.dT (putK kvs k y))))
theorem pe_setdT {X : Cx} {table key dflt : Expr} {p1 p2 : Pos} {tt tk ty : TE} (room : X.A.units + 1 < cLine) (ht : PE X table tt) (hk : PE X key tk) (hy : PE X dflt ty)
    (m : M2 X table "setdefault" p1 key dflt p2) : PE X (.Call (.Attribute table "setdefault" p1) [key, dflt] [] p2) (tSetdT tt tk ty) where
  run := by
    intro pins s0 σ H0 Q I0 want
    apply wpAny_Call_method m.base m.few m.line PySem.F.plainAttrs_dict PySem.F.slot_dict_setdefault PySem.F.type_dict_setdefault
    refine thn (ht.run pins s0 σ H0 _ I0 want) ?_
    rintro _ s1 ⟨_, H1, I1, isRef, tab, rfl, isDict, want1⟩
    cases isRef
    have ⟨typed, own, _⟩ := isD_at I1 isDict
    refine ⟨typed, own, ?_⟩
    rw [m.trees]
    apply Calls.callWith_builtin rfl
    apply Calls.evalArgs_plain
    refine Calls.spliced_cons (thn (hk.run pins s1 σ H1 _ I1 want1) ?_)
    rintro kv s2 ⟨z, H2, I2, relK, want2⟩
    refine Calls.spliced_cons (thn (hy.run pins s2 σ H2 _ I2 want2) ?_)
    rintro yv s3 ⟨y, H3, I3, relY, ka, k, kvs, rfl, atTab, atK, small, old, new⟩
    cases relK
    apply Calls.spliced_nil
    refine setd_run room I3 atTab atK relY small (fun v hv u s4 ru I4 => ?_) fun hn s4 I4 => ?_
    · exact ⟨v, H3, I4, ru, old v hv⟩
    · exact ⟨y, _, I4, relY, new hn⟩
end Fw
namespace Fw
open PySem PySem.Spec PyProof.Rows L2 Few
/-! ### data, for != [] -/
def dI (r : List Int) : PyData := .list (r.map PyData.int)
def dT (r : List Int) : PyData := .tuple (r.map PyData.int)
def dP (p : Pr) : PyData := .tuple [dT p.1, dT p.2]
theorem depth_ints : ∀ r : List Int, PyData.depthAll (r.map PyData.int) ≤ 1
  | [] => by simp [PyData.depthAll]
  | x :: r => by
    have := depth_ints r
    simp only [List.map_cons, PyData.depthAll, PyData.depth]
    omega
theorem lay_ints : ∀ r : List Int, PyData.canLayAll0 (r.map PyData.int) = true
  | [] => by simp [PyData.canLayAll0]
  | x :: r => by simp [PyData.canLayAll0, PyData.canLay0, lay_ints r]
theorem depth_all {α : Type} (g : α → PyData) (n : Nat) (h : ∀ x, (g x).depth ≤ n) : ∀ xs : List α, PyData.depthAll (xs.map g) ≤ n
  | [] => by simp [PyData.depthAll]
  | x :: r => by
    have := depth_all g n h r
    have := h x
    simp only [List.map_cons, PyData.depthAll]
    omega
theorem lay_all {α : Type} (g : α → PyData) (h : ∀ x, (g x).canLay0 = true) : ∀ xs : List α, PyData.canLayAll0 (xs.map g) = true
  | [] => by simp [PyData.canLayAll0]
  | x :: r => by simp [PyData.canLayAll0, h x, lay_all g h r]
theorem depth_dI (r : List Int) : (dI r).depth ≤ 3 := by
  have := depth_ints r
  simp only [dI, PyData.depth]
  omega
theorem depth_dT (r : List Int) : (dT r).depth ≤ 3 := by
  have := depth_ints r
  simp only [dT, PyData.depth]
  omega
theorem depth_dP (p : Pr) : (dP p).depth ≤ 5 := by
  have := depth_dT p.1
  have := depth_dT p.2
  simp only [dP, PyData.depth, PyData.depthAll]
  omega
theorem shaped_rows (rows : List (List Int)) : SeqAt.shaped (.list (rows.map dI)) = true := by
  have h1 := depth_all dI 3 depth_dI rows
  have h2 := lay_all dI (fun r => by simp [dI, PyData.canLay0, lay_ints r]) rows
  unfold SeqAt.shaped
  rw [Bool.and_eq_true]
  refine ⟨by simpa [PyData.canLay0] using h2, decide_eq_true ?_⟩
  simp only [PyData.depth]
  omega
theorem shaped_pairs (ps : List Pr) : SeqAt.shaped (.list (ps.map dP)) = true := by
  have h1 := depth_all dP 5 depth_dP ps
  have h2 := lay_all dP (fun p => by simp [dP, dT, PyData.canLay0, PyData.canLayAll0, lay_ints]) ps
  unfold SeqAt.shaped
  rw [Bool.and_eq_true]
  refine ⟨by simpa [PyData.canLay0] using h2, decide_eq_true ?_⟩
  simp only [PyData.depth]
  omega
theorem shaped_nil : SeqAt.shaped (.list []) = true := by
  simp [SeqAt.shaped, PyData.canLay0, PyData.canLayAll0, PyData.depth, PyData.depthAll]
theorem eqv_nil {α : Type} (g : α → PyData) (xs : List α) : PyData.eqv (.list (xs.map g)) (.list []) = xs.isEmpty := by
  cases xs <;> simp [PyData.eqv, PyData.eqvAll]
theorem dp_ints {K : PySem.W.Frag} {H : Hp} : ∀ r : List Int, DpAll K H (iv r) (r.map PyData.int)
  | [] => .nil
  | x :: r => .cons (.int x) (dp_ints r)
/-! ### lists of lists -/
def RowsIn (H : Hp) (cs : List Addr) (rows : List (List Int)) : Prop := cs.length = rows.length ∧ ∀ (i : Nat) (c : Addr) (r : List Int), cs[i]? = some c → rows[i]? = some r → H c = some (.lst (iv r))
theorem RowsIn.mono {H H' : Hp} {cs : List Addr} {rows : List (List Int)} (h : RowsIn H cs rows) (s : Same H H') : RowsIn H' cs rows := ⟨h.1, fun i c r e1 e2 => s _ _ (h.2 i c r e1 e2)⟩
theorem RowsIn.nil (H : Hp) : RowsIn H [] [] := ⟨rfl, fun i c r e => by simp at e⟩
theorem RowsIn.snoc {H : Hp} {cs : List Addr} {rows : List (List Int)} {c : Addr} {r : List Int} (h : RowsIn H cs rows) (hc : H c = some (.lst (iv r))) : RowsIn H (cs ++ [c]) (rows ++ [r]) := by
  refine ⟨by simp [h.1], fun i d q e1 e2 => ?_⟩
  by_cases hi : i < cs.length
  · rw [List.getElem?_append_left hi] at e1
    rw [List.getElem?_append_left (by rw [← h.1]; exact hi)] at e2
    exact h.2 i d q e1 e2
  · rw [List.getElem?_append_right (by omega)] at e1
    rw [List.getElem?_append_right (by rw [← h.1]; omega)] at e2
    have hi0 : i - cs.length = 0 := by
      have := (List.getElem?_eq_some_iff.mp e1).1
      simp at this
      omega
    rw [hi0] at e1
    rw [← h.1, hi0] at e2
    have a1 : c = d := by simpa using e1
    have a2 : r = q := by simpa using e2
    subst a1 a2
    exact hc
theorem dp_rows {K : PySem.W.Frag} {H : Hp} : ∀ {cs : List Addr} {rows : List (List Int)}, RowsIn H cs rows → DpAll K H (cs.map V.ref) (rows.map dI)
  | [], [], _ => .nil
  | [], _ :: _, h => by
    have := h.1
    simp at this
  | _ :: _, [], h => by
    have := h.1
    simp at this
  | c :: cs, r :: rows, h => .cons (.lst (SqL.of (h.2 0 c r rfl rfl)) (dp_ints r)) (dp_rows ⟨by have := h.1; simpa using this, fun i d q e1 e2 => h.2 (i + 1) d q (by simpa using e1) (by simpa using e2)⟩)
structure RowsAt (H0 H : Hp) (a : Addr) (rows : List (List Int)) : Prop where
  ex : ∃ cs : List Addr, H a = some (.lst (cs.map V.ref)) ∧ RowsIn H cs rows ∧ ∀ c ∈ cs, H0 c = none
theorem RowsAt.mono {H0 H H' : Hp} {a : Addr} {rows : List (List Int)} (h : RowsAt H0 H a rows) (s : Same H H') : RowsAt H0 H' a rows :=
  let ⟨cs, h1, h2, h3⟩ := h.ex; ⟨cs, s _ _ h1, h2.mono s, h3⟩
theorem RowsAt.weak {H0 H1 H : Hp} {a : Addr} {rows : List (List Int)} (h : RowsAt H1 H a rows) (s : Same H0 H1) : RowsAt H0 H a rows :=
  let ⟨cs, h1, h2, h3⟩ := h.ex; ⟨cs, h1, h2, fun c hc => s.free (h3 c hc)⟩
/-! ### the dict of longer_rows -/
abbrev keyOf (k : List Int) : List Key := k.map Sum.inl
def ent (es : List (List Int × List Int)) (cs : List Addr) : List (List Key × V) := List.zipWith (fun e c => (keyOf e.1, V.ref c)) es cs
theorem keyOf_inj {a b : List Int} (h : keyOf a = keyOf b) : a = b := by
  induction a generalizing b with
  | nil =>
    cases b with
    | nil => rfl
    | cons y b => simp at h
  | cons x a ih =>
    cases b with
    | nil => simp at h
    | cons y b =>
      simp only [keyOf, List.map_cons, List.cons.injEq, Sum.inl.injEq] at h
      rw [h.1, ih h.2]
theorem key_vals (k : List Int) : (keyOf k).map kV = iv k := by
  induction k with
  | nil => rfl
  | cons x k ih =>
    show kV (Sum.inl x) :: (keyOf k).map kV = V.int x :: iv k
    rw [ih]
    rfl
theorem ent_keys : ∀ {es : List (List Int × List Int)} {cs : List Addr}, es.length = cs.length → (ent es cs).map (·.1) = (es.map (·.1)).map keyOf
  | [], [], _ => rfl
  | [], _ :: _, h => by simp at h
  | _ :: _, [], h => by simp at h
  | e :: es, c :: cs, h => by
    have := ent_keys (es := es) (cs := cs) (by simpa using h)
    show keyOf e.1 :: (ent es cs).map (·.1) = keyOf e.1 :: (es.map (·.1)).map keyOf
    rw [this]
theorem ent_snoc {es : List (List Int × List Int)} {cs : List Addr} (h : es.length = cs.length) (e : List Int × List Int) (c : Addr) : ent (es ++ [e]) (cs ++ [c]) = ent es cs ++ [(keyOf e.1, .ref c)] := by
  unfold ent
  rw [List.zipWith_append h]
  rfl
theorem ent_len {es : List (List Int × List Int)} {cs : List Addr} (h : es.length = cs.length) : (ent es cs).length = es.length := by
  unfold ent
  rw [List.length_zipWith]
  omega
theorem mem_keys {l : List (List Int)} {k : List Int} : keyOf k ∈ l.map keyOf ↔ k ∈ l := by
  constructor
  · intro h
    obtain ⟨q, hq, e⟩ := List.mem_map.mp h
    rw [← keyOf_inj e]
    exact hq
  · exact fun h => List.mem_map_of_mem h
theorem valV_get {κ : Type} [DecidableEq κ] : ∀ {kvs : List (κ × V)} {i : Nat} {k : κ} {v : V}, (kvs.map (·.1)).Nodup → kvs[i]? = some (k, v) → valV kvs k = some v
  | [], _, _, _, _, h => by simp at h
  | p :: kvs, 0, k, v, _, h => by
    have e : p = (k, v) := by simpa using h
    subst e
    exact valV_pos rfl
  | p :: kvs, i + 1, k, v, nd, h => by
    have nd' : p.1 ∉ kvs.map (·.1) ∧ (kvs.map (·.1)).Nodup := List.nodup_cons.mp nd
    have h' : kvs[i]? = some (k, v) := by simpa using h
    have hm : k ∈ kvs.map (·.1) := List.mem_map.mpr ⟨(k, v), List.mem_of_getElem? h', rfl⟩
    rw [valV_neg fun e => nd'.1 (e ▸ hm)]
    exact valV_get nd'.2 h'
theorem ent_nodup {es : List (List Int × List Int)} {cs : List Addr} (h : es.length = cs.length) (nd : (es.map (·.1)).Nodup) : ((ent es cs).map (·.1)).Nodup := by
  rw [ent_keys h]
  show List.Pairwise _ _
  rw [List.pairwise_map]
  exact nd.imp fun ne e => ne (keyOf_inj e)
theorem ent_get : ∀ {es : List (List Int × List Int)} {cs : List Addr} {i : Nat} {k : List Key} {v : V}, (ent es cs)[i]? = some (k, v) → ∃ c, cs[i]? = some c ∧ v = .ref c := by
  intro es cs i k v h
  unfold ent at h
  rw [List.getElem?_zipWith] at h
  cases e1 : es[i]? with
  | none =>
    rw [e1] at h
    simp at h
  | some e =>
    cases e2 : cs[i]? with
    | none =>
      rw [e1, e2] at h
      simp at h
    | some c =>
      rw [e1, e2] at h
      simp at h
      exact ⟨c, rfl, h.2.symm⟩
end Fw
namespace Fw
open PySem PySem.Spec PyProof.Rows L2 Few
section
variable {P : Program} {w : World} {K : PySem.W.Frag} {mg : Str → Option Value} {base : Heap}
abbrev psMay : List Str := ["pairs", "row", "number"]
def spLonger : Sp := fun vs H Q _ => ∃ (a b : Addr) (ps : List Pr) (n : Nat) (rows : List (List Int)) (H0 : Hp), vs = [.ref a, .ref b] ∧ PairsAt H a ps ∧ ps.length ≤ 9 ∧ RowsAt H0 H b rows ∧ Layer ps n rows ∧
  ∀ (H' : Hp) (p : Addr) (rows' : List (List Int)), Same H H' → H p = none → RowsAt H H' p rows' → Layer ps (n + 1) rows' → Q (.ref p) H'
abbrev nLonger : List Str := ["pairs", "rows", "found", "row", "number", "key"]
theorem scLonger : FnScope nLonger ["pairs", "rows"] (defScope sLonger) := ⟨rfl, rfl, rfl, by decide +kernel, rfl, by decide +kernel, by decide +kernel⟩
theorem pow9 {n : Nat} (h : n ≤ 9) : 2 ^ n ≤ 512 := Nat.le_trans (Nat.pow_le_pow_right (by decide) h) (by decide)
theorem ok_longer {f fM : Addr} {fd fdM : FuncData} (F : FnP K "longer_rows" sLonger f fd) (bM : Binds K fdM psMay []) (kM : PySem.W.keepIn K (.ref fM) = true) (gM : mg "may_come_last" = some (.ref fM)) (B : Bl mg)
    (GM : FnOk P w K mg base CX0 2 fM fdM psMay spMay) : FnOk P w K mg base CX0 3 f fd ["pairs", "rows"] spLonger := by
  refine F.ok scLonger (fun vs H Q E h => ?_) (fun cdv A outer s H vs Q E hr h => ⟨_, PSs.nox (
    pss_cons (ps_set (i := 2) scLonger.nd rfl (.inr rfl) pe_dnewT)
    (pss_cons (ps_for PassesOwn.never rfl (pi_list (pv 1)) (pg_name (i := 3) scLonger.nd rfl (.inl rfl))
      (pss_one (ps_for PassesOwn.never rfl (pi_range1 rfl B.range (pa_cons (pe_callB call_len_seq (by rfl) B.len PySem.boot_len (pa_cons (pv 0) pa_nil)) pa_nil)) (pg_name (i := 4) scLonger.nd rfl (.inl rfl))
        (pss_one (ps_if (pt_val (pe_call GM hr (by rfl) gM kM bM .nil pass0 (pa_cons (pv 0) (pa_cons (pv 3) (pa_cons (pv 4) pa_nil)))))
          (pss_one (ps_expr (pe_setdT (hu_of hr) (pv 2)
            (pe_callTy call_tuple_of (by rfl) B.tuple PyProof.Rows.boot_tuple (pa_cons (pe_callB cr_sorted (by rfl) B.sorted PyProof.Rows.boot_sorted (pa_cons (pe_op op_cat (pv 3) (pe_lst (pa_cons (pv 4) pa_nil))) pa_nil)) pa_nil))
            (pe_op op_cat (pv 3) (pe_lst (pa_cons (pv 4) pa_nil))) ⟨by rfl, by rfl, by rfl, by rfl⟩)))
          pss_nil)))))
    (pss_one (ps_ret (pe_lock (pe_lc (own := [("key", 5)]) (g := gName 5) (tt := tYes) rfl scLonger.nd (pi_keys (pv 2)) (blkOk_by (own := [("key", 5)]) (N := nLonger) (sc := defScope sLonger) (by decide +kernel))
      (fun _ _ _ _ _ => pg_name (i := 5) scLonger.nd rfl (Or.inl rfl)) (fun _ _ _ _ _ => pts_nil)
      (fun _ _ _ _ _ => pe_dget (hu_of hr) (pv 2) (pv 5) (fun _ _ => rfl)))))))), ?_⟩)
  · obtain ⟨a, b, ps, n, rows, H0, rfl, _⟩ := h
    rfl
  · obtain ⟨a, b, ps, n, rows, H0, rfl, hP, hl9, hR, L, q⟩ := h
    obtain ⟨as, ha, hal, _⟩ := hP.ex
    obtain ⟨cs, hb, hcs, _⟩ := hR.ex
    intro d nd
    have s1 : Same H (upd H d (.dT [])) := same_upd nd
    refine ⟨_, rfl, b, rfl, ⟨_, s1.seq (SqL.of hb)⟩, for_list (K := K) (a := b) (xs := cs.map V.ref) (fun i σ H2 => Same H H2 ∧ ∃ (es : List (List Int × List Int)) (ds : List Addr) (v3 v4 : Option V), σ = [some (.ref a), some (.ref b), some (.ref d), v3, v4, none] ∧
        H2 d = some (.dT (ent es ds)) ∧ RowsIn H2 ds (es.map (·.2)) ∧ (∀ c ∈ ds, H c = none) ∧ Got ps n (fun r k => r ∈ rows.take i ∧ 0 ≤ k ∧ k < (ps.length : Int)) es)
      ⟨s1, [], [], none, none, rfl, upd_same, RowsIn.nil _, fun c hc => (nomatch hc), (Got.nil ps n).mono fun r k h => by simp at h⟩ (fun i σ H2 _ ⟨e, _⟩ => e.seq (SqL.of hb)) ?_ ?_⟩
    · rintro i x σ H2 hi ⟨s2, es, ds, v3, v4, rfl, hd, hds, hfr, hg⟩
      obtain ⟨c, hc, rfl⟩ := refs_at hi
      obtain ⟨r0, hr0⟩ := at_len hcs.1 hc
      have hrm : r0 ∈ rows := List.mem_of_getElem? hr0
      obtain ⟨hrow, hrl⟩ := L.row r0 hrm
      have hrl9 : r0.length ≤ 9 := by
        have := hrow.len
        omega
      have hcr : H c = some (.lst (iv r0)) := hcs.2 i c r0 hc hr0
      refine ⟨_, rfl, a, _, rfl, .inl (s2.seq (SqL.of ha)), (as.length : Int), by rw [List.length_map], by omega, by omega, for_range (lo := 0) (n := (as.length : Int).toNat) (fun j σ H3 => Same H H3 ∧ ∃ (es : List (List Int × List Int)) (ds : List Addr) (v4 : Option V), σ = [some (.ref a), some (.ref b), some (.ref d), some (.ref c), v4, none] ∧
          H3 d = some (.dT (ent es ds)) ∧ RowsIn H3 ds (es.map (·.2)) ∧ (∀ c ∈ ds, H c = none) ∧ Got ps n (fun r k => (r ∈ rows.take i ∧ 0 ≤ k ∧ k < (ps.length : Int)) ∨ (r = r0 ∧ 0 ≤ k ∧ k < (j : Int))) es)
        ⟨s2, es, ds, v4, rfl, hd, hds, hfr, hg.mono fun r k h => ?_⟩ ?_ ?_⟩
      · rcases h with h | h
        · exact h
        · omega
      · rintro j σ H3 hj ⟨s3, es, ds, v4, rfl, hd, hds, hfr, hg⟩
        have hjl : j < ps.length := by omega
        have hk : (0 : Int) ≤ 0 + (j : Int) ∧ 0 + (j : Int) < (ps.length : Int) := by omega
        refine ⟨_, rfl, _, rfl, _, rfl, a, c, ps, r0, 0 + (j : Int), rfl, hP.mono s3, s3 _ _ hcr, hk, hrow.inb, by omega, fun H4 s4 => ⟨_, rfl, ?_⟩⟩
        have s5 : Same H H4 := s3.trans s4
        have hd4 := s4 _ _ hd
        have up : ∀ {es : List (List Int × List Int)}, Got ps n (fun r k => ((r ∈ rows.take i ∧ 0 ≤ k ∧ k < (ps.length : Int)) ∨ (r = r0 ∧ 0 ≤ k ∧ k < (j : Int))) ∨ (r = r0 ∧ k = 0 + (j : Int))) es → Got ps n (fun r k => (r ∈ rows.take i ∧ 0 ≤ k ∧ k < (ps.length : Int)) ∨ (r = r0 ∧ 0 ≤ k ∧ k < ((j + 1 : Nat) : Int))) es := fun g => g.mono fun r k h => by
          rcases h with h | ⟨h1, h2, h3⟩
          · exact .inl (.inl h)
          · by_cases e : k = 0 + (j : Int)
            · exact .inr ⟨h1, e⟩
            · exact .inl (.inr ⟨h1, h2, by omega⟩)
        cases hm : mayB ps r0 (0 + (j : Int)) with
        | false =>
          refine iteF ?_
          exact ⟨s5, es, ds, _, rfl, hd4, hds.mono s4, hfr, up (hg.skip hm)⟩
        | true =>
          refine iteT ?_
          have hc4 : H4 c = some (.lst (iv r0)) := s5 _ _ hcr
          refine ⟨_, rfl, d, rfl, .inr ⟨_, .inl hd4⟩, ?_⟩
          -- row + [number], sorted, tuple
          refine ⟨_, rfl, _, rfl, (by show 1 ≤ sizeLine; decide), fun l1 n1 => ?_⟩
          have t1 : Same H4 (upd H4 l1 (.lst [.int (0 + (j : Int))])) := same_upd n1
          refine ⟨c, l1, _, _, rfl, rfl, t1 _ _ hc4, upd_same, ?_, fun p1 n2 => ?_⟩
          · rw [iv_len]
            exact Nat.le_of_lt (small1000 (by show r0.length + 1 ≤ 1000; omega))
          have t2 := t1.trans (same_upd (o := .lst (iv r0 ++ [.int (0 + (j : Int))])) n2)
          refine ⟨p1, r0 ++ [0 + (j : Int)], rfl, SqL.of (by rw [upd_same, List.map_append]; rfl), by rw [List.length_append]; show r0.length + 1 < 64; omega, fun key p2 hp hs n3 => ?_⟩
          have t3 := t2.trans (same_upd (o := .lst (key.map V.int)) n3)
          refine ⟨p2, _, rfl, .inl ⟨SqL.of upd_same, fun t n4 => ?_⟩⟩
          have t4 := t3.trans (same_upd (o := .tup (key.map V.int)) n4)
          refine ⟨_, rfl, _, rfl, (by show 1 ≤ sizeLine; decide), fun l2 n5 => ?_⟩
          have t5 := t4.trans (same_upd (o := .lst [.int (0 + (j : Int))]) n5)
          refine ⟨c, l2, _, _, rfl, rfl, t5 _ _ hc4, upd_same, ?_, fun p3 n6 => ?_⟩
          · rw [iv_len]
            exact Nat.le_of_lt (small1000 (by show r0.length + 1 ≤ 1000; omega))
          have t6 := t5.trans (same_upd (o := .lst (iv r0 ++ [.int (0 + (j : Int))])) n6)
          have s6 := s5.trans t6
          have hkey : ∀ X : Hp, Same (upd (upd (upd (upd H4 l1 (.lst [.int (0 + (j : Int))])) p1 (.lst (iv r0 ++ [.int (0 + (j : Int))]))) p2 (.lst (key.map V.int))) t (.tup (key.map V.int))) X → X t = some (.tup ((keyOf key).map kV)) := fun X sx => by
            rw [key_vals]
            exact sx _ _ upd_same
          have hlen : es.length = ds.length := by
            have := hds.1
            rw [List.length_map] at this
            omega
          refine ⟨t, keyOf key, ent es ds, rfl, t6 _ _ hd4, hkey _ ((same_upd n5).trans (same_upd n6)), ?_, fun v hv => ?_, fun hv => ?_⟩
          · rw [ent_len hlen]
            have := hg.few
            have := pow9 hl9
            exact small1000 (by omega)
          · have hin : key ∈ es.map (·.1) := by
              have h1 := valV_in hv
              rw [ent_keys hlen] at h1
              exact mem_keys.mp h1
            exact ⟨s6, es, ds, _, rfl, t6 _ _ hd4, hds.mono (s4.trans t6), hfr, up (hg.old hp hin)⟩
          · have hout : key ∉ es.map (·.1) := fun z => by
              have h1 := valV_not hv
              rw [ent_keys hlen] at h1
              exact h1 (mem_keys.mpr z)
            have nd' : ∀ b o, H b = some o → b ≠ d := fun b o e => ne_of_none e nd
            have g : ∀ e, (upd (upd (upd (upd (upd (upd H4 l1 (.lst [.int (0 + (j : Int))])) p1 (.lst (iv r0 ++ [.int (0 + (j : Int))]))) p2 (.lst (key.map V.int))) t (.tup (key.map V.int))) l2 (.lst [.int (0 + (j : Int))])) p3 (.lst (iv r0 ++ [.int (0 + (j : Int))]))) e ≠ some (.dT (ent es ds)) → e ≠ d := fun e he z => by
              rw [z] at he
              exact he (t6 _ _ hd4)
            have hp3 : p3 ≠ d := g p3 (by rw [upd_same]; intro z; cases z)
            refine ⟨fun b o e => ?_, es ++ [(key, r0 ++ [0 + (j : Int)])], ds ++ [p3], _, rfl, ?_, ?_, fun c hc => ?_, up (hg.new hp hs hout hrow hrl hk hm)⟩
            · rw [upd_ne (nd' _ _ e)]
              exact s6 _ _ e
            · rw [upd_same, putK_new _ hv, ent_snoc hlen]
            · rw [List.map_append]
              refine RowsIn.snoc ⟨(hds.mono (s4.trans t6)).1, fun i c r e1 e2 => ?_⟩ ?_
              · have h1 := (hds.mono (s4.trans t6)).2 i c r e1 e2
                rw [upd_ne (g c (by rw [h1]; intro z; cases z))]
                exact h1
              · rw [upd_ne hp3, upd_same]
                show some (HO.lst (iv r0 ++ [V.int (0 + (j : Int))])) = some (HO.lst (iv (r0 ++ [0 + (j : Int)])))
                rw [show iv (r0 ++ [0 + (j : Int)]) = iv r0 ++ [V.int (0 + (j : Int))] from List.map_append]
            · rcases List.mem_append.mp hc with hc | hc
              · exact hfr c hc
              · simp only [List.mem_singleton] at hc
                subst hc
                exact (s5.trans t5).free n6
      · rintro σ H3 ⟨s3, es, ds, v4, rfl, hd, hds, hfr, hg⟩
        refine ⟨s3, es, ds, _, _, rfl, hd, hds, hfr, hg.mono fun r k h => ?_⟩
        obtain ⟨h1, h2⟩ := h
        rw [take_at hr0] at h1
        rcases List.mem_append.mp h1 with h1 | h1
        · exact .inl ⟨h1, h2⟩
        · simp only [List.mem_singleton] at h1
          exact .inr ⟨h1, h2.1, by omega⟩
    · rintro σ H2 ⟨s2, es, ds, v3, v4, rfl, hd, hds, hfr, hg⟩
      have hlen : es.length = ds.length := by
        have := hds.1
        rw [List.length_map] at this
        omega
      have hg' : Got ps n (fun r k => r ∈ rows ∧ 0 ≤ k ∧ k < (ps.length : Int)) es := hg.mono fun r k h => by
        refine ⟨?_, h.2⟩
        rw [List.length_map, hcs.1, List.take_length]
        exact h.1
      have hd512 : ds.length ≤ 512 := by
        have := hg.few
        have := pow9 hl9
        omega
      refine ⟨d, _, hd, trivial, fun od => ?_⟩
      refine ⟨_, rfl, d, od, rfl, .inr ⟨_, upd_same, fun D nD => ?_⟩⟩
      have hDd : D ≠ d := fun z => by
        rw [z, upd_same] at nD
        cases nD
      have nD2 : H2 D = none := by
        rw [upd_ne hDd] at nD
        exact nD
      refine ⟨fun i m H3 => i + m = es.length ∧ H3 = upd (upd H2 d (.frz od (.dT (ent es ds)))) D (.lst ((ds.take i).map V.ref)), ⟨es.length, by omega, rfl⟩, fun i m H3 hW => ?_⟩
      obtain ⟨em, rfl⟩ := hW
      have hfz : (upd (upd H2 d (.frz od (.dT (ent es ds)))) D (.lst ((ds.take i).map V.ref))) d = some (.frz od (.dT (ent es ds))) := by
        rw [upd_ne hDd.symm, upd_same]
      by_cases hi : i < es.length
      · refine .inr ⟨⟨hfz, by rw [ent_len hlen]; exact hi⟩, fun H' => H' = upd (upd H2 d (.frz od (.dT (ent es ds)))) D (.lst ((ds.take (i + 1)).map V.ref)), fun H' e => ⟨m - 1, by omega, by omega, e⟩, fun x H' hy => ?_⟩
        obtain ⟨rfl, k, v, q0, hkv, rfl, hq0⟩ := hy
        obtain ⟨c, hc, rfl⟩ := ent_get hkv
        refine ⟨rfl, yes_ok ?_⟩
        refine iteT ?_
        refine ⟨_, rfl, _, rfl, d, .ref c, rfl, .inr ⟨ent es ds, k, q0, .inr ⟨od, hfz⟩, rfl, hq0, ?_⟩, (ds.take i).map V.ref, upd_same, ?_, ?_⟩
        · exact (valV_get (ent_nodup hlen hg.nd) hkv).symm
        · rw [List.length_map, List.length_take]
          exact small1000 (by omega)
        · rw [upd_upd, take_at hc, List.map_append]
          rfl
      · refine .inl ⟨⟨hfz, by rw [ent_len hlen]; omega⟩, hfz, ?_⟩
        have ei : ds.take i = ds := List.take_of_length_le (by omega)
        rw [ei]
        have hs : Same H2 (upd (upd (upd H2 d (.frz od (.dT (ent es ds)))) D (.lst (ds.map V.ref))) d (.dT (ent es ds))) := fun b o e => by
          by_cases hb : b = d
          · rw [hb, upd_same, ← e, hb]
            exact hd.symm
          · rw [upd_ne hb, upd_ne (ne_of_none e nD2), upd_ne hb]
            exact e
        refine q _ D (es.map (·.2)) (s2.trans hs) (s2.free nD2) ⟨ds, ?_, hds.mono hs, hfr⟩ (hg'.done L)
        rw [upd_ne hDd, upd_same]
end
end Fw
namespace Fw
open PySem PySem.Spec PyProof.Rows L2 Few
section
variable {P : Program} {w : World} {K : PySem.W.Frag} {mg : Str → Option Value} {base : Heap}
abbrev psLonger : List Str := ["pairs", "rows"]
abbrev ps4 : List Str := ["many", "size", "strangers", "thing"]
def spLongest : Sp := fun vs H Q _ => ∃ (m s t : Int) (a : Addr) (ps : List Pr), vs = [.int m, .int s, .int t, .ref a] ∧ PairsAt H a ps ∧ (∀ p ∈ ps, Val m s t p) ∧ ps.length ≤ 9 ∧
  ∀ (H' : Hp) (p : Addr) (r : List Int), Same H H' → H p = none → H' p = some (.lst (iv r)) → Best ps r → Q (.ref p) H'
abbrev nLongest : List Str := ["many", "size", "strangers", "pairs", "rows", "longer"]
theorem scLongest : FnScope nLongest ["many", "size", "strangers", "pairs"] (defScope sLongest) := ⟨rfl, rfl, rfl, by decide +kernel, rfl, by decide +kernel, by decide +kernel⟩
theorem ok_longest {f fK fR : Addr} {fd fdK fdR : FuncData} (F : FnP K "longest_row" sLongest f fd) (bK : Binds K fdK ps4 []) (kK : PySem.W.keepIn K (.ref fK) = true) (gK : mg "look_at_pairs" = some (.ref fK))
    (bR : Binds K fdR psLonger []) (kR : PySem.W.keepIn K (.ref fR) = true) (gR : mg "longer_rows" = some (.ref fR))
    (GK : FnOk P w K mg base CX0 6 fK fdK ps4 spLook) (GR : FnOk P w K mg base CX0 3 fR fdR psLonger spLonger) : FnOk P w K mg base CX0 7 f fd ["many", "size", "strangers", "pairs"] spLongest := by
  refine F.ok scLongest (fun vs H Q E h => ?_) (fun cdv A outer s H vs Q E hr h => ⟨_, PSs.nox (
    pss_cons (ps_expr (pe_call GK hr (by rfl) gK kK bK .nil pass0 (pa_cons (pv 0) (pa_cons (pv 1) (pa_cons (pv 2) (pa_cons (pv 3) pa_nil))))))
    (pss_cons (ps_set (i := 4) scLongest.nd rfl (.inl rfl) (pe_lst (pa_cons (pe_lst pa_nil) pa_nil)))
    (pss_cons (ps_set (i := 5) scLongest.nd rfl (.inl rfl) (pe_call GR (hr.mono (by decide)) (by rfl) gR kR bR .nil pass0 (pa_cons (pv 3) (pa_cons (pv 4) pa_nil))))
    (pss_cons (ps_while PassesOwn.never (pt_cmpR (op_neD hr.units) (pv 5) (pe_lst pa_nil) (nomark _))
      (pss_cons (ps_set (i := 4) scLongest.nd rfl (.inl rfl) (pv 5))
      (pss_one (ps_set (i := 5) scLongest.nd rfl (.inl rfl) (pe_call GR (hr.mono (by decide)) (by rfl) gR kR bR .nil pass0 (pa_cons (pv 3) (pa_cons (pv 4) pa_nil)))))))
    (pss_one (ps_ret (pe_ix ix_list (pv 4) pe_int (fun _ _ => rfl)))))))), ?_⟩)
  · obtain ⟨m, s, t, a, ps, rfl, _⟩ := h
    rfl
  · obtain ⟨m, s, t, a, ps, rfl, hP, hv, hl9, q⟩ := h
    refine ⟨_, rfl, _, rfl, _, rfl, _, rfl, m, s, t, a, ps, rfl, hP, hv, by omega, fun H1 s1 => ?_⟩
    -- rows = [[]]
    refine ⟨Nat.zero_le _, fun e0 n0 => ⟨(by show 1 ≤ sizeLine; decide), fun b nb => ?_⟩⟩
    have s2 : Same H1 (upd H1 e0 (.lst [])) := same_upd n0
    have s3 := s2.trans (same_upd (o := .lst [.ref e0]) nb)
    have R0 : RowsAt H1 (upd (upd H1 e0 (.lst [])) b (.lst [.ref e0])) b [[]] := ⟨[e0], upd_same, ⟨rfl, fun i c r e1 e2 => by
      cases i with
      | zero =>
        have a1 : e0 = c := by simpa using e1
        have a2 : [] = r := by simpa using e2
        subst a1 a2
        rw [upd_ne (fun z => by rw [z, upd_same] at nb; cases nb), upd_same]
        rfl
      | succ i => simp at e1⟩, fun c hc => by
        simp only [List.mem_singleton] at hc
        subst hc
        exact n0⟩
    have s4 := s1.trans s3
    -- longer = longer_rows(pairs, rows)
    refine ⟨_, rfl, _, rfl, a, b, ps, 0, [[]], _, rfl, hP.mono s4, hl9, R0, layer_zero ps, fun H2 c longer0 s5 _ RL0 LL0 => ?_⟩
    refine ⟨fun k σ H3 => ∃ (n : Nat) (rows longer : List (List Int)) (b c : Addr), σ = [some (.int m), some (.int s), some (.int t), some (.ref a), some (.ref b), some (.ref c)] ∧ Same H H3 ∧ RowsAt H H3 b rows ∧ Layer ps n rows ∧ rows ≠ [] ∧ RowsAt H H3 c longer ∧ Layer ps (n + 1) longer ∧ k + n = ps.length + 1 ∧ n ≤ ps.length,
      ⟨ps.length + 1, 0, [[]], longer0, b, c, rfl, s4.trans s5, (R0.weak s1).mono s5, layer_zero ps, by simp, RL0.weak s4, LL0, by omega, Nat.zero_le _⟩, fun k σ H3 hW => ?_⟩
    obtain ⟨n, rows, longer, b, c, rfl, s6, Rb, Lb, hne, Rc, Lc, ek, hn⟩ := hW
    obtain ⟨cs, hc, hcs, _⟩ := Rc.ex
    refine ⟨_, rfl, Nat.zero_le _, fun l nl => ?_⟩
    have s7 : Same H3 (upd H3 l (.lst [])) := same_upd nl
    refine ⟨_, _, .lst (SqL.of (s7 _ _ hc)) (dp_rows (hcs.mono s7)), .lst (SqL.of upd_same) .nil, shaped_rows longer, shaped_nil, _, rfl, ?_⟩
    rw [eqv_nil]
    cases longer with
    | nil =>
      refine iteF ?_
      obtain ⟨bs, hb, hbs, hfr⟩ := Rb.ex
      cases rows with
      | nil => exact absurd rfl hne
      | cons r rows =>
        have hbl : 0 < bs.length := by
          rw [hbs.1]
          exact Nat.succ_pos _
        have hb0 : bs[0]? = some bs[0] := List.getElem?_eq_getElem hbl
        refine ⟨_, rfl, b, _, 0, .ref bs[0], rfl, rfl, SqL.of (s7 _ _ hb), atI_nat (j := 0) (by rw [List.getElem?_map, hb0]; rfl), ?_⟩
        exact q _ bs[0] r (s6.trans s7) (hfr _ (List.getElem_mem hbl)) (s7 _ _ (hbs.2 0 _ r hb0 rfl)) (best_of Lb Lc)
    | cons r0 longer =>
      refine iteT ?_
      obtain ⟨h1, h2⟩ := Lc.row r0 (by simp)
      have hlen := h1.len
      refine ⟨fun σ' H' => ∃ (longer' : List (List Int)) (c' : Addr), σ' = [some (.int m), some (.int s), some (.int t), some (.ref a), some (.ref c), some (.ref c')] ∧ Same H H' ∧ RowsAt H H' c (r0 :: longer) ∧ RowsAt H H' c' longer' ∧ Layer ps (n + 1 + 1) longer', fun σ' H' hN => ?_, ?_⟩
      · obtain ⟨longer', c', e, g1, g2, g3, g4⟩ := hN
        exact ⟨k - 1, by omega, n + 1, r0 :: longer, longer', c, c', e, g1, g2, Lc, by simp, g3, g4, by omega, by omega⟩
      · refine ⟨_, rfl, ?_⟩
        refine ⟨_, rfl, _, rfl, a, c, ps, n + 1, r0 :: longer, H, rfl, hP.mono (s6.trans s7), hl9, Rc.mono s7, Lc, fun H5 c' longer' s8 _ R5 L5 => ?_⟩
        exact ⟨longer', c', rfl, (s6.trans s7).trans s8, (Rc.mono s7).mono s8, R5.weak (s6.trans s7), L5⟩
end
end Fw
namespace Fw
open PySem PySem.Spec PyProof.Rows L2 Few
/-! ### the pool of draws -/
structure PoolAt (H : Hp) (p : Addr) : Prop where
  ex : ∃ x y : Int, H p = some (.lst [.int x, .int y]) ∧ 0 ≤ x ∧ 0 ≤ y ∧ y < 2147483647
/-- all that was tracked is as it was, but the pool -/
structure Kp (p : Addr) (H H' : Hp) : Prop where
  keep : ∀ b o, H b = some o → b ≠ p → H' b = some o
  pool : PoolAt H' p
theorem PoolAt.mono {H H' : Hp} {p : Addr} (h : PoolAt H p) (s : Same H H') : PoolAt H' p := let ⟨x, y, e, r⟩ := h.ex; ⟨x, y, s _ _ e, r⟩
theorem Kp.refl {H : Hp} {p : Addr} (h : PoolAt H p) : Kp p H H := ⟨fun _ _ e _ => e, h⟩
theorem Kp.of {H H' : Hp} {p : Addr} (h : PoolAt H p) (s : Same H H') : Kp p H H' := ⟨fun _ _ e _ => s _ _ e, h.mono s⟩
theorem Kp.trans {H H1 H2 : Hp} {p : Addr} (a : Kp p H H1) (b : Kp p H1 H2) : Kp p H H2 := ⟨fun c o e n => b.keep c o (a.keep c o e n) n, b.pool⟩
theorem Kp.same {H H1 H2 : Hp} {p : Addr} (a : Kp p H H1) (b : Same H1 H2) : Kp p H H2 := ⟨fun c o e n => b _ _ (a.keep c o e n), a.pool.mono b⟩
theorem Kp.free {H H' : Hp} {p l : Addr} (a : Kp p H H') (h : H' l = none) : H l = none := by
  have n : l ≠ p := fun z => by
    obtain ⟨x, y, e, _⟩ := a.pool.ex
    rw [z, e] at h
    cases h
  cases q : H l with
  | none => rfl
  | some o =>
    rw [a.keep l o q n] at h
    cases h
theorem PoolAt.ne {H : Hp} {p l : Addr} (a : PoolAt H p) (h : H l = none) : l ≠ p := fun z => by
  obtain ⟨x, y, e, _⟩ := a.ex
  rw [z, e] at h
  cases h
theorem PoolAt.ne_tup {H : Hp} {p l : Addr} {xs : List V} (a : PoolAt H p) (h : H l = some (.tup xs)) : l ≠ p := fun z => by
  obtain ⟨x, y, e, _⟩ := a.ex
  rw [z, e] at h
  cases h
theorem PairAt.kp {H H' : Hp} {p a : Addr} {q : Pr} (hp : PoolAt H p) (k : Kp p H H') (h : PairAt H a q) : PairAt H' a q :=
  h.mono fun b xs e => k.keep b _ e (hp.ne_tup e)
theorem PairsAt.ne {H : Hp} {p a : Addr} {ps : List Pr} (hp : PoolAt H p) (h : PairsAt H a ps) : a ≠ p := fun z => by
  obtain ⟨x, y, e, _⟩ := hp.ex
  obtain ⟨as, h1, _⟩ := h.ex
  rw [z, e] at h1
  injection h1 with h1
  injection h1 with h1
  cases as with
  | nil => cases h1
  | cons c as => cases h1
theorem PairsAt.kp {H H' : Hp} {p a : Addr} {ps : List Pr} (hp : PoolAt H p) (k : Kp p H H') (h : PairsAt H a ps) : PairsAt H' a ps :=
  let ⟨as, h1, h2, h3⟩ := h.ex; ⟨as, k.keep _ _ h1 (h.ne hp), h2, fun i b q e1 e2 => (h3 i b q e1 e2).kp hp k⟩
section
variable {P : Program} {w : World} {K : PySem.W.Frag} {mg : Str → Option Value} {base : Heap}
/-! ### _law_pool -/
def spPool (K : PySem.W.Frag) : Sp := fun vs H Q _ => ∃ (a : Addr) (ns : List Int) (k : Nat), vs = [.ref a, .int k] ∧ SqL K H a (ns.map V.int) ∧ k ≤ 4 ∧ ∀ (H' : Hp) (p : Addr), Same H H' → H p = none → PoolAt H' p → Q (.ref p) H'
abbrev nPool : List Str := ["_law_script", "_law_k", "_law_cell", "_law_seed"]
theorem scPool : FnScope nPool ["_law_script", "_law_k"] (defScope sPool) := ⟨rfl, rfl, rfl, by decide +kernel, rfl, by decide +kernel, by decide +kernel⟩
theorem ok_pool {f : Addr} {fd : FuncData} {k : Nat} (F : FnP K "_law_pool" sPool f fd) (B : Bl mg) : FnOk P w K mg base CX0 (k + 1) f fd ["_law_script", "_law_k"] (spPool K) := by
  refine F.ok scPool (fun vs H Q E h => ?_) (fun cdv A outer s H vs Q E hr h => ⟨_, PSs.nox (
    pss_cons (ps_set (i := 2) scPool.nd rfl (.inl rfl) pe_int)
    (pss_cons (ps_if (pt_cmpR op_lt (pv 1) (pe_callB call_len_seq (by rfl) B.len PySem.boot_len (pa_cons (pv 0) pa_nil)) (nomark _)) (pss_one (ps_set (i := 2) scPool.nd rfl (.inl rfl) (pe_ix ix_list (pv 0) (pv 1) (fun _ _ => rfl)))) pss_nil)
    (pss_cons (ps_set (i := 3) scPool.nd rfl (.inl rfl) (pe_op op_mod (pe_op op_mul (pe_op op_add (pe_op op_add (pe_op op_mod (pv 2) pe_int) (pe_op op_mul (pe_op op_mul pe_int (pv 1)) (pv 1))) pe_int) pe_int) pe_int))
    (pss_one (ps_ret (pe_lst (pa_cons (pe_op op_mul (pv 2) (pe_callTy call_int1 (by rfl) B.int PyProof.Rows.boot_int (pa_cons (pe_cmpR op_ge (pv 2) (pe_op op_pow pe_int pe_int) (nomark _)) pa_nil))) (pa_cons (pv 3) pa_nil)))))))), ?_⟩)
  · obtain ⟨a, ns, k, rfl, _⟩ := h
    rfl
  · obtain ⟨a, ns, k, rfl, hS, hk, q⟩ := h
    have fin : ∀ c : Int, (tSeq (tAsg (tOp (rI (fun _ j => 0 < j) fun i j => .int (i % j)) (tOp (rI CMul fun i j => .int (i * j)) (tOp (rI0 fun i j => .int (i + j)) (tOp (rI0 fun i j => .int (i + j)) (tOp (rI (fun _ j => 0 < j) fun i j => .int (i % j)) (tVar 2) (tC (.int 2147483629))) (tOp (rI CMul fun i j => .int (i * j)) (tOp (rI CMul fun i j => .int (i * j)) (tC (.int 7919)) (tVar 1)) (tVar 1))) (tC (.int 3801))) (tC (.int 48271))) (tC (.int 2147483647))) (gName 3))
        (tRet (tLst (tCons (tOp (rI CMul fun i j => .int (i * j)) (tVar 2) (tCB (fun xs H Q => (∃ i, xs = [.int i] ∧ Q (.int i) H) ∨ ∃ k, xs = [.bl k] ∧ Q (.int (if k then 1 else 0)) H) (tCons (tOp (rI0 fun i j => .bl (decide (j ≤ i))) (tVar 2) (tOp (rI CPow fun i j => .int (i ^ j.toNat)) (tC (.int 10)) (tC (.int 18)))) tNil))) (tCons (tVar 3) tNil)))))
        { nx := fun _ H' => Q .non H', rt := Q } [some (.ref a), some (.int k), some (.int c), none] H := by
      intro c
      refine ⟨_, rfl, _, _, rfl, rfl, (by show (0 : Int) < 2147483629; decide), _, rfl, _, _, rfl, rfl, .inl ⟨by decide, by decide⟩, _, rfl, _, _, rfl, rfl, .inr ⟨by omega, by omega⟩, _, _, rfl, rfl, _, _, rfl, rfl, _, _, rfl, rfl, .inr ⟨by decide, by decide⟩, _, _, rfl, rfl, (by show (0 : Int) < 2147483647; decide), ?_⟩
      refine ⟨_, rfl, _, rfl, _, _, rfl, rfl, ⟨by decide, by decide, by decide⟩, _, _, rfl, rfl, .inr ⟨_, rfl, _, _, rfl, rfl, ?_, ?_⟩⟩
      · refine .inr ?_
        split <;> exact ⟨by decide, by decide⟩
      · refine ⟨_, rfl, (by show 2 ≤ sizeLine; decide), fun p np => ?_⟩
        refine q _ p (same_upd np) np ⟨_, _, upd_same, ?_, Int.emod_nonneg _ (by decide), Int.emod_lt_of_pos _ (by decide)⟩
        split
        · rename_i e
          have h1 := of_decide_eq_true e
          have h2 : (0 : Int) ≤ 10 ^ (18 : Int).toNat := by decide
          omega
        · omega
    refine ⟨_, rfl, _, rfl, a, _, rfl, .inl hS, _, _, rfl, rfl, _, rfl, ?_⟩
    rw [List.length_map]
    refine ite2 (fun e => ?_) (fun e => ?_)
    · have e1 : (k : Int) < (ns.length : Int) := of_decide_eq_true e
      have e2 : k < ns.length := by omega
      refine ⟨_, rfl, _, rfl, a, _, k, _, rfl, rfl, hS, atI_nat (j := k) (by rw [List.getElem?_map, List.getElem?_eq_getElem e2]; rfl), ?_⟩
      exact fin _
    · exact fin 0
/-! ### _law_take -/
def spTake : Sp := fun vs H Q _ => ∃ (p : Addr) (n : Int), vs = [.ref p, .int n] ∧ PoolAt H p ∧ 0 < n ∧ n < 1000 ∧ ∀ (r : Int) (H' : Hp), 0 ≤ r → r < n → Kp p H H' → Q (.int r) H'
abbrev nTake : List Str := ["_law_pool_here", "_law_many", "_law_found"]
abbrev psTake : List Str := ["_law_pool_here", "_law_many"]
theorem scTake : FnScope nTake psTake (defScope sTake) := ⟨rfl, rfl, rfl, by decide +kernel, rfl, by decide +kernel, by decide +kernel⟩
theorem kp_upd {H : Hp} {p : Addr} {x y : Int} (h0 : 0 ≤ x) (h1 : 0 ≤ y) (h2 : y < 2147483647) : Kp p H (upd H p (.lst [.int x, .int y])) :=
  ⟨fun b o e n => by rw [upd_ne n]; exact e, ⟨x, y, upd_same, h0, h1, h2⟩⟩
theorem ok_take {f : Addr} {fd : FuncData} {k : Nat} (F : FnP K "_law_take" sTake f fd) : FnOk P w K mg base CX0 (k + 1) f fd psTake spTake := by
  refine F.ok scTake (fun vs H Q E h => ?_) (fun cdv A outer s H vs Q E hr h => ⟨_, PSs.nox (
    pss_cons (ps_if (pt_cmpR op_gt (pe_ix ix_list (pv 0) pe_int (fun _ _ => rfl)) pe_int (nomark _))
      (pss_cons (ps_set (i := 2) scTake.nd rfl (.inl rfl) (pe_op op_mod (pe_ix ix_list (pv 0) pe_int (fun _ _ => rfl)) (pv 1)))
      (pss_cons (ps_asg (pe_op op_fdiv (pe_ix ix_list (pv 0) pe_int (fun _ _ => rfl)) (pv 1)) (pg_sub (pv 0) pe_int set_list))
      (pss_one (ps_ret (pv 2))))) pss_nil)
    (pss_cons (ps_asg (pe_op op_mod (pe_op op_add (pe_op op_mul (pe_ix ix_list (pv 0) pe_int (fun _ _ => rfl)) pe_int) pe_int) pe_int) (pg_sub (pv 0) pe_int set_list))
    (pss_one (ps_ret (pe_op op_mod (pe_op op_fdiv (pe_op op_mod (pe_op op_mul (pe_ix ix_list (pv 0) pe_int (fun _ _ => rfl)) (pe_ix ix_list (pv 0) pe_int (fun _ _ => rfl))) pe_int) pe_int) (pv 1)))))), ?_⟩)
  · obtain ⟨p, n, rfl, _⟩ := h
    rfl
  · obtain ⟨p, n, rfl, ⟨x, y, hp, hx, hy, hy2⟩, hn0, hn1, q⟩ := h
    refine ⟨_, rfl, p, _, 0, _, rfl, rfl, SqL.of hp, atI_nat (j := 0) rfl, _, _, rfl, rfl, _, rfl, ite2 (fun e => ?_) (fun e => ?_)⟩
    · refine ⟨_, rfl, p, _, 0, _, rfl, rfl, SqL.of hp, atI_nat (j := 0) rfl, _, rfl, _, _, rfl, rfl, hn0, ?_⟩
      refine ⟨_, rfl, p, _, 0, _, rfl, rfl, SqL.of hp, atI_nat (j := 0) rfl, _, rfl, _, _, rfl, rfl, ⟨hn0, by omega⟩, ?_⟩
      refine ⟨_, rfl, p, _, 0, 0, rfl, rfl, hp, rfl, ?_⟩
      refine ⟨_, rfl, ?_⟩
      exact q _ _ (Int.emod_nonneg _ (by omega)) (Int.emod_lt_of_pos _ hn0) (kp_upd (Int.ediv_nonneg hx (by omega)) hy hy2)
    · refine ⟨_, rfl, p, _, 1, _, rfl, rfl, SqL.of hp, atI_nat (j := 1) rfl, _, _, rfl, rfl, .inr ⟨by decide, by decide⟩, _, _, rfl, rfl, _, _, rfl, rfl, (by show (0 : Int) < 2147483647; decide), ?_⟩
      refine ⟨_, rfl, p, _, 1, 1, rfl, rfl, hp, rfl, ?_⟩
      have b0 : (0 : Int) ≤ (y * 48271 + 11) % 2147483647 := Int.emod_nonneg _ (by decide)
      have b1 : (y * 48271 + 11) % 2147483647 < 2147483647 := Int.emod_lt_of_pos _ (by decide)
      refine ⟨_, rfl, p, _, 1, _, rfl, rfl, SqL.of upd_same, atI_nat (j := 1) rfl, _, rfl, p, _, 1, _, rfl, rfl, SqL.of upd_same, atI_nat (j := 1) rfl, _, _, rfl, rfl, .inr ⟨by omega, by omega⟩, _, _, rfl, rfl, (by show (0 : Int) < 2147483629; decide), _, _, rfl, rfl, ⟨by decide, by decide⟩, _, rfl, _, _, rfl, rfl, hn0, ?_⟩
      exact q _ _ (Int.emod_nonneg _ (by omega)) (Int.emod_lt_of_pos _ hn0) (kp_upd hx b0 b1)
end
end Fw
namespace Fw
open PySem PySem.Spec PyProof.Rows L2 Few
/-- 0 .. m - 1 -/
def upTo (m : Int) : List Int := (List.range m.toNat).map fun (i : Nat) => (i : Int)
theorem rgV_ints (m : Int) : rgV 0 m = iv (upTo m) := by
  unfold rgV upTo
  rw [iv, List.map_map, show m - 0 = m by omega]
  apply List.map_congr_left
  intro i _
  show V.int (0 + (i : Int)) = V.int (i : Int)
  rw [show (0 : Int) + (i : Int) = (i : Int) by omega]
theorem ints_len (m : Int) : (upTo m).length = m.toNat := by
  unfold upTo
  rw [List.length_map, List.length_range]
theorem mem_ints {m x : Int} : x ∈ upTo m ↔ 0 ≤ x ∧ x < m := by
  unfold upTo
  constructor
  · intro h
    obtain ⟨i, hi, rfl⟩ := List.mem_map.mp h
    have := List.mem_range.mp hi
    omega
  · rintro ⟨h0, h1⟩
    exact List.mem_map.mpr ⟨x.toNat, List.mem_range.mpr (by omega), by omega⟩
theorem ints_nodup (m : Int) : (upTo m).Nodup := by
  unfold upTo
  show List.Pairwise _ _
  rw [List.pairwise_map]
  exact (List.nodup_range (n := m.toNat)).imp fun ne e => ne (by omega)
abbrev rLenS (K : PySem.W.Frag) : List V → Hp → VK → Prop := fun xs H Q => ∃ p ys, xs = [.ref p] ∧ (SqL K H p ys ∨ SqT K H p ys) ∧ Q (.int ys.length) H
theorem iv_app (a b : List Int) : iv (a ++ b) = iv a ++ iv b := List.map_append
theorem iv_get {ns : List Int} {i : Nat} {n : Int} (h : ns[i]? = some n) : (iv ns)[i]? = some (.int n) := by
  rw [List.getElem?_map, h]
  rfl
/-- popping the item at r -/
theorem pop_at {ls : List Int} {r : Int} (h0 : 0 ≤ r) (h1 : r < (ls.length : Int)) : ∃ (k : Nat) (n : Int), seqIndex? r (iv ls).length = some k ∧ (iv ls)[k]? = some (.int n) ∧ ls[k]? = some n ∧ (iv ls).eraseIdx k = iv (ls.eraseIdx k) ∧ (n :: ls.eraseIdx k).Perm ls := by
  have hk : r.toNat < ls.length := by omega
  have e0 : ls[r.toNat]? = some ls[r.toNat] := List.getElem?_eq_getElem hk
  have e1 := atI_nat (iv_get e0)
  rw [show ((r.toNat : Nat) : Int) = r by omega] at e1
  obtain ⟨j, g1, g2, g3, _⟩ := atI_get e1
  obtain ⟨n, hn, en⟩ := item_int g2
  have en' : n = ls[r.toNat] := by
    injection en with en
    exact en.symm
  refine ⟨j, n, g1, by rw [g2, en'], hn, ?_, L2.erase_perm ls j n hn⟩
  exact (PySem.map_eraseIdx V.int ls j).symm
section
variable {P : Program} {w : World} {K : PySem.W.Frag} {mg : Str → Option Value} {base : Heap}
/-! ### _law_some -/
def spSome : Sp := fun vs H Q _ => ∃ (p : Addr) (m k : Int), vs = [.ref p, .int m, .int k] ∧ PoolAt H p ∧ 0 ≤ m ∧ m ≤ 13 ∧ 0 ≤ k ∧ k ≤ 13 ∧
  ∀ (H' : Hp) (t : Addr) (xs : List Int), Kp p H H' → H' t = some (.tup (iv xs)) → Up m xs → (xs.length : Int) = (if m < k then m else k) → Q (.ref t) H'
abbrev nSome : List Str := ["_law_pool_here", "_law_many", "_law_size", "_law_left", "_law_turn"]
abbrev psSome : List Str := ["_law_pool_here", "_law_many", "_law_size"]
theorem scSome : FnScope nSome psSome (defScope sSome) := ⟨rfl, rfl, rfl, by decide +kernel, rfl, by decide +kernel, by decide +kernel⟩
theorem ok_some {f fT : Addr} {fd fdT : FuncData} (F : FnP K "_law_some" sSome f fd) (bT : Binds K fdT psTake []) (kT : PySem.W.keepIn K (.ref fT) = true) (gT : mg "_law_take" = some (.ref fT)) (B : Bl mg)
    (GT : FnOk P w K mg base CX0 1 fT fdT psTake spTake) : FnOk P w K mg base CX0 2 f fd psSome spSome := by
  refine F.ok scSome (fun vs H Q E h => ?_) (fun cdv A outer s H vs Q E hr h => ⟨_, PSs.nox (
    pss_cons (ps_set (i := 3) scSome.nd rfl (.inr rfl) (pe_listRg rfl (by rfl) B.list (prg_1 (by rfl) B.range (pv 1))))
    (pss_one (ps_ret (pe_callTy call_tuple_of (by rfl) B.tuple PyProof.Rows.boot_tuple (pa_cons (pe_callB cr_sorted (by rfl) B.sorted PyProof.Rows.boot_sorted (pa_cons
      (pe_lc (own := [("_law_turn", 4)]) (g := gName 4) (tt := tYes) (te := tBM K "list" rPopAt (tVar 3) (tCons (tCall spTake [] E0 (tCons (tVar 0) (tCons (tCB (rLenS K) (tCons (tVar 3) tNil)) tNil))) tNil)) rfl scSome.nd
        (pi_range1 rfl B.range (pa_cons (pe_callB (call_min2 rfl) (by rfl) B.min PyProof.Rows.boot_min (pa_cons (pv 2) (pa_cons (pv 1) pa_nil))) pa_nil))
        (blkOk_by (own := [("_law_turn", 4)]) (N := nSome) (sc := defScope sSome) (by decide +kernel))
        (fun _ _ _ _ _ => pg_name (i := 4) scSome.nd rfl (Or.inl rfl)) (fun _ _ _ _ _ => pts_nil)
        (fun _ _ _ _ _ => pe_bm PySem.F.plainAttrs_list PySem.F.slot_list_pop PySem.F.type_list_pop mt_popAt (pv 3) (pa_cons (pe_call GT hr (by rfl) gT kT bT .nil pass0 (pa_cons (pv 0) (pa_cons (pe_callB (r := rLenS K) call_len_seq (by rfl) B.len PySem.boot_len (pa_cons (pv 3) pa_nil)) pa_nil))) pa_nil)))
      pa_nil)) pa_nil))))), ?_⟩)
  · obtain ⟨p, m, k, rfl, _⟩ := h
    rfl
  · obtain ⟨p, m, k, rfl, hp, hm0, hm1, hk0, hk1, q⟩ := h
    refine ⟨_, rfl, m, rfl, RgOk.of_le (by omega) (by omega) (by omega) hm0, fun l nl => ?_⟩
    have hl0 : (upd H l (.lst (rgV 0 m))) l = some (.lst (iv (upTo m))) := by rw [upd_same, rgV_ints]
    have s1 : Same H (upd H l (.lst (rgV 0 m))) := same_upd nl
    generalize upd H l (.lst (rgV 0 m)) = H1 at hl0 s1 ⊢
    have hp1 := hp.mono s1
    have hlp : l ≠ p := hp.ne nl
    refine ⟨_, rfl, _, rfl, k, m, rfl, _, rfl, ?_, ?_, fun D nD => ?_⟩
    · split <;> omega
    · split <;> omega
    have hDp : D ≠ p := hp1.ne nD
    have hDl : D ≠ l := fun z => by
      rw [z, hl0] at nD
      cases nD
    have sD : Same H1 (upd H1 D (.lst [])) := same_upd nD
    refine lc_range (lo := 0) (n := (if m < k then m else k).toNat) (fun i H3 => ∃ acc left : List Int, Kp p H H3 ∧ H3 D = some (.lst (iv acc)) ∧ H3 l = some (.lst (iv left)) ∧ acc.length = i ∧ (acc ++ left).Perm (upTo m))
      ⟨[], upTo m, (Kp.of hp s1).same sD, upd_same, sD _ _ hl0, rfl, List.Perm.refl _⟩ ?_ ?_
    · rintro i H3 hi ⟨acc, left, k3, hD, hl, hai, hpm⟩
      have hlen : i + left.length = m.toNat := by
        have := hpm.length_eq
        rw [List.length_append, ints_len, hai] at this
        exact this
      have hle : left.length ≤ 13 ∧ 0 < left.length := by
        split at hi <;> omega
      refine ⟨rfl, yes_ok ?_⟩
      refine iteT ?_
      refine ⟨_, rfl, .inl ⟨rfl, _, SqL.of hl⟩, _, rfl, _, rfl, l, _, rfl, .inl (SqL.of hl), p, _, rfl, k3.pool, ?_, ?_, fun r H4 r0 r1 k4 => ?_⟩
      · rw [iv_len]
        omega
      · rw [iv_len]
        omega
      rw [iv_len] at r1
      obtain ⟨j, n, g1, g2, g3, g4, g5⟩ := pop_at r0 r1
      have hl4 := k4.keep _ _ hl hlp
      have hD4 := k4.keep _ _ hD hDp
      refine ⟨l, _, r, j, _, rfl, rfl, hl4, by omega, by omega, g1, g2, iv acc, ?_, ?_, ?_⟩
      · rw [upd_ne hDl]
        exact hD4
      · rw [iv_len, hai]
        have : i < 14 := by split at hi <;> omega
        exact small1000 (by omega)
      · refine ⟨acc ++ [n], left.eraseIdx j, ⟨fun b o e ne => ?_, ?_⟩, ?_, ?_, by rw [List.length_append, hai]; rfl, ?_⟩
        · have nb : b ≠ l := ne_of_none e nl
          have nbD : b ≠ D := ne_of_none (s1 _ _ e) nD
          rw [upd_ne nbD, upd_ne nb]
          exact (k3.trans k4).keep b o e ne
        · obtain ⟨x, y, e, r⟩ := k4.pool.ex
          exact ⟨x, y, by rw [upd_ne hDp.symm, upd_ne hlp.symm]; exact e, r⟩
        · rw [upd_same, iv_app]
          try rfl
        · rw [upd_ne hDl.symm, upd_same, g4]
        · rw [List.append_assoc]
          exact ((List.Perm.append_left acc g5).trans hpm)
    · rintro H3 ⟨acc, left, k3, hD, hl, hai, hpm⟩
      have hnd : (acc ++ left).Nodup := hpm.nodup_iff.mpr (ints_nodup m)
      have hac : acc.Nodup := (List.nodup_append.mp hnd).1
      have h13 : acc.length ≤ 13 := by
        rw [hai]
        split <;> omega
      refine ⟨D, acc, rfl, SqL.of hD, by omega, fun xs p2 hpx hs n2 => ?_⟩
      have t2 : Same H3 (upd H3 p2 (.lst (xs.map V.int))) := same_upd n2
      refine ⟨p2, _, rfl, .inl ⟨SqL.of upd_same, fun t nt => ?_⟩⟩
      have t3 := t2.trans (same_upd (o := .tup (xs.map V.int)) nt)
      refine q _ t xs (k3.same t3) upd_same ⟨rising_strict hs (hpx.nodup_iff.mpr hac), fun x hx => ?_⟩ ?_
      · exact mem_ints.mp (hpm.mem_iff.mp (List.mem_append_left _ (hpx.mem_iff.mp hx)))
      · rw [hpx.length_eq, hai]
        split <;> omega
/-! ### _law_shuffled -/
def spShuf : Sp := fun vs H Q _ => ∃ (p a : Addr) (ns : List Int), vs = [.ref p, .ref a] ∧ PoolAt H p ∧ H a = some (.lst (iv ns)) ∧ a ≠ p ∧ ns.length ≤ 100 ∧
  ∀ (H' : Hp) (b : Addr) (ns' : List Int), Kp p H H' → H b = none → H' b = some (.lst (iv ns')) → ns'.Perm ns → Q (.ref b) H'
abbrev nShuf : List Str := ["_law_pool_here", "_law_row", "_law_left", "_law_found", "_law_turn"]
abbrev psShuf : List Str := ["_law_pool_here", "_law_row"]
theorem scShuf : FnScope nShuf psShuf (defScope sShuf) := ⟨rfl, rfl, rfl, by decide +kernel, rfl, by decide +kernel, by decide +kernel⟩
theorem ok_shuf {f fT : Addr} {fd fdT : FuncData} (F : FnP K "_law_shuffled" sShuf f fd) (bT : Binds K fdT psTake []) (kT : PySem.W.keepIn K (.ref fT) = true) (gT : mg "_law_take" = some (.ref fT)) (B : Bl mg)
    (GT : FnOk P w K mg base CX0 1 fT fdT psTake spTake) : FnOk P w K mg base CX0 2 f fd psShuf spShuf := by
  refine F.ok scShuf (fun vs H Q E h => ?_) (fun cdv A outer s H vs Q E hr h => ⟨_, PSs.nox (
    pss_cons (ps_set (i := 2) scShuf.nd rfl (.inl rfl) (pe_callTy call_list_of (by rfl) B.list PyProof.Rows.boot_list (pa_cons (pv 1) pa_nil)))
    (pss_cons (ps_set (i := 3) scShuf.nd rfl (.inl rfl) (pe_lst pa_nil))
    (pss_cons (ps_for PassesOwn.never rfl (pi_range1 rfl B.range (pa_cons (pe_callB call_len_seq (by rfl) B.len PySem.boot_len (pa_cons (pv 1) pa_nil)) pa_nil)) (pg_name (i := 4) scShuf.nd rfl (.inl rfl))
      (pss_one (ps_expr (pe_bm PySem.F.plainAttrs_list PySem.F.slot_list_append PySem.F.type_list_append mt_append (pv 3) (pa_cons
        (pe_bm PySem.F.plainAttrs_list PySem.F.slot_list_pop PySem.F.type_list_pop mt_popAt (pv 2) (pa_cons (pe_call GT hr (by rfl) gT kT bT .nil pass0 (pa_cons (pv 0) (pa_cons (pe_callB call_len_seq (by rfl) B.len PySem.boot_len (pa_cons (pv 2) pa_nil)) pa_nil))) pa_nil)) pa_nil)))))
    (pss_one (ps_ret (pv 3)))))), ?_⟩)
  · obtain ⟨p, a, ns, rfl, _⟩ := h
    rfl
  · obtain ⟨p, a, ns, rfl, hp, ha, hap, hn, q⟩ := h
    refine ⟨_, rfl, a, _, rfl, .inl (SqL.of ha), fun l nl => ?_⟩
    have s1 : Same H (upd H l (.lst (iv ns))) := same_upd nl
    have hl1 : (upd H l (.lst (iv ns))) l = some (.lst (iv ns)) := upd_same
    generalize upd H l (.lst (iv ns)) = H1 at hl1 s1 ⊢
    have hp1 := hp.mono s1
    have hlp : l ≠ p := hp.ne nl
    refine ⟨Nat.zero_le _, fun D nD => ?_⟩
    have sD : Same H1 (upd H1 D (.lst [])) := same_upd nD
    have hDp : D ≠ p := hp1.ne nD
    have hDl : D ≠ l := fun z => by
      rw [z, hl1] at nD
      cases nD
    refine ⟨_, rfl, a, _, rfl, .inl (SqL.of (sD _ _ (s1 _ _ ha))), _, rfl, by omega, by rw [iv_len]; omega, for_range (lo := 0) (n := ((iv ns).length : Int).toNat) (fun i σ H3 => ∃ (acc left : List Int) (v : Option V), σ = [some (.ref p), some (.ref a), some (.ref l), some (.ref D), v] ∧ Kp p H H3 ∧ H3 D = some (.lst (iv acc)) ∧ H3 l = some (.lst (iv left)) ∧ acc.length = i ∧ (acc ++ left).Perm ns)
      ⟨[], ns, none, rfl, (Kp.of hp s1).same sD, upd_same, sD _ _ hl1, rfl, List.Perm.refl _⟩ ?_ ?_⟩
    · rintro i σ H3 hi ⟨acc, left, v, rfl, k3, hD, hl, hai, hpm⟩
      rw [iv_len] at hi
      have hlen : i + left.length = ns.length := by
        have := hpm.length_eq
        rw [List.length_append, hai] at this
        exact this
      refine ⟨_, rfl, .inl ⟨rfl, _, SqL.of hD⟩, ?_⟩
      refine ⟨_, rfl, .inl ⟨rfl, _, SqL.of hl⟩, _, rfl, _, rfl, l, _, rfl, .inl (SqL.of hl), p, _, rfl, k3.pool, ?_, ?_, fun r H4 r0 r1 k4 => ?_⟩
      · rw [iv_len]
        omega
      · rw [iv_len]
        omega
      rw [iv_len] at r1
      obtain ⟨j, n, g1, g2, g3, g4, g5⟩ := pop_at r0 r1
      have hl4 := k4.keep _ _ hl hlp
      have hD4 := k4.keep _ _ hD hDp
      refine ⟨l, _, r, j, _, rfl, rfl, hl4, by omega, by omega, g1, g2, ?_⟩
      refine ⟨D, iv acc, .int n, rfl, rfl, ?_, ?_, ?_⟩
      · rw [upd_ne hDl]
        exact hD4
      · rw [iv_len, hai]
        exact small1000 (by omega)
      · refine ⟨acc ++ [n], left.eraseIdx j, _, rfl, ⟨fun b o e ne => ?_, ?_⟩, ?_, ?_, by rw [List.length_append, hai]; rfl, ?_⟩
        · have nb : b ≠ l := ne_of_none e nl
          have nbD : b ≠ D := ne_of_none (s1 _ _ e) nD
          rw [upd_ne nbD, upd_ne nb]
          exact (k3.trans k4).keep b o e ne
        · obtain ⟨x, y, e, r⟩ := k4.pool.ex
          exact ⟨x, y, by rw [upd_ne hDp.symm, upd_ne hlp.symm]; exact e, r⟩
        · rw [upd_same, iv_app]
          try rfl
        · rw [upd_ne hDl.symm, upd_same, g4]
        · rw [List.append_assoc]
          exact ((List.Perm.append_left acc g5).trans hpm)
    · rintro σ H3 ⟨acc, left, v, rfl, k3, hD, hl, hai, hpm⟩
      have hl0 : left = [] := by
        have := hpm.length_eq
        rw [List.length_append, hai, iv_len] at this
        exact List.length_eq_zero_iff.mp (by omega)
      rw [hl0, List.append_nil] at hpm
      exact ⟨_, rfl, q H3 D acc k3 (s1.free nD) hD hpm⟩
/-! ### _law_called -/
def spCalled : Sp := fun vs H Q _ => ∃ (a b : Addr) (names xs : List Int), vs = [.ref a, .ref b] ∧ H a = some (.lst (iv names)) ∧ H b = some (.tup (iv xs)) ∧ (∀ x ∈ xs, 0 ≤ x ∧ x < (names.length : Int)) ∧ xs.length ≤ 60 ∧
  ∀ (H' : Hp) (c : Addr) (ys : List Int), Same H H' → H' c = some (.tup (iv ys)) → ys.Perm (xs.map (at' names)) → ys.Pairwise (· ≤ ·) → Q (.ref c) H'
abbrev nCalled : List Str := ["_law_names", "_law_things", "_law_thing"]
abbrev psCalled : List Str := ["_law_names", "_law_things"]
theorem scCalled : FnScope nCalled psCalled (defScope sCalled) := ⟨rfl, rfl, rfl, by decide +kernel, rfl, by decide +kernel, by decide +kernel⟩
theorem ok_called {f : Addr} {fd : FuncData} {k : Nat} (F : FnP K "_law_called" sCalled f fd) (B : Bl mg) : FnOk P w K mg base CX0 (k + 1) f fd psCalled spCalled := by
  refine F.ok scCalled (fun vs H Q E h => ?_) (fun cdv A outer s H vs Q E hr h => ⟨_, PSs.nox (
    pss_one (ps_ret (pe_callTy call_tuple_of (by rfl) B.tuple PyProof.Rows.boot_tuple (pa_cons (pe_callB cr_sorted (by rfl) B.sorted PyProof.Rows.boot_sorted (pa_cons
      (pe_lc (own := [("_law_thing", 2)]) (g := gName 2) (tt := tYes) (te := tOp (rIxL K) (tVar 0) (tVar 2)) rfl scCalled.nd (pi_tup (pv 1))
        (blkOk_by (own := [("_law_thing", 2)]) (N := nCalled) (sc := defScope sCalled) (by decide +kernel))
        (fun _ _ _ _ _ => pg_name (i := 2) scCalled.nd rfl (Or.inl rfl)) (fun _ _ _ _ _ => pts_nil)
        (fun _ _ _ _ _ => pe_ix ix_list (pv 0) (pv 2) (fun _ _ => rfl)))
      pa_nil)) pa_nil)))), ?_⟩)
  · obtain ⟨a, b, names, xs, rfl, _⟩ := h
    rfl
  · obtain ⟨a, b, names, xs, rfl, ha, hb, hx, h60, q⟩ := h
    refine ⟨_, rfl, b, rfl, ⟨_, SqT.of hb⟩, fun D nD => ?_⟩
    have sD : ∀ o, Same H (upd H D o) := fun o => same_upd nD
    refine lc_tup (K := K) (a := b) (xs := iv xs) (fun i H3 => H3 = upd H D (.lst (iv ((xs.take i).map (at' names))))) rfl (fun i H3 _ e => by rw [e]; exact SqT.of (sD _ _ _ hb)) ?_ ?_
    · rintro i x H3 hi rfl
      obtain ⟨n, hn, rfl⟩ := item_int hi
      have bn := hx n (List.mem_of_getElem? hn)
      have e1 := atI_nat (iv_get (at_get bn.1 bn.2))
      rw [show ((n.toNat : Nat) : Int) = n by omega] at e1
      refine ⟨rfl, yes_ok ?_⟩
      refine iteT ?_
      refine ⟨_, rfl, _, rfl, a, _, n, _, rfl, rfl, SqL.of (sD _ _ _ ha), e1, _, upd_same, ?_, ?_⟩
      · rw [iv_len, List.length_map, List.length_take]
        exact small1000 (by omega)
      · rw [upd_upd, take_at hn, List.map_append, iv_app]
        rfl
    · rintro H3 rfl
      rw [iv_len, List.take_length]
      refine ⟨D, xs.map (at' names), rfl, SqL.of upd_same, by rw [List.length_map]; omega, fun ys p2 hpx hs n2 => ?_⟩
      have t2 := (sD (.lst (iv (xs.map (at' names))))).trans (same_upd (o := .lst (ys.map V.int)) n2)
      refine ⟨p2, _, rfl, .inl ⟨SqL.of upd_same, fun t nt => ?_⟩⟩
      have t3 := t2.trans (same_upd (o := .tup (ys.map V.int)) nt)
      exact q _ t ys t3 upd_same hpx hs
end
end Fw
namespace Fw
open PySem PySem.Spec PyProof.Rows L2 Few
section
variable {P : Program} {w : World} {K : PySem.W.Frag} {mg : Str → Option Value} {base : Heap}
/-! ### _law_pair -/
def spLPair : Sp := fun vs H Q _ => ∃ (p : Addr) (m s t : Int), vs = [.ref p, .int m, .int s, .int t] ∧ PoolAt H p ∧ 0 ≤ m ∧ m ≤ 12 ∧ 0 ≤ s ∧ s ≤ m ∧ 0 ≤ t ∧ t ≤ 8 ∧
  ∀ (H' : Hp) (c : Addr) (pr : Pr), Kp p H H' → PairAt H' c pr → Val m s t pr → Q (.ref c) H'
abbrev nLPair : List Str := ["_law_pool_here", "_law_many", "_law_size", "_law_strangers", "_law_one", "_law_other", "_law_thing"]
abbrev psLPair : List Str := ["_law_pool_here", "_law_many", "_law_size", "_law_strangers"]
theorem scLPair : FnScope nLPair psLPair (defScope sLPair) := ⟨rfl, rfl, rfl, by decide +kernel, rfl, by decide +kernel, by decide +kernel⟩
theorem up_filter {m : Int} {l : List Int} (h : Up m l) (g : Int → Bool) : Up m (l.filter g) := ⟨h.1.sublist List.filter_sublist, fun x hx => h.2 x (List.mem_filter.mp hx).1⟩
theorem ok_lpair {f fT fS : Addr} {fd fdT fdS : FuncData} (F : FnP K "_law_pair" sLPair f fd) (bT : Binds K fdT psTake []) (kT : PySem.W.keepIn K (.ref fT) = true) (gT : mg "_law_take" = some (.ref fT))
    (bS : Binds K fdS psSome []) (kS : PySem.W.keepIn K (.ref fS) = true) (gS : mg "_law_some" = some (.ref fS)) (B : Bl mg)
    (GT : FnOk P w K mg base CX0 1 fT fdT psTake spTake) (GS : FnOk P w K mg base CX0 2 fS fdS psSome spSome) : FnOk P w K mg base CX0 3 f fd psLPair spLPair := by
  refine F.ok scLPair (fun vs H Q E h => ?_) (fun cdv A outer s H vs Q E hr h => ⟨_, PSs.nox (
    pss_cons (ps_set (i := 4) scLPair.nd rfl (.inr rfl) (pe_call GS hr (by rfl) gS kS bS .nil pass0 (pa_cons (pv 0) (pa_cons (pv 1) (pa_cons (pv 2) pa_nil)))))
    (pss_cons (ps_set (i := 5) scLPair.nd rfl (.inl rfl) (pe_call GS hr (by rfl) gS kS bS .nil pass0 (pa_cons (pv 0) (pa_cons (pv 1) (pa_cons
      (pe_ix ix_list (pe_lst (pa_cons (pv 3) (pa_cons (pv 3) (pa_cons (pe_call GT (hr.mono (by decide)) (by rfl) gT kT bT .nil pass0 (pa_cons (pv 0) (pa_cons (pe_op op_add (pv 3) pe_int) pa_nil))) pa_nil))))
        (pe_call GT (hr.mono (by decide)) (by rfl) gT kT bT .nil pass0 (pa_cons (pv 0) (pa_cons pe_int pa_nil))) (fun _ _ => rfl)) pa_nil)))))
    (pss_cons (ps_if (pt_cmpR op_gt (pe_call GT (hr.mono (by decide)) (by rfl) gT kT bT .nil pass0 (pa_cons (pv 0) (pa_cons pe_int pa_nil))) pe_int (nomark _))
      (pss_one (ps_set (i := 5) scLPair.nd rfl (.inl rfl) (pe_callTy call_tuple_of (by rfl) B.tuple PyProof.Rows.boot_tuple (pa_cons
        (pe_lc (own := [("_law_thing", 6)]) (g := gName 6) (tt := tTest (tOp (rIn K true) (tVar 6) (tVar 4))) rfl scLPair.nd (pi_tup (pv 5))
          (blkOk_by (own := [("_law_thing", 6)]) (N := nLPair) (sc := defScope sLPair) (by decide +kernel))
          (fun _ _ _ _ _ => pg_name (i := 6) scLPair.nd rfl (Or.inl rfl)) (fun _ _ _ _ _ => pts_one (pt_cmpR op_notIn_seq (pv 6) (pv 4) (by rfl)))
          (fun _ _ _ _ _ => pv 6)) pa_nil)))) pss_nil)
    (pss_one (ps_ret (pe_tup (pa_cons (pv 4) (pa_cons (pv 5) pa_nil)))))))), ?_⟩)
  · obtain ⟨p, m, s, t, rfl, _⟩ := h
    rfl
  · obtain ⟨p, m, s, t, rfl, hp, hm0, hm1, hs0, hs1, ht0, ht1, q⟩ := h
    -- one
    refine ⟨_, rfl, _, rfl, _, rfl, p, m, s, rfl, hp, hm0, by omega, hs0, by omega, fun H1 a xs k1 ha hxs hxl => ?_⟩
    have hxl' : (xs.length : Int) = s := by
      rw [hxl]
      split <;> omega
    -- other
    refine ⟨_, rfl, _, rfl, _, rfl, _, rfl, _, rfl, _, rfl, _, _, rfl, rfl, p, _, rfl, k1.pool, by omega, by omega, fun r1 H2 r10 r11 k2 => ?_⟩
    refine ⟨(by show 3 ≤ sizeLine; decide), fun l nl => ?_⟩
    have k2' := k2.same (same_upd (o := .lst [.int t, .int t, .int r1]) nl)
    have hlp : l ≠ p := k2.pool.ne nl
    refine ⟨_, rfl, p, 3, rfl, k2'.pool, by omega, by omega, fun r2 H3 r20 r21 k3 => ?_⟩
    have hl3 : H3 l = some (.lst [.int t, .int t, .int r1]) := k3.keep _ _ upd_same hlp
    obtain ⟨v, hv, v0, v1⟩ : ∃ v : Int, ([.int t, .int t, .int r1] : List V)[r2.toNat]? = some (.int v) ∧ 0 ≤ v ∧ v ≤ t := by
      have h3 : r2 = 0 ∨ r2 = 1 ∨ r2 = 2 := by omega
      rcases h3 with e | e | e
      · subst e
        exact ⟨t, rfl, by omega, by omega⟩
      · subst e
        exact ⟨t, rfl, by omega, by omega⟩
      · subst e
        exact ⟨r1, rfl, by omega, by omega⟩
    have hv' := atI_nat hv
    rw [show ((r2.toNat : Nat) : Int) = r2 by omega] at hv'
    refine ⟨l, _, r2, _, rfl, rfl, SqL.of hl3, hv', ?_⟩
    refine ⟨p, m, v, rfl, k3.pool, hm0, by omega, v0, by omega, fun H4 b ys k4 hb hys hyl => ?_⟩
    have hyl' : (ys.length : Int) ≤ t := by
      rw [hyl]
      split <;> omega
    have kk : Kp p H1 H4 := (k2'.trans k3).trans k4
    have ha4 : H4 a = some (.tup (iv xs)) := kk.keep _ _ ha (k1.pool.ne_tup ha)
    -- if take(4) > 0
    refine ⟨_, rfl, p, 4, rfl, k4.pool, by omega, by omega, fun r3 H5 _ _ k5 => ?_⟩
    have ha5 : H5 a = some (.tup (iv xs)) := k5.keep _ _ ha4 (k4.pool.ne_tup ha4)
    have hb5 : H5 b = some (.tup (iv ys)) := k5.keep _ _ hb (k4.pool.ne_tup hb)
    have k05 : Kp p H H5 := (k1.trans kk).trans k5
    have fin : ∀ (H6 : Hp) (c : Addr) (zs : List Int), Same H5 H6 → H6 c = some (.tup (iv zs)) → Up m zs → (zs.length : Int) ≤ t →
        (tRet (tTup (tCons (tVar 4) (tCons (tVar 5) tNil)))) { nx := fun _ H' => Q .non H', rt := Q } [some (.ref p), some (.int m), some (.int s), some (.int t), some (.ref a), some (.ref c), none] H6 := by
      intro H6 c zs s6 hc hz hzl
      refine ⟨_, rfl, _, rfl, (by show 2 ≤ sizeLine; decide), fun d nd => ?_⟩
      have s7 := same_upd (o := .tup [.ref a, .ref c]) nd
      exact q _ d (xs, zs) ((k05.same s6).same s7) ⟨a, c, upd_same, s7 _ _ (s6 _ _ ha5), s7 _ _ hc⟩ ⟨hxs, hxl', hz, hzl⟩
    refine ⟨_, _, rfl, rfl, _, rfl, ite2 (fun _ => ?_) (fun _ => ?_)⟩
    · refine ⟨_, rfl, b, rfl, ⟨_, SqT.of hb5⟩, fun D nD => ?_⟩
      have sD : ∀ o, Same H5 (upd H5 D o) := fun o => same_upd nD
      have hys60 : ys.length ≤ 60 := by omega
      refine lc_tup (K := K) (a := b) (xs := iv ys) (fun i H3 => H3 = upd H5 D (.lst (iv ((ys.take i).filter fun x => !decide (x ∈ xs))))) rfl (fun i H3 _ e => by rw [e]; exact SqT.of (sD _ _ _ hb5)) ?_ ?_
      · rintro i x H3 hi rfl
        obtain ⟨n, hn, rfl⟩ := item_int hi
        refine ⟨rfl, _, rfl, _, rfl, a, _, rfl, .inr (SqT.of (sD _ _ _ ha5)), rfl, flat_iv xs, _, rfl, ?_⟩
        rw [inV_int]
        refine ite2 (fun e => ?_) (fun e => ?_)
        · have e1 : (!decide (n ∈ xs)) = true := e
          refine ⟨_, rfl, _, upd_same, ?_, ?_⟩
          · rw [iv_len]
            have := List.length_filter_le (fun x => !decide (x ∈ xs)) (ys.take i)
            rw [List.length_take] at this
            exact small1000 (by omega)
          · rw [upd_upd, take_at hn, List.filter_append, iv_app, List.filter_cons, if_pos e1]
            rfl
        · have e1 : ¬ (!decide (n ∈ xs)) = true := e
          show upd H5 D _ = upd H5 D _
          rw [take_at hn, List.filter_append, List.filter_cons, if_neg e1, List.filter_nil, List.append_nil]
      · rintro H3 rfl
        rw [iv_len, List.take_length]
        refine ⟨D, _, rfl, .inl ⟨SqL.of upd_same, fun c nc => ?_⟩⟩
        refine fin _ c (ys.filter fun x => !decide (x ∈ xs)) ((sD _).trans (same_upd nc)) upd_same (up_filter hys _) ?_
        have := List.length_filter_le (fun x => !decide (x ∈ xs)) ys
        omega
    · exact fin H5 b ys (Same.refl _) hb5 hys hyl'
end
end Fw
namespace Fw
open PySem PySem.Spec PyProof.Rows L2 Few
theorem menu2 {a b : V} {r : Int} (h0 : 0 ≤ r) (h1 : r < 3) : ∃ v, atI [a, b] (r / 2) = some v ∧ (v = a ∨ v = b) := by
  have h3 : r = 0 ∨ r = 1 ∨ r = 2 := by omega
  rcases h3 with e | e | e
  · subst e
    exact ⟨a, atI_nat (j := 0) rfl, .inl rfl⟩
  · subst e
    exact ⟨a, atI_nat (j := 0) rfl, .inl rfl⟩
  · subst e
    exact ⟨b, atI_nat (j := 1) rfl, .inr rfl⟩
theorem dp_pairs {K : PySem.W.Frag} {H : Hp} {a : Addr} {ps : List Pr} (h : PairsAt H a ps) : Dp K H (.ref a) (.list (ps.map dP)) := by
  obtain ⟨as, h1, h2, h3⟩ := h.ex
  refine .lst (SqL.of h1) ?_
  clear h1 h
  induction as generalizing ps with
  | nil =>
    cases ps with
    | nil => exact .nil
    | cons p ps => simp at h2
  | cons b as ih =>
    cases ps with
    | nil => simp at h2
    | cons p ps =>
      obtain ⟨c, d, e0, e1, e2⟩ := (h3 0 b p rfl rfl).ex
      exact .cons (.tup (SqT.of e0) (.cons (.tup (SqT.of e1) (dp_ints p.1)) (.cons (.tup (SqT.of e2) (dp_ints p.2)) .nil))) (ih (by simpa using h2) fun i c q e1 e2 => h3 (i + 1) c q (by simpa using e1) (by simpa using e2))
theorem PairAt.upd_lst {H : Hp} {a c : Addr} {q : Pr} {xs ys : List V} (ha : H a = some (.lst xs)) (h : PairAt H c q) : PairAt (upd H a (.lst ys)) c q :=
  h.mono fun b zs e => by
    rw [upd_ne (ne_of e ha (fun z => nomatch z))]
    exact e
theorem PairsAt.snoc {H : Hp} {a c : Addr} {ps : List Pr} {q : Pr} {as : List Addr} (ha : H a = some (.lst (as.map V.ref))) (hl : as.length = ps.length) (h : ∀ (i : Nat) (b : Addr) (p : Pr), as[i]? = some b → ps[i]? = some p → PairAt H b p) (hc : PairAt H c q) :
    PairsAt (upd H a (.lst (as.map V.ref ++ [.ref c]))) a (ps ++ [q]) := by
  refine ⟨as ++ [c], by rw [upd_same, List.map_append]; rfl, by simp [hl], fun i d q' e1 e2 => ?_⟩
  by_cases hi : i < as.length
  · rw [List.getElem?_append_left hi] at e1
    rw [List.getElem?_append_left (by rw [← hl]; exact hi)] at e2
    exact (h i d q' e1 e2).upd_lst ha
  · rw [List.getElem?_append_right (by omega)] at e1
    rw [List.getElem?_append_right (by rw [← hl]; omega)] at e2
    have hi0 : i - as.length = 0 := by
      have := (List.getElem?_eq_some_iff.mp e1).1
      simp at this
      omega
    rw [hi0] at e1
    rw [← hl, hi0] at e2
    have a1 : c = d := by simpa using e1
    have a2 : q = q' := by simpa using e2
    subst a1 a2
    exact hc.upd_lst ha
section
variable {P : Program} {w : World} {K : PySem.W.Frag} {mg : Str → Option Value} {base : Heap}
/-! ### _law_case -/
def spCase : Sp := fun vs H Q _ => ∃ (p : Addr), vs = [.ref p, .int 9] ∧ PoolAt H p ∧
  ∀ (H' : Hp) (c : Addr) (m s t : Int) (a : Addr) (ps : List Pr), Kp p H H' → H' c = some (.tup [.int m, .int s, .int t, .ref a]) → PairsAt H' a ps → (∀ q ∈ ps, Val m s t q) → ps.length ≤ 9 → (1 ≤ m ∧ m ≤ 12 ∧ 0 ≤ t ∧ t ≤ 7) → Q (.ref c) H'
abbrev nCase : List Str := ["_law_pool_here", "_law_most", "_law_many", "_law_size", "_law_strangers", "_law_pairs", "_law_turn", "_law_pair_here"]
abbrev psCase : List Str := ["_law_pool_here", "_law_most"]
theorem scCase : FnScope nCase psCase (defScope sCase) := ⟨rfl, rfl, rfl, by decide +kernel, rfl, by decide +kernel, by decide +kernel⟩
theorem ok_case {f fT fP : Addr} {fd fdT fdP : FuncData} (F : FnP K "_law_case" sCase f fd) (bT : Binds K fdT psTake []) (kT : PySem.W.keepIn K (.ref fT) = true) (gT : mg "_law_take" = some (.ref fT))
    (bP : Binds K fdP psLPair []) (kP : PySem.W.keepIn K (.ref fP) = true) (gP : mg "_law_pair" = some (.ref fP)) (B : Bl mg)
    (GT : FnOk P w K mg base CX0 1 fT fdT psTake spTake) (GP : FnOk P w K mg base CX0 3 fP fdP psLPair spLPair) : FnOk P w K mg base CX0 4 f fd psCase spCase := by
  refine F.ok scCase (fun vs H Q E h => ?_) (fun cdv A outer s H vs Q E hr h => ⟨_, PSs.nox (
    pss_cons (ps_set (i := 2) scCase.nd rfl (.inl rfl) (pe_op op_add pe_int (pe_call GT (hr.mono (by decide)) (by rfl) gT kT bT .nil pass0 (pa_cons (pv 0) (pa_cons
      (pe_ix ix_list (pe_lst (pa_cons pe_int (pa_cons pe_int pa_nil))) (pe_op op_fdiv (pe_call GT (hr.mono (by decide)) (by rfl) gT kT bT .nil pass0 (pa_cons (pv 0) (pa_cons pe_int pa_nil))) pe_int) (fun _ _ => rfl)) pa_nil)))))
    (pss_cons (ps_set (i := 3) scCase.nd rfl (.inl rfl) (pe_call GT (hr.mono (by decide)) (by rfl) gT kT bT .nil pass0 (pa_cons (pv 0) (pa_cons
      (pe_op op_add (pe_callB (call_min2 rfl) (by rfl) B.min PyProof.Rows.boot_min (pa_cons (pv 2) (pa_cons
        (pe_ix ix_list (pe_lst (pa_cons pe_int (pa_cons pe_int pa_nil))) (pe_op op_fdiv (pe_call GT (hr.mono (by decide)) (by rfl) gT kT bT .nil pass0 (pa_cons (pv 0) (pa_cons pe_int pa_nil))) pe_int) (fun _ _ => rfl)) pa_nil))) pe_int) pa_nil))))
    (pss_cons (ps_set (i := 4) scCase.nd rfl (.inl rfl) (pe_ix ix_list (pe_lst (pa_cons (pe_call GT (hr.mono (by decide)) (by rfl) gT kT bT .nil pass0 (pa_cons (pv 0) (pa_cons pe_int pa_nil))) (pa_cons (pe_call GT (hr.mono (by decide)) (by rfl) gT kT bT .nil pass0 (pa_cons (pv 0) (pa_cons pe_int pa_nil))) pa_nil)))
      (pe_op op_fdiv (pe_call GT (hr.mono (by decide)) (by rfl) gT kT bT .nil pass0 (pa_cons (pv 0) (pa_cons pe_int pa_nil))) pe_int) (fun _ _ => rfl)))
    (pss_cons (ps_set (i := 5) scCase.nd rfl (.inl rfl) (pe_lst pa_nil))
    (pss_cons (ps_for PassesOwn.never rfl (pi_range1 rfl B.range (pa_cons (pe_call GT (hr.mono (by decide)) (by rfl) gT kT bT .nil pass0 (pa_cons (pv 0) (pa_cons (pe_op op_add (pv 1) pe_int) pa_nil))) pa_nil)) (pg_name (i := 6) scCase.nd rfl (.inl rfl))
      (pss_cons (ps_set (i := 7) scCase.nd rfl (.inl rfl) (pe_call GP hr (by rfl) gP kP bP .nil pass0 (pa_cons (pv 0) (pa_cons (pv 2) (pa_cons (pv 3) (pa_cons (pv 4) pa_nil))))))
      (pss_cons (ps_if (PW.pt (pw_and (pt_cmpR (op_neD hr.units) (pv 5) (pe_lst pa_nil) (nomark _)) (pw_and1 (pt_cmpR op_eq (pe_call GT (hr.mono (by decide)) (by rfl) gT kT bT .nil pass0 (pa_cons (pv 0) (pa_cons pe_int pa_nil))) pe_int (nomark _)))))
        (pss_one (ps_set (i := 7) scCase.nd rfl (.inl rfl) (pe_ix ix_list (pv 5) (pe_call GT (hr.mono (by decide)) (by rfl) gT kT bT .nil pass0 (pa_cons (pv 0) (pa_cons (pe_callB call_len_seq (by rfl) B.len PySem.boot_len (pa_cons (pv 5) pa_nil)) pa_nil))) (fun _ _ => rfl)))) pss_nil)
      (pss_one (ps_expr (pe_bm PySem.F.plainAttrs_list PySem.F.slot_list_append PySem.F.type_list_append mt_append (pv 5) (pa_cons (pv 7) pa_nil)))))))
    (pss_one (ps_ret (pe_tup (pa_cons (pv 2) (pa_cons (pv 3) (pa_cons (pv 4) (pa_cons (pv 5) pa_nil)))))))))))), ?_⟩)
  · obtain ⟨p, rfl, _⟩ := h
    rfl
  · obtain ⟨p, rfl, hp, q⟩ := h
    -- many
    refine ⟨_, rfl, (by show 2 ≤ sizeLine; decide), fun l1 n1 => ?_⟩
    have k1 : Kp p H (upd H l1 (.lst [.int 8, .int 12])) := Kp.of hp (same_upd n1)
    have e1 : (upd H l1 (.lst [.int 8, .int 12])) l1 = some (.lst [.int 8, .int 12]) := upd_same
    have np1 : l1 ≠ p := hp.ne n1
    refine ⟨_, rfl, p, 3, rfl, k1.pool, by omega, by omega, fun r1 H1 a0 a1 k2 => ?_⟩
    have e1' := k2.keep _ _ e1 np1
    obtain ⟨v1, g1, c1⟩ := menu2 (a := .int 8) (b := .int 12) a0 a1
    refine ⟨_, _, rfl, rfl, ⟨by decide, by decide⟩, l1, _, _, v1, rfl, rfl, SqL.of e1', g1, ?_⟩
    obtain ⟨w1, rfl, w10, w11⟩ : ∃ w1 : Int, v1 = .int w1 ∧ 0 < w1 ∧ w1 ≤ 12 := by
      rcases c1 with e | e
      · exact ⟨8, e, by omega, by omega⟩
      · exact ⟨12, e, by omega, by omega⟩
    have k12 := k1.trans k2
    refine ⟨p, w1, rfl, k2.pool, w10, by omega, fun x1 H2 x10 x11 k3 => ⟨_, _, rfl, rfl, ?_⟩⟩
    have k13 := k12.trans k3
    -- size
    refine ⟨_, rfl, _, rfl, (by show 2 ≤ sizeLine; decide), fun l2 n2 => ?_⟩
    have k4 : Kp p H2 (upd H2 l2 (.lst [.int 4, .int 8])) := Kp.of k3.pool (same_upd n2)
    have e2 : (upd H2 l2 (.lst [.int 4, .int 8])) l2 = some (.lst [.int 4, .int 8]) := upd_same
    have np2 : l2 ≠ p := k3.pool.ne n2
    refine ⟨_, rfl, p, 3, rfl, k4.pool, by omega, by omega, fun r2 H3 b0 b1 k5 => ?_⟩
    have e2' := k5.keep _ _ e2 np2
    obtain ⟨v2, g2, c2⟩ := menu2 (a := .int 4) (b := .int 8) b0 b1
    refine ⟨_, _, rfl, rfl, ⟨by decide, by decide⟩, l2, _, _, v2, rfl, rfl, SqL.of e2', g2, ?_⟩
    obtain ⟨w2, rfl, w20, w21⟩ : ∃ w2 : Int, v2 = .int w2 ∧ 0 < w2 ∧ w2 ≤ 8 := by
      rcases c2 with e | e
      · exact ⟨4, e, by omega, by omega⟩
      · exact ⟨8, e, by omega, by omega⟩
    have k15 := (k13.trans k4).trans k5
    refine ⟨_, _, rfl, _, _, rfl, rfl, ?_⟩
    obtain ⟨y, hy, y0, y1⟩ : ∃ y : Int, (if w2 < 1 + x1 then w2 else 1 + x1) = y ∧ 0 < y ∧ y ≤ 1 + x1 := ⟨_, rfl, by split <;> omega, by split <;> omega⟩
    rw [hy]
    refine ⟨p, y + 1, rfl, k5.pool, by omega, by omega, fun x2 H4 x20 x21 k6 => ?_⟩
    have k16 := k15.trans k6
    -- strangers
    refine ⟨_, rfl, p, 5, rfl, k6.pool, by omega, by omega, fun t1 H5 t10 t11 k7 => ?_⟩
    refine ⟨_, rfl, p, 8, rfl, k7.pool, by omega, by omega, fun t2 H6 t20 t21 k8 => ?_⟩
    refine ⟨(by show 2 ≤ sizeLine; decide), fun l3 n3 => ?_⟩
    have k9 : Kp p H6 (upd H6 l3 (.lst [.int t1, .int t2])) := Kp.of k8.pool (same_upd n3)
    have e3 : (upd H6 l3 (.lst [.int t1, .int t2])) l3 = some (.lst [.int t1, .int t2]) := upd_same
    have np3 : l3 ≠ p := k8.pool.ne n3
    refine ⟨_, rfl, p, 3, rfl, k9.pool, by omega, by omega, fun r3 H7 d0 d1 k10 => ?_⟩
    have e3' := k10.keep _ _ e3 np3
    obtain ⟨v3, g3, c3⟩ := menu2 (a := .int t1) (b := .int t2) d0 d1
    refine ⟨_, _, rfl, rfl, ⟨by decide, by decide⟩, l3, _, _, v3, rfl, rfl, SqL.of e3', g3, ?_⟩
    obtain ⟨t, rfl, t0, tt1⟩ : ∃ t : Int, v3 = .int t ∧ 0 ≤ t ∧ t ≤ 7 := by
      rcases c3 with e | e
      · exact ⟨t1, e, by omega, by omega⟩
      · exact ⟨t2, e, by omega, by omega⟩
    have k17 : Kp p H H7 := (((k16.trans k7).trans k8).trans k9).trans k10
    clear k1 k2 k3 k4 k5 k6 k7 k8 k9 k12 k13 k15 k16
    -- pairs = []
    refine ⟨Nat.zero_le _, fun a na => ?_⟩
    have k18 := k17.same (same_upd (o := .lst []) na)
    refine ⟨_, rfl, _, rfl, _, _, rfl, rfl, p, _, rfl, k18.pool, by omega, by omega, fun rn H8 rn0 rn1 k19 => ?_⟩
    have hap : a ≠ p := k17.pool.ne na
    have ha8 : H8 a = some (.lst []) := k19.keep _ _ upd_same hap
    have k20 := k18.trans k19
    refine ⟨_, rfl, by omega, by omega, for_range (lo := 0) (n := rn.toNat) (fun i σ H3 => Kp p H H3 ∧ ∃ (ps : List Pr) (v6 v7 : Option V), σ = [some (.ref p), some (.int 9), some (.int (1 + x1)), some (.int x2), some (.int t), some (.ref a), v6, v7] ∧ PairsAt H3 a ps ∧ (∀ q ∈ ps, Val (1 + x1) x2 t q) ∧ ps.length = i)
      ⟨k20, [], none, none, rfl, ⟨[], ha8, rfl, fun i b q e => by simp at e⟩, fun q hq => (nomatch hq), rfl⟩ ?_ ?_⟩
    · rintro i σ H3 hi ⟨k3, ps, v6, v7, rfl, hP, hv, hl⟩
      refine ⟨_, rfl, _, rfl, _, rfl, _, rfl, p, 1 + x1, x2, t, rfl, k3.pool, by omega, by omega, by omega, by omega, by omega, by omega, fun H4 c pr k4 hc hvc => ?_⟩
      have k04 := k3.trans k4
      have hP4 := hP.kp k3.pool k4
      have fin : ∀ (H5 : Hp) (c' : Addr) (pr' : Pr) (v6 : Option V), Kp p H H5 → PairsAt H5 a ps → PairAt H5 c' pr' → Val (1 + x1) x2 t pr' →
          (tDrop (tBM K "list" rAppend (tVar 5) (tCons (tVar 7) tNil))) { nx := fun σ H3 => Kp p H H3 ∧ ∃ (ps : List Pr) (v6 v7 : Option V), σ = [some (.ref p), some (.int 9), some (.int (1 + x1)), some (.int x2), some (.int t), some (.ref a), v6, v7] ∧ PairsAt H3 a ps ∧ (∀ q ∈ ps, Val (1 + x1) x2 t q) ∧ ps.length = i + 1, rt := Q, bk := fun _ _ => False, ct := fun _ _ => False }
            [some (.ref p), some (.int 9), some (.int (1 + x1)), some (.int x2), some (.int t), some (.ref a), v6, some (.ref c')] H5 := by
        intro H5 c' pr' v6 k5 hP5 hc' hv'
        obtain ⟨as, h1, h2, h3⟩ := hP5.ex
        refine ⟨_, rfl, .inl ⟨rfl, _, SqL.of h1⟩, _, rfl, a, _, _, rfl, rfl, h1, ?_, ?_, ps ++ [pr'], v6, _, rfl, PairsAt.snoc h1 h2 h3 hc', ?_, by simp [hl]⟩
        · rw [List.length_map, h2, hl]
          exact small1000 (by omega)
        · refine ⟨fun b o e ne => ?_, ?_⟩
          · have nb : b ≠ a := fun z => by
              have hn : H a = none := k17.free na
              rw [z, hn] at e
              cases e
            rw [upd_ne nb]
            exact k5.keep b o e ne
          · obtain ⟨x, y, e, r⟩ := k5.pool.ex
            exact ⟨x, y, by rw [upd_ne hap.symm]; exact e, r⟩
        · intro q hq
          rcases List.mem_append.mp hq with hq | hq
          · exact hv q hq
          · simp only [List.mem_singleton] at hq
            subst hq
            exact hv'
      -- if pairs != [] and take(8) == 0
      refine ⟨_, rfl, Nat.zero_le _, fun l nl => ?_⟩
      have s5 := same_upd (o := .lst []) nl
      have k5 := k4.pool.mono s5
      refine ⟨_, _, dp_pairs (hP4.mono s5), .lst (SqL.of upd_same) .nil, shaped_pairs ps, shaped_nil, _, rfl, ?_⟩
      rw [eqv_nil]
      have go := fin _ c pr (some (.int (0 + (i : Int)))) (k04.same s5) (hP4.mono s5) (hc.mono fun _ _ z => s5 _ _ z) hvc
      cases hps : ps with
      | nil =>
        refine iteF ?_
        refine iteF ?_
        exact go
      | cons q0 qs =>
        refine iteT ?_
        have k05 := k04.same s5
        refine ⟨_, rfl, p, 8, rfl, k05.pool, by omega, by omega, fun r H6 r0 r1 k6 => ?_⟩
        have hP6 := (hP4.mono s5).kp k05.pool k6
        have hc6 := (hc.mono fun _ _ z => s5 _ _ z).kp k05.pool k6
        have k06 := k05.trans k6
        refine ⟨rfl, _, rfl, ite2 (fun _ => ?_) (fun _ => ?_)⟩
        · obtain ⟨as, h1, h2, h3⟩ := id hP6.ex
          have hlen : ps.length = i := hl
          have hpos : 0 < ps.length := by
            rw [hps]
            exact Nat.succ_pos _
          refine ⟨_, rfl, _, rfl, _, rfl, a, _, rfl, .inl (SqL.of h1), p, _, rfl, k06.pool, ?_, ?_, fun r' H7 r'0 r'1 k7 => ?_⟩
          · rw [List.length_map]
            omega
          · rw [List.length_map]
            omega
          rw [List.length_map] at r'1
          have hP7 := hP6.kp k06.pool k7
          obtain ⟨as', b, c', d, g0, g1, g2, g3, g4⟩ := pair_of hP7 r'0 (by omega)
          refine ⟨a, _, r', _, rfl, rfl, SqL.of g0, g1, ?_⟩
          exact fin H7 b (sel ps r') _ (k06.trans k7) hP7 ⟨c', d, g2, g3, g4⟩ (hv _ (sel_mem r'0 (by omega)))
        · exact fin H6 c pr _ k06 hP6 hc6 hvc
    · rintro σ H3 ⟨k3, ps, v6, v7, rfl, hP, hv, hl⟩
      refine ⟨_, rfl, _, rfl, _, rfl, _, rfl, (by show 4 ≤ sizeLine; decide), fun c nc => ?_⟩
      have s4 := same_upd (o := .tup [.int (1 + x1), .int x2, .int t, .ref a]) nc
      exact q _ c (1 + x1) x2 t a ps (k3.same s4) upd_same (hP.mono s4) hv (by omega) ⟨by omega, by omega, t0, tt1⟩
end
end Fw
namespace Fw
open PySem PySem.Spec PyProof.Rows L2 Few
theorem PairsAt.copy {H : Hp} {a : Addr} {ps : List Pr} (h : PairsAt H a ps) : ∃ as : List Addr, H a = some (.lst (as.map V.ref)) ∧ as.length = ps.length ∧ ∀ l, H l = none → PairsAt (upd H l (.lst (as.map V.ref))) l ps := by
  obtain ⟨as, h1, h2, h3⟩ := h.ex
  exact ⟨as, h1, h2, fun l nl => ⟨as, upd_same, h2, fun i b p e1 e2 => (h3 i b p e1 e2).mono fun c xs e => same_upd nl _ _ e⟩⟩
theorem PairsAt.snoc' {H : Hp} {a c : Addr} {ps : List Pr} {q : Pr} (h : PairsAt H a ps) (hc : PairAt H c q) : ∃ acc, H a = some (.lst acc) ∧ acc.length = ps.length ∧ PairsAt (upd H a (.lst (acc ++ [.ref c]))) a (ps ++ [q]) := by
  obtain ⟨as, h1, h2, h3⟩ := h.ex
  exact ⟨_, h1, by rw [List.length_map, h2], PairsAt.snoc h1 h2 h3 hc⟩
/-- a comprehension that takes pairs by the numbers of a list -/
theorem pick_tlc {K : PySem.W.Frag} {te : TE} {σ : L2.St} {H : Hp} {c : Addr} {is : List Int} {Q : VK} {n ii : Nat} {vs : List Nat} (hi : σ[ii]? = some (some (.ref c))) (hvs : vs = [n]) (hc : H c = some (.lst (iv is))) (hlen : is.length ≤ 1000) (f : Int → Pr)
    (hw : ∀ v, wipe ((wipe σ [n]).set n (some v)) [n] = wipe σ [n])
    (hte : ∀ k ∈ is, ∀ (H2 : Hp) (Q' : VK), Same H H2 → (∀ b, PairAt H2 b (f k) → Q' (.ref b) H2) → te ((wipe σ [n]).set n (some (.int k))) H2 Q')
    (hQ : ∀ (H' : Hp) (D : Addr), Same H H' → H D = none → PairsAt H' D (is.map f) → Q (.ref D) H') : tLc (iList K (tVar ii)) (gName n) tYes te vs σ H Q := by
  subst hvs
  refine ⟨_, hi, c, rfl, ⟨_, SqL.of hc⟩, fun D nD => ?_⟩
  refine lc_list (K := K) (a := c) (xs := iv is) (fun i H3 => Same H H3 ∧ PairsAt H3 D ((is.take i).map f)) ⟨same_upd nD, ⟨[], upd_same, rfl, fun i b p e => by simp at e⟩⟩ (fun i H3 _ e => e.1.seq (SqL.of hc)) ?_ ?_
  · rintro i x H3 hi ⟨s3, hP⟩
    obtain ⟨k, hk, rfl⟩ := item_int hi
    refine ⟨hw _, yes_ok ?_⟩
    refine iteT ?_
    refine hte k (List.mem_of_getElem? hk) H3 _ s3 fun b hb => ?_
    obtain ⟨acc, h1, h2, h3⟩ := hP.snoc' hb
    refine ⟨acc, h1, ?_, fun e o he => ?_, ?_⟩
    · rw [h2, List.length_map, List.length_take]
      exact small1000 (by omega)
    · rw [upd_ne (ne_of_none he nD)]
      exact s3 _ _ he
    · rw [take_at hk, List.map_append]
      exact h3
  · rintro H3 ⟨s3, hP⟩
    rw [iv_len, List.take_length] at hP
    exact hQ H3 D s3 nD hP
theorem called_up {m : Int} {nm xs ys : List Int} (hn : nm.Perm (upTo m)) (hx : Up m xs) (hy : ys.Perm (xs.map (at' nm))) (hs : ys.Pairwise (· ≤ ·)) : Up m ys ∧ ys.length = xs.length := by
  have hl : (nm.length : Int) = (m.toNat : Int) := by rw [hn.length_eq, ints_len]
  have hnd : nm.Nodup := hn.nodup_iff.mpr (ints_nodup m)
  have hnx : (xs.map (at' nm)).Nodup := by
    show List.Pairwise _ _
    rw [List.pairwise_map]
    refine hx.nodup.imp_of_mem fun {x y} h1 h2 ne e => ne ?_
    have a1 := hx.2 x h1
    have a2 := hx.2 y h2
    exact at_inj hnd a1.1 (by omega) a2.1 (by omega) e
  refine ⟨⟨rising_strict hs (hy.nodup_iff.mpr hnx), fun z hz => ?_⟩, by rw [hy.length_eq, List.length_map]⟩
  obtain ⟨x, hx1, rfl⟩ := List.mem_map.mp (hy.mem_iff.mp hz)
  have a1 := hx.2 x hx1
  exact mem_ints.mp (hn.mem_iff.mp (at_mem a1.1 (by omega)))
theorem count_len {m : Int} {xs : List Int} (h : Up m xs) : xs.length ≤ m.toNat := by
  have nd := h.nodup
  have key : ∀ (n : Nat) (l : List Int), l.Nodup → (∀ k ∈ l, 0 ≤ k ∧ k < (n : Int)) → l.length ≤ n := by
    intro n
    induction n with
    | zero =>
      intro l _ hl
      cases l with
      | nil => exact Nat.le_refl _
      | cons x r =>
        have := hl x (by simp)
        omega
    | succ n ih =>
      intro l nd hl
      have h1 := ih (l.erase (n : Int)) (nd.erase _) fun k hk => by
        have h2 := hl k (List.mem_of_mem_erase hk)
        have h3 : k ≠ (n : Int) := fun z => by
          rw [z] at hk
          exact (List.Nodup.not_mem_erase nd) hk
        omega
      rw [List.length_erase] at h1
      split at h1 <;> omega
  exact key _ _ nd fun k hk => by
    have := h.2 k hk
    omega
theorem sel_at {ps : List Pr} {i : Nat} {p : Pr} (h : ps[i]? = some p) : sel ps (i : Int) = p := by
  unfold sel
  rw [List.getD_eq_getElem?_getD, show ((i : Int)).toNat = i by omega, h]
  rfl
section
variable {P : Program} {w : World} {K : PySem.W.Frag} {mg : Str → Option Value} {base : Heap}
/-! ### _law_right -/
def spRight : Sp := fun vs H Q _ => ∃ (p : Addr), vs = [.ref p] ∧ PoolAt H p ∧ ∀ (H' : Hp), Kp p H H' → Q (.bl true) H'
abbrev nRight : List Str := ["_law_pool_here", "_law_many", "_law_size", "_law_strangers", "_law_pairs", "_law_found", "_law_names", "_law_order", "_law_other", "_law_called_here", "_law_some_here", "_law_more", "_law_one", "_law_number", "_law_pair_here"]
abbrev psRight : List Str := ["_law_pool_here"]
abbrev psLongest : List Str := ["many", "size", "strangers", "pairs"]
theorem scRight : FnScope nRight psRight (defScope sRight) := ⟨rfl, rfl, rfl, by decide +kernel, rfl, by decide +kernel, by decide +kernel⟩
set_option maxHeartbeats 4000000 in
theorem ok_right {f fC fL fS fD fR fT : Addr} {fd fdC fdL fdS fdD fdR fdT : FuncData} (F : FnP K "_law_right" sRight f fd)
    (bC : Binds K fdC psCase []) (kC : PySem.W.keepIn K (.ref fC) = true) (gC : mg "_law_case" = some (.ref fC))
    (bL : Binds K fdL psLongest []) (kL : PySem.W.keepIn K (.ref fL) = true) (gL : mg "longest_row" = some (.ref fL))
    (bS : Binds K fdS psShuf []) (kS : PySem.W.keepIn K (.ref fS) = true) (gS : mg "_law_shuffled" = some (.ref fS))
    (bD : Binds K fdD psCalled []) (kD : PySem.W.keepIn K (.ref fD) = true) (gD : mg "_law_called" = some (.ref fD))
    (bR : Binds K fdR ps4 []) (kR : PySem.W.keepIn K (.ref fR) = true) (gR : mg "is_row" = some (.ref fR))
    (bT : Binds K fdT psTake []) (kT : PySem.W.keepIn K (.ref fT) = true) (gT : mg "_law_take" = some (.ref fT)) (B : Bl mg)
    (GC : FnOk P w K mg base CX0 4 fC fdC psCase spCase) (GL : FnOk P w K mg base CX0 7 fL fdL psLongest spLongest) (GS : FnOk P w K mg base CX0 2 fS fdS psShuf spShuf)
    (GD : FnOk P w K mg base CX0 1 fD fdD psCalled spCalled) (GR : FnOk P w K mg base CX0 6 fR fdR ps4 spRow) (GT : FnOk P w K mg base CX0 1 fT fdT psTake spTake) : FnOk P w K mg base CX0 8 f fd psRight spRight := by
  refine F.ok scRight (fun vs H Q E h => ?_) (fun cdv A outer s H vs Q E hr h => ⟨_, PSs.nox (
    pss_cons (ps_asg (pe_call GC (hr.mono (by decide)) (by rfl) gC kC bC .nil pass0 (pa_cons (pv 0) (pa_cons pe_int pa_nil)))
      (pg_tup rfl (pgs_cons (pg_name (i := 1) scRight.nd rfl (.inl rfl)) (pgs_cons (pg_name (i := 2) scRight.nd rfl (.inl rfl)) (pgs_cons (pg_name (i := 3) scRight.nd rfl (.inl rfl)) (pgs_cons (pg_name (i := 4) scRight.nd rfl (.inr rfl)) pgs_nil))))))
    (pss_cons (ps_set (i := 5) scRight.nd rfl (.inl rfl) (pe_call GL hr (by rfl) gL kL bL .nil pass0 (pa_cons (pv 1) (pa_cons (pv 2) (pa_cons (pv 3) (pa_cons (pe_callTy call_list_of (by rfl) B.list PyProof.Rows.boot_list (pa_cons (pv 4) pa_nil)) pa_nil))))))
    (pss_cons (ps_set (i := 6) scRight.nd rfl (.inr rfl) (pe_call GS (hr.mono (by decide)) (by rfl) gS kS bS .nil pass0 (pa_cons (pv 0) (pa_cons (pe_listRg rfl (by rfl) B.list (prg_1 (by rfl) B.range (pv 1))) pa_nil))))
    (pss_cons (ps_set (i := 7) scRight.nd rfl (.inr rfl) (pe_call GS (hr.mono (by decide)) (by rfl) gS kS bS .nil pass0 (pa_cons (pv 0) (pa_cons (pe_listRg rfl (by rfl) B.list (prg_1 (by rfl) B.range (pe_callB call_len_seq (by rfl) B.len PySem.boot_len (pa_cons (pv 4) pa_nil)))) pa_nil))))
    (pss_cons (ps_set (i := 9) scRight.nd rfl (.inr rfl) (pe_lc (own := [("_law_one", 12), ("_law_other", 8)]) (g := gTup K 2 (gCons (gName 12) (gCons (gName 8) gNil))) (tt := tYes) rfl scRight.nd (pi_list (pv 4))
        (blkOk_by (own := [("_law_one", 12), ("_law_other", 8)]) (N := nRight) (sc := defScope sRight) (by decide +kernel))
        (fun _ _ _ _ _ => pg_tup rfl (pgs_cons (pg_name (i := 12) scRight.nd rfl (.inl rfl)) (pgs_cons (pg_name (i := 8) scRight.nd rfl (.inl rfl)) pgs_nil))) (fun _ _ _ _ _ => pts_nil)
        (fun _ _ _ _ _ => pe_tup (pa_cons (pe_call GD (hr.mono (by decide)) (by rfl) gD kD bD .nil pass0 (pa_cons (pv 6) (pa_cons (pv 12) pa_nil))) (pa_cons (pe_call GD (hr.mono (by decide)) (by rfl) gD kD bD .nil pass0 (pa_cons (pv 6) (pa_cons (pv 8) pa_nil))) pa_nil)))))
    (pss_cons (ps_set (i := 8) scRight.nd rfl (.inl rfl) (pe_call GL hr (by rfl) gL kL bL .nil pass0 (pa_cons (pv 1) (pa_cons (pv 2) (pa_cons (pv 3) (pa_cons
        (pe_lc (own := [("_law_number", 13)]) (g := gName 13) (tt := tYes) (te := tOp (rIxL K) (tVar 9) (tVar 13)) rfl scRight.nd (pi_list (pv 7)) (blkOk_by (own := [("_law_number", 13)]) (N := nRight) (sc := defScope sRight) (by decide +kernel))
          (fun _ _ _ _ _ => pg_name (i := 13) scRight.nd rfl (.inl rfl)) (fun _ _ _ _ _ => pts_nil) (fun _ _ _ _ _ => pe_ix ix_list (pv 9) (pv 13) (fun _ _ => rfl))) pa_nil))))))
    (pss_cons (ps_if (pt_cmpR op_ne (pe_callB call_len_seq (by rfl) B.len PySem.boot_len (pa_cons (pv 8) pa_nil)) (pe_callB call_len_seq (by rfl) B.len PySem.boot_len (pa_cons (pv 5) pa_nil)) (nomark _)) (pss_one (ps_ret pe_bl)) pss_nil)
    (pss_cons (ps_if (pt_not (pt_val (pe_call GR (hr.mono (by decide)) (by rfl) gR kR bR .nil pass0 (pa_cons (pv 1) (pa_cons (pv 2) (pa_cons (pv 3) (pa_cons
        (pe_lc (own := [("_law_number", 13)]) (g := gName 13) (tt := tYes) (te := tOp (rIxL K) (tVar 9) (tVar 13)) rfl scRight.nd (pi_list (pv 5)) (blkOk_by (own := [("_law_number", 13)]) (N := nRight) (sc := defScope sRight) (by decide +kernel))
          (fun _ _ _ _ _ => pg_name (i := 13) scRight.nd rfl (.inl rfl)) (fun _ _ _ _ _ => pts_nil) (fun _ _ _ _ _ => pe_ix ix_list (pv 9) (pv 13) (fun _ _ => rfl))) pa_nil))))))) (pss_one (ps_ret pe_bl)) pss_nil)
    (pss_cons (ps_if (pt_not (pt_val (pe_call GR (hr.mono (by decide)) (by rfl) gR kR bR .nil pass0 (pa_cons (pv 1) (pa_cons (pv 2) (pa_cons (pv 3) (pa_cons
        (pe_lc (own := [("_law_number", 13)]) (g := gName 13) (tt := tYes) (te := tOp (rIxL K) (tVar 4) (tOp (rIxL K) (tVar 7) (tVar 13))) rfl scRight.nd (pi_list (pv 8)) (blkOk_by (own := [("_law_number", 13)]) (N := nRight) (sc := defScope sRight) (by decide +kernel))
          (fun _ _ _ _ _ => pg_name (i := 13) scRight.nd rfl (.inl rfl)) (fun _ _ _ _ _ => pts_nil) (fun _ _ _ _ _ => pe_ix ix_list (pv 4) (pe_ix (r := rIxL K) ix_list (pv 7) (pv 13) (fun _ _ => rfl)) (fun _ _ => rfl))) pa_nil))))))) (pss_one (ps_ret pe_bl)) pss_nil)
    (pss_cons (ps_setLc (i := 10) (own := [("_law_pair_here", 14)]) (g := gName 14) (te := tVar 14) rfl scRight.nd rfl rfl (sw_true rfl rfl rfl (by decide +kernel)) (pi_list (pv 4)) (blkOk_by (own := [("_law_pair_here", 14)]) (N := nRight) (sc := defScope sRight) (by decide +kernel))
        (fun _ _ _ _ _ => pg_name (i := 14) scRight.nd rfl (.inl rfl)) (fun _ _ _ _ _ => pts_one (pt_cmpR op_gt (pe_call GT (hr.mono (by decide)) (by rfl) gT kT bT .nil pass0 (pa_cons (pv 0) (pa_cons pe_int pa_nil))) pe_int (nomark _))) (fun _ _ _ _ _ => pv 14))
    (pss_cons (ps_if (pt_cmpR op_gt (pe_callB call_len_seq (by rfl) B.len PySem.boot_len (pa_cons (pe_call GL hr (by rfl) gL kL bL .nil pass0 (pa_cons (pv 1) (pa_cons (pv 2) (pa_cons (pv 3) (pa_cons (pv 10) pa_nil))))) pa_nil)) (pe_callB call_len_seq (by rfl) B.len PySem.boot_len (pa_cons (pv 5) pa_nil)) (nomark _)) (pss_one (ps_ret pe_bl)) pss_nil)
    (pss_cons (ps_set (i := 11) scRight.nd rfl (.inl rfl) (pe_callB call_len_seq (by rfl) B.len PySem.boot_len (pa_cons (pe_call GL hr (by rfl) gL kL bL .nil pass0 (pa_cons (pv 1) (pa_cons (pv 2) (pa_cons (pe_op op_add (pv 3) pe_int) (pa_cons (pe_callTy call_list_of (by rfl) B.list PyProof.Rows.boot_list (pa_cons (pv 4) pa_nil)) pa_nil))))) pa_nil)))
    (pss_one (ps_ret (pe_and (pe_cmpR op_eq (pv 11) (pe_callB call_len_seq (by rfl) B.len PySem.boot_len (pa_cons (pv 5) pa_nil)) (nomark _))
      (pe_one (pe_cmpR op_eq (pe_callB call_len_seq (by rfl) B.len PySem.boot_len (pa_cons (pe_call GL hr (by rfl) gL kL bL .nil pass0 (pa_cons (pe_op op_add (pv 1) pe_int) (pa_cons (pv 2) (pa_cons (pv 3) (pa_cons (pe_callTy call_list_of (by rfl) B.list PyProof.Rows.boot_list (pa_cons (pv 4) pa_nil)) pa_nil))))) pa_nil)) (pv 11) (nomark _)))))))))))))))))), ?_⟩)
  · obtain ⟨p, rfl, _⟩ := h
    rfl
  · obtain ⟨p, rfl, hp, q⟩ := h
    refine ⟨_, rfl, p, rfl, hp, fun H1 c m s t a ps k1 hc hP hv h9 hb => ?_⟩
    refine ⟨c, _, rfl, SqT.of hc, rfl, _, _, rfl, _, _, rfl, _, _, rfl, _, _, rfl, rfl, ?_⟩
    obtain ⟨as, ha, hal, hcp⟩ := hP.copy
    -- found
    refine ⟨_, rfl, _, rfl, _, rfl, _, rfl, a, _, rfl, .inl (SqL.of ha), fun l nl => ?_⟩
    refine ⟨m, s, t, l, ps, rfl, hcp l nl, hv, h9, fun H2 f r s2 nf hf bf => ?_⟩
    have s12 : Same H1 H2 := (same_upd nl).trans s2
    have k2 : Kp p H H2 := k1.same s12
    have hfp : f ≠ p := (k1.same (same_upd nl)).pool.ne nf
    have hP2 := hP.mono s12
    -- names
    refine ⟨_, rfl, _, rfl, m, rfl, RgOk.of_le (by omega) (by omega) (by omega) (by omega), fun l2 n2 => ?_⟩
    have s2' := same_upd (o := .lst (rgV 0 m)) n2
    have k2' := k2.same s2'
    refine ⟨p, l2, upTo m, rfl, k2'.pool, by rw [upd_same, rgV_ints], k2.pool.ne n2, by rw [ints_len]; omega, fun H3 b nm k3 nb hb3 hnm => ?_⟩
    have hbp : b ≠ p := k2'.pool.ne nb
    have k03 := k2'.trans k3
    have hP3 := (hP2.mono s2').kp k2'.pool k3
    have hf3 : H3 f = some (.lst (iv r)) := k3.keep _ _ (s2' _ _ hf) hfp
    -- order
    obtain ⟨as3, ha3, hal3, _⟩ := hP3.copy
    refine ⟨_, rfl, _, rfl, a, _, rfl, .inl (SqL.of ha3), _, rfl, ?_⟩
    rw [List.length_map, hal3]
    refine ⟨RgOk.of_le (by omega) (by omega) (by omega) (by omega), fun l3 n3 => ?_⟩
    have s3' := same_upd (o := .lst (rgV 0 (ps.length : Int))) n3
    have k3' := k03.same s3'
    refine ⟨p, l3, upTo (ps.length : Int), rfl, k3'.pool, by rw [upd_same, rgV_ints], k03.pool.ne n3, by rw [ints_len]; omega, fun H4 c2 od k4 nc2 hc2 hod => ?_⟩
    have hcp2 : c2 ≠ p := k3'.pool.ne nc2
    have k04 := k3'.trans k4
    have hP4 := (hP3.mono s3').kp k3'.pool k4
    have hf4 : H4 f = some (.lst (iv r)) := k4.keep _ _ (s3' _ _ hf3) hfp
    have hb4 : H4 b = some (.lst (iv nm)) := k4.keep _ _ (s3' _ _ hb3) hbp
    -- the names' and the order's mathematics
    have hnml : (nm.length : Int) = m := by
      rw [hnm.length_eq, ints_len]
      omega
    have hnmd : nm.Nodup := hnm.nodup_iff.mpr (ints_nodup m)
    have inj := names_inj hnmd hnml
    have hodd : od.Nodup := hod.nodup_iff.mpr (ints_nodup _)
    have hodl : od.length = ps.length := by
      rw [hod.length_eq, ints_len]
      omega
    have hodb : ∀ k ∈ od, 0 ≤ k ∧ k < (ps.length : Int) := fun k hk => mem_ints.mp (hod.mem_iff.mp hk)
    have hoda : ∀ k : Int, 0 ≤ k → k < (ps.length : Int) → k ∈ od := fun k h0 h1 => hod.mem_iff.mpr (mem_ints.mpr ⟨h0, h1⟩)
    -- called_here
    obtain ⟨as4, ha4, hal4, _⟩ := id hP4.ex
    refine ⟨_, rfl, a, rfl, ⟨_, SqL.of ha4⟩, fun D nD => ?_⟩
    refine lc_list (K := K) (a := a) (xs := as4.map V.ref) (fun i H' => Same H4 H' ∧ ∃ qs : List Pr, PairsAt H' D qs ∧ qs.length = i ∧ ∀ (j : Nat) (p1 q1 : Pr), ps[j]? = some p1 → qs[j]? = some q1 → Called m (at' nm) p1 q1 ∧ Val m s t q1)
      ⟨same_upd nD, [], ⟨[], upd_same, rfl, fun i b p e => by simp at e⟩, rfl, fun j p1 q1 _ e => by simp at e⟩ (fun i H' _ e => e.1.seq (SqL.of ha4)) ?_ ?_
    · rintro i x H' hi ⟨s', qs, hQ, hql, hqc⟩
      obtain ⟨e, he, rfl⟩ := refs_at hi
      obtain ⟨pi, hpi⟩ := at_len hal4 he
      have vpi := hv pi (List.mem_of_getElem? hpi)
      obtain ⟨as', g0, g1, g2⟩ := (hP4.mono s').ex
      have eas : as' = as4 := by
        have z := s' _ _ ha4
        rw [g0] at z
        injection z with z
        injection z with z
        exact (List.map_inj_right (f := V.ref) fun x y e => by injection e).mp z
      subst eas
      obtain ⟨c3, d3, f0, f1, f2⟩ := (g2 i e pi he hpi).ex
      refine ⟨e, _, rfl, SqT.of f0, rfl, _, _, rfl, _, _, rfl, rfl, ?_⟩
      refine ⟨rfl, yes_ok ?_⟩
      refine iteT ?_
      have hlen1 : pi.1.length ≤ 60 := by
        have := vpi.len
        have h3 : ∀ x ∈ pi.1, x ∈ upTo m := fun x hx => mem_ints.mpr (vpi.one.2 x hx)
        have h4 := count_len vpi.one
        omega
      have hlen2 : pi.2.length ≤ 60 := by
        have := vpi.most
        omega
      refine ⟨_, rfl, _, rfl, b, c3, nm, pi.1, rfl, s' _ _ hb4, f1, (fun x hx => by have := vpi.one.2 x hx; omega), hlen1, fun Ha y1 ys1 sa hy1 hp1 hs1 => ?_⟩
      refine ⟨_, rfl, _, rfl, b, d3, nm, pi.2, rfl, sa _ _ (s' _ _ hb4), sa _ _ f2, (fun x hx => by have := vpi.two.2 x hx; omega), hlen2, fun Hb y2 ys2 sb hy2 hp2 hs2 => ?_⟩
      refine ⟨(by show 2 ≤ sizeLine; decide), fun d nd => ?_⟩
      have sc' := same_upd (o := .tup [.ref y1, .ref y2]) nd
      have hQc := hQ.mono ((sa.trans sb).trans sc')
      obtain ⟨acc, a1, a2, a3⟩ := hQc.snoc' (c := d) (q := (ys1, ys2)) ⟨y1, y2, upd_same, sc' _ _ (sb _ _ hy1), sc' _ _ hy2⟩
      obtain ⟨u1, l1⟩ := called_up hnm vpi.one hp1 hs1
      obtain ⟨u2, l2'⟩ := called_up hnm vpi.two hp2 hs2
      refine ⟨acc, a1, ?_, fun b' o' e' => ?_, qs ++ [(ys1, ys2)], a3, by simp [hql], fun j p1 q1 e1 e2 => ?_⟩
      · have : i < ps.length := (List.getElem?_eq_some_iff.mp hpi).1
        rw [a2, hql]
        exact small1000 (by omega)
      · rw [upd_ne (ne_of_none e' nD)]
        exact ((sa.trans sb).trans sc') _ _ (s' _ _ e')
      · by_cases hj : j < qs.length
        · rw [List.getElem?_append_left hj] at e2
          exact hqc j p1 q1 e1 e2
        · rw [List.getElem?_append_right (by omega)] at e2
          have hj0 : j - qs.length = 0 := by
            have := (List.getElem?_eq_some_iff.mp e2).1
            simp at this
            omega
          rw [hj0] at e2
          have z2 : (ys1, ys2) = q1 := by simpa using e2
          have z3 : j = i := by omega
          rw [z3, hpi] at e1
          have z1 : pi = p1 := by simpa using e1
          subst z1 z2
          exact ⟨⟨hp1, hp2, vpi.one.2, vpi.two.2⟩, ⟨u1, by rw [l1]; exact vpi.len, u2, by rw [l2']; exact vpi.most⟩⟩
    rintro H5 ⟨s5, qs, hQ, hql, hqc⟩
    rw [List.length_map, hal4] at hql
    have hcal : ∀ i : Int, 0 ≤ i → i < (ps.length : Int) → Called m (at' nm) (sel ps i) (sel qs i) := fun i h0 h1 => (hqc i.toNat _ _ (sel_get h0 h1) (sel_get h0 (by omega))).1
    have hval : ∀ i : Int, 0 ≤ i → i < (ps.length : Int) → Val m s t (sel qs i) := fun i h0 h1 => (hqc i.toNat _ _ (sel_get h0 h1) (sel_get h0 (by omega))).2
    have L : Led ps (od.map (sel qs)) od := led_called inj hcal hodd hodb
    -- other
    refine ⟨_, rfl, _, rfl, _, rfl, ?_⟩
    refine pick_tlc rfl rfl (s5 _ _ hc2) (by omega) (sel qs) (fun v => rfl) ?_ ?_
    · intro k hk H' Q' s' hq
      obtain ⟨as', b', c', d', g0, g1, g2, g3, g4⟩ := pair_of (hQ.mono s') (hodb k hk).1 (by rw [hql]; exact (hodb k hk).2)
      exact ⟨_, rfl, _, rfl, D, _, k, _, rfl, rfl, SqL.of g0, g1, hq b' ⟨c', d', g2, g3, g4⟩⟩
    intro H6 D2 s6 nD2 hP6
    refine ⟨m, s, t, D2, od.map (sel qs), rfl, hP6, (fun q hq => ?_), by rw [List.length_map]; omega, fun H7 o ro s7 no ho bo => ?_⟩
    · obtain ⟨k, hk, rfl⟩ := List.mem_map.mp hq
      exact hval k (hodb k hk).1 (hodb k hk).2
    have hro : ro.length = r.length := L.same hoda bf bo
    have s57 := s6.trans s7
    have s47 := s5.trans s57
    have hf7 : H7 f = some (.lst (iv r)) := s47 _ _ hf4
    -- if len(other) != len(found)
    refine ⟨_, rfl, o, _, rfl, .inl (SqL.of ho), _, rfl, f, _, rfl, .inl (SqL.of hf7), rfl, _, rfl, ?_⟩
    rw [iv_len, iv_len, hro]
    refine iteNS rfl ?_
    -- is_row of the one, called otherwise
    have hrb := bf.row.inb
    have hrl := bf.row.len
    refine ⟨_, rfl, _, rfl, _, rfl, ?_⟩
    refine pick_tlc rfl rfl hf7 (by omega) (sel qs) (fun v => rfl) ?_ ?_
    · intro k hk H' Q' s' hq
      obtain ⟨as', b', c', d', g0, g1, g2, g3, g4⟩ := pair_of ((hQ.mono s57).mono s') (hrb k hk).1 (by rw [hql]; exact (hrb k hk).2)
      exact ⟨_, rfl, _, rfl, D, _, k, _, rfl, rfl, SqL.of g0, g1, hq b' ⟨c', d', g2, g3, g4⟩⟩
    intro H8 D3 s8 nD3 hP8
    refine ⟨m, s, t, D3, r.map (sel qs), rfl, hP8, (fun q hq => ?_), good_called inj hcal bf.row, by rw [List.length_map]; omega, fun H9 s9 => ⟨_, rfl, iteF ?_⟩⟩
    · obtain ⟨k, hk, rfl⟩ := List.mem_map.mp hq
      exact hval k (hrb k hk).1 (hrb k hk).2
    have s79 := s8.trans s9
    have ho9 := s79 _ _ ho
    have s49 := s47.trans s79
    have hP9 := hP4.mono s49
    have hc9 : H9 c2 = some (.lst (iv od)) := s49 _ _ hc2
    have hrowo := L.to bo.row
    have hob : ∀ k ∈ ro, 0 ≤ k ∧ k < (od.length : Int) := fun k hk => by
      have := bo.row.inb k hk
      rw [List.length_map] at this
      exact this
    -- is_row of the other, led back
    refine ⟨_, rfl, _, rfl, _, rfl, ?_⟩
    refine pick_tlc rfl rfl ho9 (by omega) (fun k => sel ps (at' od k)) (fun v => rfl) ?_ ?_
    · intro k hk H' Q' s' hq
      have bk := hob k hk
      have be := hodb _ (at_mem bk.1 bk.2)
      have e1 := atI_nat (iv_get (at_get bk.1 bk.2))
      rw [show ((k.toNat : Nat) : Int) = k by omega] at e1
      obtain ⟨as', b', c', d', g0, g1, g2, g3, g4⟩ := pair_of (hP9.mono s') be.1 be.2
      exact ⟨_, rfl, _, rfl, _, rfl, c2, _, k, _, rfl, rfl, SqL.of (s' _ _ hc9), e1, a, _, at' od k, _, rfl, rfl, SqL.of g0, g1, hq b' ⟨c', d', g2, g3, g4⟩⟩
    intro H10 D4 s10 nD4 hP10
    have hgood : Good (ro.map fun k => sel ps (at' od k)) := by
      have := good_of hrowo
      rw [List.map_map] at this
      exact this
    refine ⟨m, s, t, D4, _, rfl, hP10, (fun q hq => ?_), hgood, by rw [List.length_map]; omega, fun H11 s11 => ⟨_, rfl, iteF ?_⟩⟩
    · obtain ⟨k, hk, rfl⟩ := List.mem_map.mp hq
      have bk := hob k hk
      have be := hodb _ (at_mem bk.1 bk.2)
      exact hv _ (sel_mem be.1 be.2)
    have s4e := s49.trans (s10.trans s11)
    have hPe := hP4.mono s4e
    have hfe : H11 f = some (.lst (iv r)) := s4e _ _ hf4
    have ke : Kp p H H11 := k04.same s4e
    clear s4e s10 s11 hP10 s49 s79 hP9 hc9 ho9 s8 s9 hP8 s57 s47 hf7 s6 s7 ho hP6
    -- some_here
    obtain ⟨as5, hae, hael, hcpe⟩ := hPe.copy
    have hap : a ≠ p := hPe.ne ke.pool
    refine ⟨_, rfl, a, rfl, ⟨_, SqL.of hae⟩, fun D5 nD5 => ?_⟩
    have hD5p : D5 ≠ p := ke.pool.ne nD5
    refine lc_list (K := K) (a := a) (xs := as5.map V.ref) (fun i H' => Kp p H11 H' ∧ ∃ qs2 : List Pr, PairsAt H' D5 qs2 ∧ qs2.Sublist (ps.take i))
      ⟨Kp.of ke.pool (same_upd nD5), [], ⟨[], upd_same, rfl, fun i b p e => by simp at e⟩, List.nil_sublist _⟩ (fun i H' _ e => SqL.of (e.1.keep _ _ hae hap)) ?_ ?_
    · rintro i x H' hi ⟨k', qs2, hQ2, hsub⟩
      obtain ⟨e, he, rfl⟩ := refs_at hi
      obtain ⟨pi, hpi⟩ := at_len hael he
      have hPi := hPe.kp ke.pool k'
      have hpe : PairAt H' e pi := by
        obtain ⟨as', g0, g1, g2⟩ := hPi.ex
        have eas : as' = as5 := by
          have z := k'.keep _ _ hae hap
          rw [g0] at z
          injection z with z
          injection z with z
          exact (List.map_inj_right (f := V.ref) fun x y e => by injection e).mp z
        subst eas
        exact g2 i e pi he hpi
      have hql2 : qs2.length ≤ 9 := by
        have h1 := hsub.length_le
        rw [List.length_take] at h1
        omega
      refine ⟨rfl, ?_⟩
      refine ⟨_, rfl, p, 3, rfl, k'.pool, by omega, by omega, fun rr H'' _ _ k'' => ?_⟩
      have kk := k'.trans k''
      refine ⟨_, _, rfl, rfl, _, rfl, ite2 (fun _ => ?_) (fun _ => ?_)⟩
      · obtain ⟨acc, a1, a2, a3⟩ := (hQ2.kp k'.pool k'').snoc' (hpe.kp k'.pool k'')
        refine ⟨_, rfl, acc, a1, ?_, ⟨fun b' o' e' ne => ?_, ?_⟩, qs2 ++ [pi], a3, ?_⟩
        · rw [a2]
          exact small1000 (by omega)
        · rw [upd_ne (ne_of_none e' nD5)]
          exact kk.keep b' o' e' ne
        · obtain ⟨x, y, e, r⟩ := kk.pool.ex
          exact ⟨x, y, by rw [upd_ne hD5p.symm]; exact e, r⟩
        · rw [take_at hpi]
          exact hsub.append (List.Sublist.refl _)
      · refine ⟨kk, qs2, hQ2.kp k'.pool k'', ?_⟩
        rw [take_at hpi]
        exact hsub.trans (List.sublist_append_left _ _)
    rintro H12 ⟨k12, qs2, hQ2, hsub⟩
    rw [List.length_map, hael, List.take_length] at hsub
    have ke2 := ke.trans k12
    have hf12 : H12 f = some (.lst (iv r)) := k12.keep _ _ hfe hfp
    have hP12 := hPe.kp ke.pool k12
    -- len(longest_row(.., some)) > len(found)
    refine ⟨_, rfl, _, rfl, _, rfl, _, rfl, m, s, t, D5, qs2, rfl, hQ2, (fun q hq => hv q (hsub.subset hq)), (by have := hsub.length_le; omega), fun H13 o2 r2 s13 _ ho2 b2 => ?_⟩
    obtain ⟨is2, L2⟩ := led_sub hsub
    have hle := L2.le bf b2
    have hf13 := s13 _ _ hf12
    refine ⟨o2, _, rfl, .inl (SqL.of ho2), _, rfl, f, _, rfl, .inl (SqL.of hf13), _, _, rfl, rfl, _, rfl, ?_⟩
    rw [iv_len, iv_len, decide_eq_false (show ¬ ((r.length : Int) < (r2.length : Int)) by omega)]
    refine iteF ?_
    -- more
    have hP13 := hP12.mono s13
    obtain ⟨as6, ha6, _, hcp6⟩ := hP13.copy
    refine ⟨_, rfl, _, rfl, _, rfl, _, _, rfl, rfl, _, rfl, a, _, rfl, .inl (SqL.of ha6), fun l4 n4 => ?_⟩
    refine ⟨m, s, t + 1, l4, ps, rfl, hcp6 l4 n4, (fun q hq => ⟨(hv q hq).one, (hv q hq).len, (hv q hq).two, by have := (hv q hq).most; omega⟩), h9, fun H14 o3 r3 s14 _ ho3 b3 => ?_⟩
    have e3 := best_same bf b3
    have s134 := (same_upd n4).trans s14
    have hf14 := s134 _ _ hf13
    refine ⟨o3, _, rfl, .inl (SqL.of ho3), ?_⟩
    rw [iv_len, e3]
    refine ⟨_, rfl, _, rfl, f, _, rfl, .inl (SqL.of hf14), rfl, _, rfl, ?_⟩
    rw [iv_len, decide_eq_true rfl]
    refine iteT ?_
    have hP14 := hP13.mono s134
    obtain ⟨as7, ha7, _, hcp7⟩ := hP14.copy
    refine ⟨_, rfl, _, _, rfl, rfl, _, rfl, _, rfl, _, rfl, a, _, rfl, .inl (SqL.of ha7), fun l5 n5 => ?_⟩
    refine ⟨m + 1, s, t, l5, ps, rfl, hcp7 l5 n5, (fun q hq => ⟨up_mono (hv q hq).one (by omega), (hv q hq).len, up_mono (hv q hq).two (by omega), (hv q hq).most⟩), h9, fun H15 o4 r4 s15 _ ho4 b4 => ?_⟩
    have e4 := best_same bf b4
    refine ⟨o4, _, rfl, .inl (SqL.of ho4), _, rfl, rfl, ?_⟩
    rw [iv_len, e4, decide_eq_true rfl]
    exact q _ (((ke2.same s13).same s134).same ((same_upd n5).trans s15))
end
end Fw
namespace Fw
open PySem PySem.Spec PyProof.Rows L2 Few
section
variable {P : Program} {w : World} {K : PySem.W.Frag} {mg : Str → Option Value} {base : Heap}
/-! ### law -/
def spLaw (K : PySem.W.Frag) : Sp := fun vs H Q _ => ∃ (a : Addr) (ns : List Int), vs = [.ref a] ∧ SqL K H a (ns.map V.int) ∧ ∀ H', Q (.bl true) H'
abbrev nLaw : List Str := ["_law_script", "_law_k"]
abbrev psLaw : List Str := ["_law_script"]
abbrev psPool : List Str := ["_law_script", "_law_k"]
theorem scLaw : FnScope nLaw psLaw (defScope sLaw) := ⟨rfl, rfl, rfl, by decide +kernel, rfl, by decide +kernel, by decide +kernel⟩
theorem ok_law {f fP fR : Addr} {fd fdP fdR : FuncData} (F : FnP K "law" sLaw f fd) (bP : Binds K fdP psPool []) (kP : PySem.W.keepIn K (.ref fP) = true) (gP : mg "_law_pool" = some (.ref fP))
    (bR : Binds K fdR psRight []) (kR : PySem.W.keepIn K (.ref fR) = true) (gR : mg "_law_right" = some (.ref fR)) (B : Bl mg)
    (GP : FnOk P w K mg base CX0 1 fP fdP psPool (spPool K)) (GR : FnOk P w K mg base CX0 8 fR fdR psRight spRight) : FnOk P w K mg base CX0 9 f fd psLaw (spLaw K) := by
  refine F.ok scLaw (fun vs H Q E h => ?_) (fun cdv A outer s H vs Q E hr h => ⟨_, PSs.nox (
    pss_cons (ps_for PassesOwn.never rfl (pi_range1 rfl B.range (pa_cons (pe_op op_add (pe_callB (call_min2 rfl) (by rfl) B.min PyProof.Rows.boot_min (pa_cons (pe_callB call_len_seq (by rfl) B.len PySem.boot_len (pa_cons (pv 0) pa_nil)) (pa_cons pe_int pa_nil))) pe_int) pa_nil)) (pg_name (i := 1) scLaw.nd rfl (.inl rfl))
      (pss_one (ps_if (pt_not (pt_val (pe_call GR hr (by rfl) gR kR bR .nil pass0 (pa_cons (pe_call GP (hr.mono (by decide)) (by rfl) gP kP bP .nil pass0 (pa_cons (pv 0) (pa_cons (pv 1) pa_nil))) pa_nil)))) (pss_one (ps_ret pe_bl)) pss_nil)))
    (pss_one (ps_ret pe_bl))), ?_⟩)
  · obtain ⟨a, ns, rfl, _⟩ := h
    rfl
  · obtain ⟨a, ns, rfl, hS, q⟩ := h
    refine ⟨_, rfl, a, _, rfl, .inl hS, _, _, rfl, _, _, rfl, rfl, ?_⟩
    obtain ⟨n, hn, n1⟩ : ∃ n : Int, (if 4 < (((ns.map V.int).length : Nat) : Int) then 4 else (((ns.map V.int).length : Nat) : Int)) + 1 = n ∧ 0 ≤ n ∧ n ≤ 5 := ⟨_, rfl, by split <;> omega, by split <;> omega⟩
    refine ⟨n, congrArg (fun z => [V.int z]) hn, by omega, by omega, for_range (lo := 0) (n := n.toNat) (fun i σ H3 => Same H H3 ∧ ∃ v, σ = [some (.ref a), v]) ⟨Same.refl H, none, rfl⟩ ?_ ?_⟩
    · rintro i σ H3 hi ⟨s3, v, rfl⟩
      refine ⟨_, rfl, _, rfl, a, ns, i, (by rw [Int.zero_add]; rfl), s3.seq hS, by omega, fun H4 p s4 np hp => ?_⟩
      refine ⟨p, rfl, hp, fun H5 k5 => ⟨_, rfl, iteF ?_⟩⟩
      refine ⟨fun b o e => ?_, _, rfl⟩
      have e3 := s3 _ _ e
      exact k5.keep _ _ (s4 _ _ e3) (ne_of_none e3 np)
    · rintro σ H3 ⟨s3, v, rfl⟩
      exact q H3
end
/-! ### the head: what the top has written, by names -/
def dD (x : Str) (i : Nat) : He.DefD := ⟨(x, none), x, x, defArgs (top i), defBody (top i), defScope (top i), [], []⟩
def fn : List He.DefD := [dD "is_whole" 4, dD "is_within" 5, dD "is_rising" 7, dD "is_lot" 8, dD "misses" 9, dD "is_pair" 12, dD "is_row" 13, dD "look_at_pairs" 14, dD "may_come_last" 15, dD "longer_rows" 16, dD "longest_row" 17, dD "_law_pool" 19, dD "_law_take" 20, dD "_law_some" 21, dD "_law_pair" 26, dD "_law_case" 27, dD "_law_shuffled" 28, dD "_law_called" 29, dD "_law_right" 30, dD "law" 31]
def fa : List He.Fa := [.glo "is_whole", .glo "is_within", .glo "is_rising", .glo "is_lot", .glo "misses", .glo "is_pair", .glo "is_row", .glo "look_at_pairs", .glo "may_come_last", .glo "longer_rows", .glo "longest_row", .glo "_law_pool", .glo "_law_take", .glo "_law_some", .glo "_law_pair", .glo "_law_case", .glo "_law_shuffled", .glo "_law_called", .glo "_law_right", .glo "law", .free "isinstance", .free "int", .free "bool", .free "tuple", .free "list", .free "len", .free "range", .free "all", .free "sorted", .free "min", .free "enumerate", .int "MOST_PAIRS" 12]
abbrev R : PySem.W.OpenRow := PySem.W.OpenLaw.row PySem.Challenge.rw_fewstand_k38_whole_longest_called_otherw
abbrev hk : PySem.W.Hook := He.hookD 4 fa fn
def ob (s : PySem.W.SharedT) : He.AlD := He.obsDG 4 fa fn (HandSHeadRun.getT s)
theorem ob_eq (s : PySem.W.SharedT) : ob s = hk.obs s.abs := He.obsDG_eq (HandSHeadRun.getT_eq s)
abbrev lo : List PySem.Str := ["LotError", "NoPairs", "is_whole", "is_within", "is_rising", "is_lot", "misses", "MOST_PAIRS", "is_pair", "is_row", "look_at_pairs", "may_come_last", "longer_rows", "longest_row", "_law_pool", "_law_take", "_law_some", "_law_misses", "_law_is_lot", "_law_is_pair", "_law_fits", "_law_pair", "_law_case", "_law_shuffled", "_law_called", "_law_right"]
theorem run (w : World) : HandSHeadRun.RunEq R (PySem.W.view R.prog [31]) hk ob 3000 lo w := by
  intro os
  kernel_rfl
theorem facts {P : Program} {w : World} {K : PySem.W.Frag} {h : Heap} {mg : Str → Option Value} {f : Addr} (X : K.In h) (G : h.Ns mainGlobals mg) (hfa : mg ("law" : Str) = some (.ref f)) (c : He.SaysD fa fn K) :
    ∃ fd : FuncData, (∀ (s : Shared) (v : Value), BindsTo s fd ⟨[v], []⟩ [("_law_script", v)]) ∧ ∀ base : Heap, K.In base → base.Ns mainGlobals mg → FnOk P w K mg base CX0 9 f fd ["_law_script"] (spLaw K) := by
  obtain ⟨fd0, F0⟩ := c.def_ 0 (d := dD "is_whole" 4) rfl
  obtain ⟨fd1, F1⟩ := c.def_ 1 (d := dD "is_within" 5) rfl
  obtain ⟨fd2, F2⟩ := c.def_ 2 (d := dD "is_rising" 7) rfl
  obtain ⟨fd3, F3⟩ := c.def_ 3 (d := dD "is_lot" 8) rfl
  obtain ⟨fd4, F4⟩ := c.def_ 4 (d := dD "misses" 9) rfl
  obtain ⟨fd5, F5⟩ := c.def_ 5 (d := dD "is_pair" 12) rfl
  obtain ⟨fd6, F6⟩ := c.def_ 6 (d := dD "is_row" 13) rfl
  obtain ⟨fd7, F7⟩ := c.def_ 7 (d := dD "look_at_pairs" 14) rfl
  obtain ⟨fd8, F8⟩ := c.def_ 8 (d := dD "may_come_last" 15) rfl
  obtain ⟨fd9, F9⟩ := c.def_ 9 (d := dD "longer_rows" 16) rfl
  obtain ⟨fd10, F10⟩ := c.def_ 10 (d := dD "longest_row" 17) rfl
  obtain ⟨fd11, F11⟩ := c.def_ 11 (d := dD "_law_pool" 19) rfl
  obtain ⟨fd12, F12⟩ := c.def_ 12 (d := dD "_law_take" 20) rfl
  obtain ⟨fd13, F13⟩ := c.def_ 13 (d := dD "_law_some" 21) rfl
  obtain ⟨fd14, F14⟩ := c.def_ 14 (d := dD "_law_pair" 26) rfl
  obtain ⟨fd15, F15⟩ := c.def_ 15 (d := dD "_law_case" 27) rfl
  obtain ⟨fd16, F16⟩ := c.def_ 16 (d := dD "_law_shuffled" 28) rfl
  obtain ⟨fd17, F17⟩ := c.def_ 17 (d := dD "_law_called" 29) rfl
  obtain ⟨fd18, F18⟩ := c.def_ 18 (d := dD "_law_right" 30) rfl
  obtain ⟨fd19, F19⟩ := c.def_ 19 (d := dD "law" 31) rfl
  have g0 := He.glo_ok X G (c.fact 0 (f := .glo "is_whole") rfl)
  have g1 := He.glo_ok X G (c.fact 1 (f := .glo "is_within") rfl)
  have g2 := He.glo_ok X G (c.fact 2 (f := .glo "is_rising") rfl)
  have g3 := He.glo_ok X G (c.fact 3 (f := .glo "is_lot") rfl)
  have g4 := He.glo_ok X G (c.fact 4 (f := .glo "misses") rfl)
  have g5 := He.glo_ok X G (c.fact 5 (f := .glo "is_pair") rfl)
  have g6 := He.glo_ok X G (c.fact 6 (f := .glo "is_row") rfl)
  have g7 := He.glo_ok X G (c.fact 7 (f := .glo "look_at_pairs") rfl)
  have g8 := He.glo_ok X G (c.fact 8 (f := .glo "may_come_last") rfl)
  have g9 := He.glo_ok X G (c.fact 9 (f := .glo "longer_rows") rfl)
  have g10 := He.glo_ok X G (c.fact 10 (f := .glo "longest_row") rfl)
  have g11 := He.glo_ok X G (c.fact 11 (f := .glo "_law_pool") rfl)
  have g12 := He.glo_ok X G (c.fact 12 (f := .glo "_law_take") rfl)
  have g13 := He.glo_ok X G (c.fact 13 (f := .glo "_law_some") rfl)
  have g14 := He.glo_ok X G (c.fact 14 (f := .glo "_law_pair") rfl)
  have g15 := He.glo_ok X G (c.fact 15 (f := .glo "_law_case") rfl)
  have g16 := He.glo_ok X G (c.fact 16 (f := .glo "_law_shuffled") rfl)
  have g17 := He.glo_ok X G (c.fact 17 (f := .glo "_law_called") rfl)
  have g18 := He.glo_ok X G (c.fact 18 (f := .glo "_law_right") rfl)
  have g19 := He.glo_ok X G (c.fact 19 (f := .glo "law") rfl)
  have b0 : Binds K fd0 ["thing"] [] := FunD.bindsN F0 fun _ _ _ _ _ _ us hl => match us, hl with | [_], _ => rfl
  have b1 : Binds K fd1 ["thing", "least", "most"] [] := FunD.bindsN F1 fun _ _ _ _ _ _ us hl => match us, hl with | [_, _, _], _ => rfl
  have b2 : Binds K fd2 ["many", "thing"] [] := FunD.bindsN F2 fun _ _ _ _ _ _ us hl => match us, hl with | [_, _], _ => rfl
  have b3 : Binds K fd3 ["many", "size", "thing"] [] := FunD.bindsN F3 fun _ _ _ _ _ _ us hl => match us, hl with | [_, _, _], _ => rfl
  have b4 : Binds K fd4 psMisses [] := FunD.bindsN F4 fun _ _ _ _ _ _ us hl => match us, hl with | [_, _], _ => rfl
  have b5 : Binds K fd5 psPair [] := FunD.bindsN F5 fun _ _ _ _ _ _ us hl => match us, hl with | [_, _, _, _], _ => rfl
  have b6 : Binds K fd6 ps4 [] := FunD.bindsN F6 fun _ _ _ _ _ _ us hl => match us, hl with | [_, _, _, _], _ => rfl
  have b7 : Binds K fd7 ps4 [] := FunD.bindsN F7 fun _ _ _ _ _ _ us hl => match us, hl with | [_, _, _, _], _ => rfl
  have b8 : Binds K fd8 psMay [] := FunD.bindsN F8 fun _ _ _ _ _ _ us hl => match us, hl with | [_, _, _], _ => rfl
  have b9 : Binds K fd9 psLonger [] := FunD.bindsN F9 fun _ _ _ _ _ _ us hl => match us, hl with | [_, _], _ => rfl
  have b10 : Binds K fd10 psLongest [] := FunD.bindsN F10 fun _ _ _ _ _ _ us hl => match us, hl with | [_, _, _, _], _ => rfl
  have b11 : Binds K fd11 psPool [] := FunD.bindsN F11 fun _ _ _ _ _ _ us hl => match us, hl with | [_, _], _ => rfl
  have b12 : Binds K fd12 psTake [] := FunD.bindsN F12 fun _ _ _ _ _ _ us hl => match us, hl with | [_, _], _ => rfl
  have b13 : Binds K fd13 psSome [] := FunD.bindsN F13 fun _ _ _ _ _ _ us hl => match us, hl with | [_, _, _], _ => rfl
  have b14 : Binds K fd14 psLPair [] := FunD.bindsN F14 fun _ _ _ _ _ _ us hl => match us, hl with | [_, _, _, _], _ => rfl
  have b15 : Binds K fd15 psCase [] := FunD.bindsN F15 fun _ _ _ _ _ _ us hl => match us, hl with | [_, _], _ => rfl
  have b16 : Binds K fd16 psShuf [] := FunD.bindsN F16 fun _ _ _ _ _ _ us hl => match us, hl with | [_, _], _ => rfl
  have b17 : Binds K fd17 psCalled [] := FunD.bindsN F17 fun _ _ _ _ _ _ us hl => match us, hl with | [_, _], _ => rfl
  have b18 : Binds K fd18 psRight [] := FunD.bindsN F18 fun _ _ _ _ _ _ us hl => match us, hl with | [_], _ => rfl
  have b19 := FunD.bindsA (ps := ["_law_script"]) F19 fun _ _ _ _ _ _ us hl => match us, hl with | [_], _ => rfl
  have B : Bl mg := ⟨He.free_ok X G (c.fact 20 (f := .free "isinstance") rfl), He.free_ok X G (c.fact 21 (f := .free "int") rfl), He.free_ok X G (c.fact 22 (f := .free "bool") rfl), He.free_ok X G (c.fact 23 (f := .free "tuple") rfl), He.free_ok X G (c.fact 24 (f := .free "list") rfl), He.free_ok X G (c.fact 25 (f := .free "len") rfl), He.free_ok X G (c.fact 26 (f := .free "range") rfl), He.free_ok X G (c.fact 27 (f := .free "all") rfl), He.free_ok X G (c.fact 28 (f := .free "sorted") rfl), He.free_ok X G (c.fact 29 (f := .free "min") rfl), He.free_ok X G (c.fact 30 (f := .free "enumerate") rfl), He.int_ok X G (c.fact 31 (f := .int "MOST_PAIRS" 12) rfl)⟩
  have e := hfa.symm.trans g19
  cases e
  refine ⟨fd19, fun s v => b19 s [v] rfl, fun base _ _ => ?_⟩
  have G1 : FnOk P w K mg base CX0 2 _ fd1 ["thing", "least", "most"] spWithin := ok_within F1 F0 g0 B
  have G2 : FnOk P w K mg base CX0 3 _ fd2 ["many", "thing"] spRising := ok_rising F2 b1 F1.kp g1 B G1
  have G3 : FnOk P w K mg base CX0 4 _ fd3 ["many", "size", "thing"] spLot := ok_lot F3 b2 F2.kp g2 B G2
  have G4 : FnOk P w K mg base CX0 1 _ fd4 psMisses spMisses := ok_misses F4
  have G5 : FnOk P w K mg base CX0 5 _ fd5 psPair spPair := ok_pair F5 b2 F2.kp g2 b3 F3.kp g3 B G2 G3
  have G6 : FnOk P w K mg base CX0 6 _ fd6 ps4 spRow := ok_row F6 b5 F5.kp g5 b4 F4.kp g4 B G5 G4
  have G7 : FnOk P w K mg base CX0 6 _ fd7 ps4 spLook := ok_look F7 b5 F5.kp g5 B G5
  have G8 : FnOk P w K mg base CX0 2 _ fd8 psMay spMay := ok_may F8 b4 F4.kp g4 B G4
  have G9 : FnOk P w K mg base CX0 3 _ fd9 psLonger spLonger := ok_longer F9 b8 F8.kp g8 B G8
  have G10 : FnOk P w K mg base CX0 7 _ fd10 psLongest spLongest := ok_longest F10 b7 F7.kp g7 b9 F9.kp g9 G7 G9
  have G11 : FnOk P w K mg base CX0 1 _ fd11 psPool (spPool K) := ok_pool F11 B
  have G12 : FnOk P w K mg base CX0 1 _ fd12 psTake spTake := ok_take F12
  have G13 : FnOk P w K mg base CX0 2 _ fd13 psSome spSome := ok_some F13 b12 F12.kp g12 B G12
  have G14 : FnOk P w K mg base CX0 3 _ fd14 psLPair spLPair := ok_lpair F14 b12 F12.kp g12 b13 F13.kp g13 B G12 G13
  have G15 : FnOk P w K mg base CX0 4 _ fd15 psCase spCase := ok_case F15 b12 F12.kp g12 b14 F14.kp g14 B G12 G14
  have G16 : FnOk P w K mg base CX0 2 _ fd16 psShuf spShuf := ok_shuf F16 b12 F12.kp g12 B G12
  have G17 : FnOk P w K mg base CX0 1 _ fd17 psCalled spCalled := ok_called F17 B
  have G18 : FnOk P w K mg base CX0 8 _ fd18 psRight spRight := ok_right F18 b15 F15.kp g15 b10 F10.kp g10 b16 F16.kp g16 b17 F17.kp g17 b6 F6.kp g6 b12 F12.kp g12 B G15 G10 G16 G17 G6 G12
  exact ok_law F19 b11 F11.kp g11 b18 F18.kp g18 B G11 G18
end Fw
open PySem PySem.W PySem.Calls PyProof.Rows
set_option maxRecDepth 100000 in
set_option maxHeartbeats 0 in
theorem PySem.Challenge.cw_fewstand_k38_whole_longest_called_otherw_holds : PySem.Challenge.rw_fewstand_k38_whole_longest_called_otherw.Holds := by
  w_on; o_law
  refine HandSHeadRun.head_any (r := OpenLaw.row PySem.Challenge.rw_fewstand_k38_whole_longest_called_otherw) (q := view (OpenLaw.row PySem.Challenge.rw_fewstand_k38_whole_longest_called_otherw).prog [31]) (H := Fw.hk) (ob := Fw.ob) (M := 3000) (loose := Fw.lo) (d := HandSHeadRun.topDef (OpenLaw.row PySem.Challenge.rw_fewstand_k38_whole_longest_called_otherw).prog 31) (kwd := []) Fw.ob_eq
    (by kernel_rfl) (fun s => by kernel_rfl) Fw.run (by kernel_rfl) (by kernel_rfl) (by kernel_rfl) (by rfl) (by first | assumption | decide +kernel) (by decide +kernel) ⟨rfl, rfl, rfl, rfl, rfl, by decide +kernel⟩ ?hw ?hc
  case hw => w_witness2
  case hc =>
    refine L2.walk_ofE (l := PySem.Challenge.rw_fewstand_k38_whole_longest_called_otherw) (n := 63) (k := 9) (x := "_law_script") (CX := L2.CX0) rfl (by decide) (by kernel_rfl) ⟨rfl, by decide, by decide⟩ ?F (fun _ _ _ _ z => z)
    intro w mg fa h Y G hmg0
    obtain ⟨K, KX, c⟩ := Y
    have hmg : mg ("law" : PySem.Str) = some (.ref fa) := by
      have e : (HandSHeadRun.topDef (OpenLaw.row PySem.Challenge.rw_fewstand_k38_whole_longest_called_otherw).prog 31).name = ("law" : PySem.Str) := by kernel_rfl
      rw [← e]
      exact hmg0
    obtain ⟨fd, hb, hF⟩ := Fw.facts (P := (PySem.Challenge.rw_fewstand_k38_whole_longest_called_otherw).prog) (w := w) KX G hmg c
    exact ⟨K, fd, Fw.spLaw K, KX, hb, fun H a ns hl _ hS => ⟨a, ns, rfl, hS, fun _ => rfl⟩, hF⟩
