import PyProof.Rows.All
import Wide.All
import OpenK.AllK
import Wide.FinOn
import HandS.ForMost
import HandS.Zip
import HandS.Deep
import HandS.Style
import HandS.IsInst
import HandS.Evl
import HandS.SortRule
import HandS.Walk
import HandS.More
import HandS.Defaults
import HandS.WordsDict
import PySem.Challenge.RW_shrunkrooms_k71_whole_rooks_and_covers
import OpenK.KMore
import HandS.Ends
set_option Elab.async false
set_option maxRecDepth 100000
set_option maxHeartbeats 4000000
namespace B71
abbrev Pl := List (Nat × Nat)
/-- a dict: keys and values in their sequence -/
abbrev Dc := List (Nat × Nat)
def look (d : Dc) (c : Nat) : Option Nat := (d.find? fun p => decide (p.1 = c)).map (·.2)
def put (d : Dc) (c r : Nat) : Dc := if d.any (fun p => decide (p.1 = c)) then d.map (fun p => if p.1 = c then (c, r) else p) else d ++ [(c, r)]
def del (d : Dc) (c : Nat) : Dc := d.filter fun p => decide (p.1 ≠ c)
def fwLoop (rec : Nat → Dc → List Nat → Option Dc × List Nat) (row : Nat) (seats : Dc) : Pl → List Nat → Option Dc × List Nat
  | [], t => (none, t)
  | (n, c) :: ps, t =>
    if n = row ∧ c ∉ t then
      match look seats c with
      | none => (some (put seats c row), t ++ [c])
      | some r2 => match rec r2 (del seats c) (t ++ [c]) with
        | (some l, t2) => (some (put l c row), t2)
        | (none, t2) => fwLoop rec row seats ps t2
    else fwLoop rec row seats ps t
def fw (pl : Pl) : Nat → Nat → Dc → List Nat → Option Dc × List Nat
  | 0, _, _, t => (none, t)
  | f + 1, row, seats, t => fwLoop (fw pl f) row seats pl t
def seatsOf (pl : Pl) (tall : Nat) : Dc := (List.range tall).foldl (fun M r => ((fw pl 5 r M []).1).getD M) []

/-! ### dicts -/
theorem look_none {d : Dc} {c : Nat} : look d c = none ↔ ∀ p ∈ d, p.1 ≠ c := by
  unfold look
  rw [Option.map_eq_none_iff, List.find?_eq_none]
  simp
theorem look_some {d : Dc} {c r : Nat} (hn : (d.map (·.1)).Nodup) : look d c = some r ↔ (c, r) ∈ d := by
  induction d with
  | nil => simp [look]
  | cons p d ih =>
    rw [List.map_cons, List.nodup_cons] at hn
    have ih := ih hn.2
    unfold look at ih ⊢
    by_cases h : p.1 = c
    · rw [List.find?_cons_of_pos (by simpa using h), Option.map_some]
      constructor
      · intro e
        cases e
        rw [← h]
        exact List.mem_cons_self
      · intro e
        rcases List.mem_cons.mp e with e | e
        · rw [← e]
        · exact absurd (List.mem_map_of_mem (f := (·.1)) e) (by rw [← h] <;> exact hn.1)
    · rw [List.find?_cons_of_neg (by simpa using h), ih]
      constructor
      · exact List.mem_cons_of_mem _
      · intro e
        rcases List.mem_cons.mp e with e | e
        · exact absurd (by rw [← e]) h
        · exact e
theorem look_mem {d : Dc} {c r : Nat} (h : look d c = some r) : (c, r) ∈ d := by
  unfold look at h
  obtain ⟨p, hp, e⟩ := Option.map_eq_some_iff.mp h
  have h1 := List.find?_some hp
  have h2 := List.mem_of_find?_eq_some hp
  have h3 : p.1 = c := by simpa using h1
  rw [← h3, ← e]
  exact h2
theorem look_del {d : Dc} {c c' : Nat} (h : c' ≠ c) : look (del d c) c' = look d c' := by
  unfold look del
  induction d with
  | nil => rfl
  | cons p d ih =>
    by_cases h1 : p.1 = c
    · rw [List.filter_cons_of_neg (by simpa using h1)]
      rw [List.find?_cons_of_neg (by simpa using fun q => h (q.symm.trans h1))]
      exact ih
    · rw [List.filter_cons_of_pos (by simpa using h1)]
      by_cases h2 : p.1 = c'
      · rw [List.find?_cons_of_pos (by simpa using h2), List.find?_cons_of_pos (by simpa using h2)]
      · rw [List.find?_cons_of_neg (by simpa using h2), List.find?_cons_of_neg (by simpa using h2)]
        exact ih
theorem look_del_self {d : Dc} {c : Nat} : look (del d c) c = none := by
  rw [look_none]
  intro p hp
  have := (List.mem_filter.mp hp).2
  simpa using this
theorem put_new {d : Dc} {c r : Nat} (h : look d c = none) : put d c r = d ++ [(c, r)] := by
  unfold put
  rw [look_none] at h
  rw [if_neg]
  intro q
  obtain ⟨p, hp, e⟩ := List.any_eq_true.mp q
  exact h p hp (of_decide_eq_true e)
theorem look_app {d : Dc} {c r c' : Nat} (h : look d c = none) : look (d ++ [(c, r)]) c' = if c' = c then some r else look d c' := by
  unfold look at h ⊢
  rw [List.find?_append]
  by_cases e : c' = c
  · subst e
    rw [Option.map_eq_none_iff] at h
    rw [h]
    simp
  · rw [if_neg e]
    have : List.find? (fun p => decide (p.1 = c')) [(c, r)] = none := by
      rw [List.find?_cons_of_neg (by simpa using fun q => e q.symm)]
      rfl
    rw [this, Option.or_none]

theorem loop_skip {rec : Nat → Dc → List Nat → Option Dc × List Nat} {row : Nat} {M : Dc} {k c : Nat} {ps : Pl} {t : List Nat} (g : ¬ (k = row ∧ c ∉ t)) : fwLoop rec row M ((k, c) :: ps) t = fwLoop rec row M ps t := by
  rw [fwLoop, if_neg g]
theorem loop_free {rec : Nat → Dc → List Nat → Option Dc × List Nat} {row : Nat} {M : Dc} {k c : Nat} {ps : Pl} {t : List Nat} (g : k = row ∧ c ∉ t) (e : look M c = none) : fwLoop rec row M ((k, c) :: ps) t = (some (put M c row), t ++ [c]) := by
  rw [fwLoop, if_pos g, e]
theorem loop_win {rec : Nat → Dc → List Nat → Option Dc × List Nat} {row : Nat} {M : Dc} {k c r2 : Nat} {ps : Pl} {t : List Nat} {l : Dc} {t2 : List Nat} (g : k = row ∧ c ∉ t) (e : look M c = some r2) (q : rec r2 (del M c) (t ++ [c]) = (some l, t2)) : fwLoop rec row M ((k, c) :: ps) t = (some (put l c row), t2) := by
  rw [fwLoop, if_pos g, e]
  simp only [q]
theorem loop_lose {rec : Nat → Dc → List Nat → Option Dc × List Nat} {row : Nat} {M : Dc} {k c r2 : Nat} {ps : Pl} {t : List Nat} {t2 : List Nat} (g : k = row ∧ c ∉ t) (e : look M c = some r2) (q : rec r2 (del M c) (t ++ [c]) = (none, t2)) : fwLoop rec row M ((k, c) :: ps) t = fwLoop rec row M ps t2 := by
  rw [fwLoop, if_pos g, e]
  simp only [q]
theorem inj2 : ∀ {l : Dc}, (l.map (·.2)).Nodup → ∀ {a b : Nat × Nat}, a ∈ l → b ∈ l → a.2 = b.2 → a = b
  | [], _, _, _, ha, _, _ => nomatch ha
  | x :: l, hn, a, b, ha, hb, hab => by
    rw [List.map_cons, List.nodup_cons] at hn
    rcases List.mem_cons.mp ha with ea | ha
    · rcases List.mem_cons.mp hb with eb | hb
      · rw [ea, eb]
      · exact absurd (List.mem_map.mpr ⟨b, hb, by rw [← hab, ea]⟩) hn.1
    · rcases List.mem_cons.mp hb with eb | hb
      · exact absurd (List.mem_map.mpr ⟨a, ha, by rw [hab, eb]⟩) hn.1
      · exact inj2 hn.2 ha hb hab

/-! ### counting -/
theorem erase_sub {l m : List Nat} {x : Nat} (hn : (x :: l).Nodup) (hs : ∀ y ∈ x :: l, y ∈ m) : ∀ y ∈ l, y ∈ m.erase x := fun y hy => by
  have hx : x ∉ l := (List.nodup_cons.mp hn).1
  have ne : y ≠ x := fun e => hx (e ▸ hy)
  exact (List.mem_erase_of_ne ne).mpr (hs y (List.mem_cons_of_mem _ hy))
theorem nodup_le : ∀ {l m : List Nat}, l.Nodup → (∀ y ∈ l, y ∈ m) → l.length ≤ m.length
  | [], _, _, _ => Nat.zero_le _
  | x :: l, m, hn, hs => by
    have h := nodup_le (List.nodup_cons.mp hn).2 (erase_sub hn hs)
    have hx := hs x List.mem_cons_self
    rw [List.length_erase_of_mem hx] at h
    have : 0 < m.length := List.length_pos_of_mem hx
    show l.length + 1 ≤ m.length
    omega
theorem nodup_eq {l m : List Nat} (hl : l.Nodup) (hm : m.Nodup) (h : ∀ y, y ∈ l ↔ y ∈ m) : l.length = m.length :=
  Nat.le_antisymm (nodup_le hl fun y q => (h y).mp q) (nodup_le hm fun y q => (h y).mpr q)
theorem filter_both {α : Type} (p : α → Bool) : ∀ l : List α, (l.filter p).length + (l.filter fun x => !p x).length = l.length
  | [] => rfl
  | x :: l => by
    have := filter_both p l
    cases h : p x with
    | true =>
      rw [List.filter_cons_of_pos h, List.filter_cons_of_neg (by simp [h])]
      show (l.filter p).length + 1 + _ = l.length + 1
      omega
    | false =>
      rw [List.filter_cons_of_neg (by simp [h]), List.filter_cons_of_pos (by simp [h])]
      show _ + ((l.filter _).length + 1) = l.length + 1
      omega
theorem map_nodup_filter {l : Dc} {f : Nat × Nat → Nat} (h : (l.map f).Nodup) (p : Nat × Nat → Bool) : ((l.filter p).map f).Nodup :=
  List.Sublist.nodup ((List.filter_sublist).map f) h

/-! ### matchings, covers -/
/-- columns to rows that spare one another, of places -/
structure Mat (pl : Pl) (M : Dc) : Prop where
  cols : (M.map (·.1)).Nodup
  rows : (M.map (·.2)).Nodup
  on : ∀ c r, (c, r) ∈ M → (r, c) ∈ pl
def Cov (pl : Pl) (R C : List Nat) : Prop := ∀ r c, (r, c) ∈ pl → r ∈ R ∨ c ∈ C
theorem weak {pl : Pl} {M : Dc} {R C : List Nat} (m : Mat pl M) (k : Cov pl R C) : M.length ≤ R.length + C.length := by
  rw [← filter_both (fun p => decide (p.2 ∈ R)) M]
  have h1 : (M.filter fun p => decide (p.2 ∈ R)).length ≤ R.length := by
    rw [← List.length_map (f := (·.2))]
    refine nodup_le (map_nodup_filter m.rows _) fun y hy => ?_
    obtain ⟨p, hp, rfl⟩ := List.mem_map.mp hy
    simpa using (List.mem_filter.mp hp).2
  have h2 : (M.filter fun p => !decide (p.2 ∈ R)).length ≤ C.length := by
    rw [← List.length_map (f := (·.1))]
    refine nodup_le (map_nodup_filter m.cols _) fun y hy => ?_
    obtain ⟨⟨c, r⟩, hp, rfl⟩ := List.mem_map.mp hy
    have h := List.mem_filter.mp hp
    have hr : r ∉ R := by simpa using h.2
    exact (k r c (m.on c r h.1)).resolve_left hr
  omega

/-! ### one search -/
section
variable {pl : Pl}
/-- what holds of the columns that were tried -/
structure Tr (t : List Nat) : Prop where
  nd : t.Nodup
  lt : ∀ c ∈ t, c < 4
theorem Tr.len {t : List Nat} (h : Tr t) : t.length ≤ 4 := by
  have := nodup_le (m := List.range 4) h.nd fun c hc => List.mem_range.mpr (h.lt c hc)
  simpa using this
theorem Tr.snoc {t : List Nat} (h : Tr t) {c : Nat} (hc : c ∉ t) (h4 : c < 4) : Tr (t ++ [c]) := by
  refine ⟨?_, fun x hx => ?_⟩
  · rw [List.nodup_append]
    refine ⟨h.nd, by simp, fun a ha b hb e => ?_⟩
    have : b = c := by simpa using hb
    exact hc (this ▸ e ▸ ha)
  · rcases List.mem_append.mp hx with hx | hx
    · exact h.lt x hx
    · have : x = c := by simpa using hx
      omega
/-- what a search tries it adds behind what was tried -/
def Tells (t t2 : List Nat) : Prop := Tr t2 ∧ ∀ c ∈ t, c ∈ t2
/-- a failed search: all columns of the row are tried, each newly tried one has a seat whose row's columns are tried -/
structure Fail (pl : Pl) (row : Nat) (M : Dc) (t t2 : List Nat) : Prop where
  own : ∀ c, (row, c) ∈ pl → c ∈ t2
  new : ∀ c ∈ t2, c ∉ t → ∃ r, look M c = some r ∧ ∀ c', (r, c') ∈ pl → c' ∈ t2
def Out (pl : Pl) (row : Nat) (M : Dc) (t : List Nat) (o : Option Dc × List Nat) : Prop :=
  Tells t o.2 ∧ (o.1 = none → Fail pl row M t o.2)
theorem loop_out {rec : Nat → Dc → List Nat → Option Dc × List Nat} {row : Nat} {M : Dc} (h4 : ∀ r c, (r, c) ∈ pl → c < 4)
    {n : Nat} (hr : ∀ r M t, Tr t → 5 ≤ t.length + n → Out pl r M t (rec r M t)) :
    ∀ (ps : Pl) (t : List Nat), (∀ p ∈ ps, p ∈ pl) → Tr t → 4 ≤ t.length + n →
      Tells t (fwLoop rec row M ps t).2 ∧ ((fwLoop rec row M ps t).1 = none →
        (∀ c, (row, c) ∈ ps → c ∈ (fwLoop rec row M ps t).2) ∧
        ∀ c ∈ (fwLoop rec row M ps t).2, c ∉ t → ∃ r, look M c = some r ∧ ∀ c', (r, c') ∈ pl → c' ∈ (fwLoop rec row M ps t).2)
  | [], t, _, ht, _ => ⟨⟨ht, fun c h => h⟩, fun _ => ⟨fun c h => (nomatch h), fun c h1 h2 => absurd h1 h2⟩⟩
  | (k, c) :: ps, t, hp, ht, hn => by
    have hps : ∀ p ∈ ps, p ∈ pl := fun p h => hp p (List.mem_cons_of_mem _ h)
    by_cases g : k = row ∧ c ∉ t
    · have hc4 : c < 4 := h4 k c (hp _ List.mem_cons_self)
      have ht1 := ht.snoc g.2 hc4
      cases e : look M c with
      | none =>
        rw [loop_free g e]
        exact ⟨⟨ht1, fun x hx => List.mem_append_left _ hx⟩, fun q => nomatch q⟩
      | some r2 =>
        have o := hr r2 (del M c) (t ++ [c]) ht1 (by simp; omega)
        rcases h : rec r2 (del M c) (t ++ [c]) with ⟨_ | l, t2⟩
        · rw [loop_lose g e h]
          rw [h] at o
          obtain ⟨⟨o1, o2⟩, o3⟩ := o
          have f := o3 rfl
          have tl : t.length + 1 ≤ t2.length := by
            have := nodup_le (l := t ++ [c]) ht1.nd o2
            simpa using this
          obtain ⟨⟨i1, i2⟩, i3⟩ := loop_out (row := row) (M := M) h4 hr ps t2 hps o1 (by omega)
          refine ⟨⟨i1, fun x hx => i2 x (o2 x (List.mem_append_left _ hx))⟩, fun q => ?_⟩
          obtain ⟨j1, j2⟩ := i3 q
          refine ⟨fun x hx => ?_, fun x hx hxt => ?_⟩
          · rcases List.mem_cons.mp hx with e2 | e2
            · have : x = c := congrArg Prod.snd e2
              exact i2 x (o2 x (by simp [this]))
            · exact j1 x e2
          · by_cases h2 : x ∈ t2
            · by_cases hxc : x = c
              · subst hxc
                exact ⟨r2, e, fun c' hc' => i2 c' (f.own c' hc')⟩
              · obtain ⟨r, q1, q2⟩ := f.new x h2 (by simp [hxt, hxc])
                rw [look_del hxc] at q1
                exact ⟨r, q1, fun c' hc' => i2 c' (q2 c' hc')⟩
            · exact j2 x hx h2
        · rw [loop_win g e h]
          rw [h] at o
          exact ⟨⟨o.1.1, fun x hx => o.1.2 x (List.mem_append_left _ hx)⟩, fun q => nomatch q⟩
    · rw [loop_skip g]
      obtain ⟨i1, i2⟩ := loop_out (row := row) (M := M) h4 hr ps t hps ht hn
      refine ⟨i1, fun q => ?_⟩
      obtain ⟨j1, j2⟩ := i2 q
      refine ⟨fun x hx => ?_, j2⟩
      rcases List.mem_cons.mp hx with e2 | e2
      · have e3 : x = c := congrArg Prod.snd e2
        have e4 : row = k := congrArg Prod.fst e2
        have : c ∈ t := Decidable.byContradiction fun hx' => g ⟨e4.symm, hx'⟩
        exact i1.2 x (e3 ▸ this)
      · exact j1 x e2
theorem fw_out (h4 : ∀ r c, (r, c) ∈ pl → c < 4) : ∀ (n : Nat) (row : Nat) (M : Dc) (t : List Nat), Tr t → 5 ≤ t.length + n → Out pl row M t (fw pl n row M t)
  | 0, row, M, t, ht, h => by
    have := ht.len
    omega
  | n + 1, row, M, t, ht, h => by
    have o := loop_out (row := row) (M := M) h4 (fun r M t => fw_out h4 n r M t) pl t (fun _ h => h) ht (by omega)
    exact ⟨o.1, fun q => ⟨(o.2 q).1, (o.2 q).2⟩⟩

/-! a search that comes through -/
structure Won (pl : Pl) (row : Nat) (M : Dc) (t : List Nat) (L : Dc) : Prop where
  mat : Mat pl L
  rows : ∀ r, r ∈ L.map (·.2) ↔ r ∈ M.map (·.2) ∨ r = row
  cols : ∀ c, c ∈ L.map (·.1) → c ∈ M.map (·.1) ∨ c ∉ t
theorem Mat.del {M : Dc} (m : Mat pl M) (c : Nat) : Mat pl (del M c) :=
  ⟨map_nodup_filter m.cols _, map_nodup_filter m.rows _, fun c' r h => m.on c' r (List.mem_filter.mp h).1⟩
theorem Mat.snoc {M : Dc} (m : Mat pl M) {c r : Nat} (hc : c ∉ M.map (·.1)) (hr : r ∉ M.map (·.2)) (hp : (r, c) ∈ pl) : Mat pl (M ++ [(c, r)]) := by
  refine ⟨?_, ?_, fun c' r' h => ?_⟩
  · rw [List.map_append, List.nodup_append]
    refine ⟨m.cols, by simp, fun a ha b hb e => ?_⟩
    have : b = c := by simpa using hb
    exact hc (this ▸ e ▸ ha)
  · rw [List.map_append, List.nodup_append]
    refine ⟨m.rows, by simp, fun a ha b hb e => ?_⟩
    have : b = r := by simpa using hb
    exact hr (this ▸ e ▸ ha)
  · rcases List.mem_append.mp h with h | h
    · exact m.on c' r' h
    · have : (c', r') = (c, r) := by simpa using h
      cases this
      exact hp
theorem not_col {M : Dc} {c : Nat} : look M c = none ↔ c ∉ M.map (·.1) := by
  rw [look_none]
  constructor
  · intro h hm
    obtain ⟨p, hp, e⟩ := List.mem_map.mp hm
    exact h p hp e
  · intro h p hp e
    exact h (List.mem_map.mpr ⟨p, hp, e⟩)
theorem won_step {M L : Dc} {row c : Nat} {t : List Nat} (mL : Mat pl L) (hr : ∀ r, r ∈ L.map (·.2) ↔ r ∈ M.map (·.2)) (hc : ∀ x, x ∈ L.map (·.1) → x ∈ M.map (·.1) ∨ x ∉ t)
    (hcL : c ∉ L.map (·.1)) (hct : c ∉ t) (hrow : row ∉ M.map (·.2)) (hp : (row, c) ∈ pl) : Won pl row M t (put L c row) := by
  rw [put_new (not_col.mpr hcL)]
  refine ⟨mL.snoc hcL (fun q => hrow ((hr _).mp q)) hp, fun r => ?_, fun x hx => ?_⟩
  · rw [List.map_append, List.mem_append, hr]
    simp
  · rw [List.map_append, List.mem_append] at hx
    rcases hx with hx | hx
    · exact hc x hx
    · have : x = c := by simpa using hx
      exact .inr (this ▸ hct)
theorem rows_del {M : Dc} (m : Mat pl M) {c r2 : Nat} (e : look M c = some r2) : (∀ r, r ∈ (del M c).map (·.2) ∨ r = r2 ↔ r ∈ M.map (·.2)) ∧ r2 ∉ (del M c).map (·.2) := by
  have hm : (c, r2) ∈ M := look_mem e
  refine ⟨fun r => ⟨?_, fun z => ?_⟩, fun z => ?_⟩
  · rintro (z | rfl)
    · obtain ⟨p, hp, e⟩ := List.mem_map.mp z
      exact List.mem_map.mpr ⟨p, (List.mem_filter.mp hp).1, e⟩
    · exact List.mem_map.mpr ⟨_, hm, rfl⟩
  · obtain ⟨⟨c', r'⟩, hp, e2⟩ := List.mem_map.mp z
    have e2 : r' = r := e2
    subst e2
    by_cases hcc : c' = c
    · subst hcc
      have := (look_some m.cols).mpr hp
      rw [e] at this
      cases this
      exact .inr rfl
    · exact .inl (List.mem_map.mpr ⟨(c', r'), List.mem_filter.mpr ⟨hp, by simpa using hcc⟩, rfl⟩)
  · obtain ⟨⟨c', r'⟩, hp, e2⟩ := List.mem_map.mp z
    have e2 : r' = r2 := e2
    subst e2
    have h1 := List.mem_filter.mp hp
    have ne : c' ≠ c := by simpa using h1.2
    exact ne (congrArg (·.1) (inj2 m.rows h1.1 hm rfl))
theorem loop_won {rec : Nat → Dc → List Nat → Option Dc × List Nat} {row : Nat} {M : Dc} (m : Mat pl M) (hrow : row ∉ M.map (·.2))
    (hr : ∀ r M t L, Mat pl M → r ∉ M.map (·.2) → (rec r M t).1 = some L → Won pl r M t L) (hg : ∀ r M t c, c ∈ t → c ∈ (rec r M t).2) :
    ∀ (ps : Pl) (t t0 : List Nat) (L : Dc), (∀ p ∈ ps, p ∈ pl) → (∀ c ∈ t0, c ∈ t) → (fwLoop rec row M ps t).1 = some L → Won pl row M t0 L
  | [], t, t0, L, _, _, h => nomatch h
  | (k, c) :: ps, t, t0, L, hp, ht, h => by
    have hps : ∀ p ∈ ps, p ∈ pl := fun p h => hp p (List.mem_cons_of_mem _ h)
    by_cases g : k = row ∧ c ∉ t
    · have hcp : (row, c) ∈ pl := g.1 ▸ hp _ List.mem_cons_self
      have hc0 : c ∉ t0 := fun q => g.2 (ht c q)
      cases e : look M c with
      | none =>
        rw [loop_free g e] at h
        cases h
        exact won_step m (fun _ => Iff.rfl) (fun _ q => .inl q) (not_col.mp e) hc0 hrow hcp
      | some r2 =>
        rcases q : rec r2 (del M c) (t ++ [c]) with ⟨_ | l, t2⟩
        · rw [loop_lose g e q] at h
          refine loop_won m hrow hr hg ps t2 t0 L hps (fun x hx => ?_) h
          have := hg r2 (del M c) (t ++ [c]) x (List.mem_append_left _ (ht x hx))
          rw [q] at this
          exact this
        · rw [loop_win g e q] at h
          cases h
          obtain ⟨r2M, r2n⟩ := rows_del m e
          have w := hr r2 (del M c) (t ++ [c]) l (m.del c) r2n (by rw [q])
          refine won_step w.mat (fun r => (w.rows r).trans (r2M r)) (fun x hx => ?_) (fun z => ?_) hc0 hrow hcp
          · rcases w.cols x hx with z | z
            · obtain ⟨p, hp, e⟩ := List.mem_map.mp z
              exact .inl (List.mem_map.mpr ⟨p, (List.mem_filter.mp hp).1, e⟩)
            · exact .inr fun y => z (List.mem_append_left _ (ht x y))
          · rcases w.cols c z with y | y
            · exact not_col.mp (look_del_self (d := M) (c := c)) y
            · exact y (by simp)
    · rw [loop_skip g] at h
      exact loop_won m hrow hr hg ps t t0 L hps ht h
theorem fw_grow : ∀ (n row : Nat) (M : Dc) (t : List Nat) (c : Nat), c ∈ t → c ∈ (fw pl n row M t).2
  | 0, _, _, _, _, h => h
  | n + 1, row, M, t, c, h => by
    have key : ∀ (ps : Pl) (t : List Nat), c ∈ t → c ∈ (fwLoop (fw pl n) row M ps t).2 := by
      intro ps
      induction ps with
      | nil => intro t h; exact h
      | cons p ps ih =>
        obtain ⟨k, c'⟩ := p
        intro t h
        by_cases g : k = row ∧ c' ∉ t
        · cases e : look M c' with
          | none =>
            rw [loop_free g e]
            exact List.mem_append_left _ h
          | some r2 =>
            have h2 := fw_grow n r2 (del M c') (t ++ [c']) c (List.mem_append_left _ h)
            rcases q : fw pl n r2 (del M c') (t ++ [c']) with ⟨_ | l, t2⟩
            · rw [loop_lose g e q]
              rw [q] at h2
              exact ih t2 h2
            · rw [loop_win g e q]
              rw [q] at h2
              exact h2
        · rw [loop_skip g]
          exact ih t h
    exact key pl t h
theorem fw_won : ∀ (n : Nat) (row : Nat) (M : Dc) (t : List Nat) (L : Dc), Mat pl M → row ∉ M.map (·.2) → (fw pl n row M t).1 = some L → Won pl row M t L
  | 0, _, _, _, _, _, _, h => nomatch h
  | n + 1, row, M, t, L, m, hr, h =>
    loop_won m hr (fun r M t L => fw_won n r M t L) (fun r M t c => fw_grow n r M t c) pl t t L (fun _ h => h) (fun _ h => h) h

/-! a closed lot of columns is left alone -/
def Shut (pl : Pl) (D : List Nat) (M : Dc) (t : List Nat) : Prop := ∀ c ∈ D, c ∈ t ∨ ∃ r, look M c = some r ∧ ∀ c', (r, c') ∈ pl → c' ∈ D
theorem Shut.del {D : List Nat} {M : Dc} {t : List Nat} (s : Shut pl D M t) (c : Nat) : Shut pl D (del M c) (t ++ [c]) := fun x hx => by
  by_cases e : x = c
  · exact .inl (by simp [e])
  · rcases s x hx with h | ⟨r, h1, h2⟩
    · exact .inl (List.mem_append_left _ h)
    · exact .inr ⟨r, by rw [look_del e]; exact h1, h2⟩
theorem Shut.grow {D : List Nat} {M : Dc} {t t2 : List Nat} (s : Shut pl D M t) (h : ∀ c ∈ t, c ∈ t2) : Shut pl D M t2 := fun x hx => by
  rcases s x hx with q | q
  · exact .inl (h x q)
  · exact .inr q
theorem fw_lost {D : List Nat} : ∀ (n row : Nat) (M : Dc) (t : List Nat), Shut pl D M t → (∀ c, (row, c) ∈ pl → c ∈ D) → (fw pl n row M t).1 = none
  | 0, _, _, _, _, _ => rfl
  | n + 1, row, M, t, s, hD => by
    have key : ∀ (ps : Pl) (t : List Nat), (∀ p ∈ ps, p ∈ pl) → Shut pl D M t → (fwLoop (fw pl n) row M ps t).1 = none := by
      intro ps
      induction ps with
      | nil => intro t _ _; rfl
      | cons p ps ih =>
        obtain ⟨k, c⟩ := p
        intro t hp s
        have hps : ∀ p ∈ ps, p ∈ pl := fun p h => hp p (List.mem_cons_of_mem _ h)
        by_cases g : k = row ∧ c ∉ t
        · have hcD : c ∈ D := hD c (g.1 ▸ hp _ List.mem_cons_self)
          obtain ⟨r, h1, h2⟩ := (s c hcD).resolve_left g.2
          have h3 := fw_lost n r (del M c) (t ++ [c]) (s.del c) h2
          have h4 := fw_grow (pl := pl) n r (del M c) (t ++ [c])
          rcases q : fw pl n r (del M c) (t ++ [c]) with ⟨_ | l, t2⟩
          · rw [loop_lose g h1 q]
            rw [q] at h4
            exact ih t2 hps (s.grow fun x hx => h4 x (List.mem_append_left _ hx))
          · rw [q] at h3
            cases h3
        · rw [loop_skip g]
          exact ih t hps s
    exact key pl t (fun _ h => h) s
theorem fw_same {D : List Nat} : ∀ (n row : Nat) (M : Dc) (t : List Nat) (L : Dc), Mat pl M → row ∉ M.map (·.2) → Shut pl D M t → (fw pl n row M t).1 = some L → ∀ c ∈ D, look L c = look M c
  | 0, _, _, _, _, _, _, _, h => nomatch h
  | n + 1, row, M, t, L, m, hrow, s, h => by
    have key : ∀ (ps : Pl) (t : List Nat), (∀ p ∈ ps, p ∈ pl) → Shut pl D M t → (fwLoop (fw pl n) row M ps t).1 = some L → ∀ c ∈ D, look L c = look M c := by
      intro ps
      induction ps with
      | nil => intro t _ _ h; cases h
      | cons p ps ih =>
        obtain ⟨k, c⟩ := p
        intro t hp s h
        have hps : ∀ p ∈ ps, p ∈ pl := fun p h => hp p (List.mem_cons_of_mem _ h)
        by_cases g : k = row ∧ c ∉ t
        · cases e : look M c with
          | none =>
            rw [loop_free g e] at h
            cases h
            intro x hx
            rw [put_new e, look_app e, if_neg]
            rintro rfl
            rcases s x hx with q | ⟨r, q, _⟩
            · exact g.2 q
            · rw [e] at q
              cases q
          | some r2 =>
            rcases q : fw pl n r2 (del M c) (t ++ [c]) with ⟨_ | l, t2⟩
            · rw [loop_lose g e q] at h
              have h4 := fw_grow (pl := pl) n r2 (del M c) (t ++ [c])
              rw [q] at h4
              exact ih t2 hps (s.grow fun x hx => h4 x (List.mem_append_left _ hx)) h
            · rw [loop_win g e q] at h
              cases h
              have hcD : c ∉ D := fun hc => by
                obtain ⟨r, h1, h2⟩ := (s c hc).resolve_left g.2
                rw [e] at h1
                cases h1
                have := fw_lost n r2 (del M c) (t ++ [c]) (s.del c) h2
                rw [q] at this
                cases this
              have r2n := (rows_del m e).2
              have w := fw_won n r2 (del M c) (t ++ [c]) l (m.del c) r2n (by rw [q])
              have hcl : look l c = none := by
                rw [not_col]
                intro z
                rcases w.cols c z with y | y
                · exact not_col.mp (look_del_self (d := M) (c := c)) y
                · exact y (by simp)
              have ih2 := fw_same n r2 (del M c) (t ++ [c]) l (m.del c) r2n (s.del c) (by rw [q])
              intro x hx
              have ne : x ≠ c := fun z => hcD (z ▸ hx)
              rw [put_new hcl, look_app hcl, if_neg ne, ih2 x hx, look_del ne]
        · rw [loop_skip g] at h
          exact ih t hps s h
    exact key pl t (fun _ h => h) s h

/-! ### all rows -/
/-- behind the rows below i: what is seated, and the columns that failed searches left -/
structure Seated (pl : Pl) (i : Nat) (M : Dc) (D : List Nat) : Prop where
  mat : Mat pl M
  low : ∀ r ∈ M.map (·.2), r < i
  done : ∀ r, r < i → r ∈ M.map (·.2) ∨ ∀ c, (r, c) ∈ pl → c ∈ D
  shut : ∀ c ∈ D, ∃ r, look M c = some r ∧ ∀ c', (r, c') ∈ pl → c' ∈ D
def seatStep (pl : Pl) (M : Dc) (r : Nat) : Dc := ((fw pl 5 r M []).1).getD M
theorem seated_step (h4 : ∀ r c, (r, c) ∈ pl → c < 4) {i : Nat} {M : Dc} {D : List Nat} (S : Seated pl i M D) : ∃ D', Seated pl (i + 1) (seatStep pl M i) D' := by
  have hrow : i ∉ M.map (·.2) := fun q => Nat.lt_irrefl _ (S.low i q)
  unfold seatStep
  cases e : (fw pl 5 i M []).1 with
  | some L =>
    rw [Option.getD_some]
    have w := fw_won 5 i M [] L S.mat hrow e
    have sm := fw_same (D := D) 5 i M [] L S.mat hrow (fun c hc => .inr (S.shut c hc)) e
    refine ⟨D, w.mat, fun r hr => ?_, fun r hr => ?_, fun c hc => ?_⟩
    · rcases (w.rows r).mp hr with q | q
      · exact Nat.lt_succ_of_lt (S.low r q)
      · omega
    · by_cases q : r = i
      · exact .inl ((w.rows r).mpr (.inr q))
      · rcases S.done r (by omega) with z | z
        · exact .inl ((w.rows r).mpr (.inl z))
        · exact .inr z
    · obtain ⟨r, h1, h2⟩ := S.shut c hc
      exact ⟨r, by rw [sm c hc]; exact h1, h2⟩
  | none =>
    rw [Option.getD_none]
    have o := fw_out h4 5 i M [] ⟨List.nodup_nil, fun _ h => nomatch h⟩ (by simp)
    have f := o.2 e
    refine ⟨D ++ (fw pl 5 i M []).2, S.mat, fun r hr => Nat.lt_succ_of_lt (S.low r hr), fun r hr => ?_, fun c hc => ?_⟩
    · by_cases q : r = i
      · subst q
        exact .inr fun c hc => List.mem_append_right _ (f.own c hc)
      · rcases S.done r (by omega) with z | z
        · exact .inl z
        · exact .inr fun c hc => List.mem_append_left _ (z c hc)
    · rcases List.mem_append.mp hc with z | z
      · obtain ⟨r, h1, h2⟩ := S.shut c z
        exact ⟨r, h1, fun c' hc' => List.mem_append_left _ (h2 c' hc')⟩
      · obtain ⟨r, h1, h2⟩ := f.new c z (by simp)
        exact ⟨r, h1, fun c' hc' => List.mem_append_right _ (h2 c' hc')⟩
theorem seatsOf_succ (tall : Nat) : seatsOf pl (tall + 1) = seatStep pl (seatsOf pl tall) tall := by
  unfold seatsOf
  rw [List.range_succ, List.foldl_append]
  rfl
theorem seated (h4 : ∀ r c, (r, c) ∈ pl → c < 4) : ∀ tall : Nat, ∃ D, Seated pl tall (seatsOf pl tall) D
  | 0 => ⟨[], ⟨⟨List.nodup_nil, List.nodup_nil, fun _ _ h => nomatch h⟩, fun _ h => (nomatch h), fun _ h => (nomatch h), fun _ h => (nomatch h)⟩⟩
  | n + 1 => by
    obtain ⟨D, S⟩ := seated h4 n
    rw [seatsOf_succ]
    exact seated_step h4 S

/-! ### as many as there are: a matching and a cover of one size -/
structure Opt (pl : Pl) (M : Dc) (R C : List Nat) : Prop where
  mat : Mat pl M
  cov : Cov pl R C
  size : R.length + C.length = M.length
theorem Opt.same {M N : Dc} {R C R' C' : List Nat} (a : Opt pl M R C) (b : Opt pl N R' C') : M.length = N.length := by
  have h1 := weak a.mat b.cov
  have h2 := weak b.mat a.cov
  have h3 := a.size
  have h4 := b.size
  omega
def flip (l : List (Nat × Nat)) : List (Nat × Nat) := l.map fun p => (p.2, p.1)
theorem mem_flip {l : List (Nat × Nat)} {a b : Nat} : (a, b) ∈ flip l ↔ (b, a) ∈ l := by
  unfold flip
  rw [List.mem_map]
  constructor
  · rintro ⟨⟨x, y⟩, h, e⟩
    cases e
    exact h
  · intro h
    exact ⟨(b, a), h, rfl⟩
theorem flip_len (l : List (Nat × Nat)) : (flip l).length = l.length := List.length_map _
/-- the board turned about -/
theorem Opt.turn {M : Dc} {R C : List Nat} (o : Opt pl M R C) {pl' : Pl} (h : ∀ r c, (r, c) ∈ pl' ↔ (c, r) ∈ pl) : Opt pl' (flip M) C R := by
  refine ⟨⟨?_, ?_, fun c r q => ?_⟩, fun r c q => ?_, ?_⟩
  · have : (flip M).map (·.1) = M.map (·.2) := by unfold flip; rw [List.map_map]; rfl
    rw [this]
    exact o.mat.rows
  · have : (flip M).map (·.2) = M.map (·.1) := by unfold flip; rw [List.map_map]; rfl
    rw [this]
    exact o.mat.cols
  · exact (h r c).mpr (o.mat.on r c (mem_flip.mp q))
  · exact (o.cov c r ((h r c).mp q)).symm
  · rw [flip_len]
    have := o.size
    omega
theorem Opt.perm {M : Dc} {R C : List Nat} (o : Opt pl M R C) {pl' : Pl} (h : ∀ p, p ∈ pl' ↔ p ∈ pl) : Opt pl' M R C :=
  ⟨⟨o.mat.cols, o.mat.rows, fun c r q => (h _).mpr (o.mat.on c r q)⟩, fun r c q => o.cov r c ((h _).mp q), o.size⟩

/-! ### the cover that is told: what unseated rows come to -/
/-- one place looked at -/
def covTurn (M : Dc) (rows : List Nat) (row : Nat) (s : List Nat × List Nat) (p : Nat × Nat) : List Nat × List Nat :=
  if p.1 = row ∧ p.2 ∉ s.2 then
    (match look M p.2 with | some r => if r ∉ rows then s.1 ++ [r] else s.1 | none => s.1, s.2 ++ [p.2])
  else s
/-- the state: waiting, rows, columns -/
structure CS where
  wait : List Nat
  rows : List Nat
  cols : List Nat
def addRow (rows : List Nat) (row : Nat) : List Nat := if row ∈ rows then rows else rows ++ [row]
def covStep (pl : Pl) (M : Dc) (s : CS) : CS :=
  let row := s.wait.getLastD 0
  let q := pl.foldl (covTurn M (addRow s.rows row) row) (s.wait.dropLast, s.cols)
  ⟨q.1, addRow s.rows row, q.2⟩
theorem mem_addRow {rows : List Nat} {row x : Nat} : x ∈ addRow rows row ↔ x ∈ rows ∨ x = row := by
  unfold addRow
  split
  · rename_i h
    constructor
    · exact .inl
    · rintro (q | rfl)
      · exact q
      · exact h
  · simp
/-- what stands between two turns -/
structure CovInv (pl : Pl) (tall : Nat) (M : Dc) (D : List Nat) (s : CS) : Prop where
  why : ∀ r, r ∈ s.wait ∨ r ∈ s.rows → r < tall ∧ (r ∉ M.map (·.2) ∨ ∃ c ∈ s.cols, look M c = some r)
  seat : ∀ c ∈ s.cols, c ∈ D ∧ ∀ r, look M c = some r → r ∈ s.wait ∨ r ∈ s.rows
  full : ∀ r ∈ s.rows, ∀ c, (r, c) ∈ pl → c ∈ s.cols
  free : ∀ r, r < tall → r ∉ M.map (·.2) → r ∈ s.wait ∨ r ∈ s.rows
  nd : s.cols.Nodup
/-- .. while the places of a row are looked at -/
structure TurnInv (pl : Pl) (tall : Nat) (M : Dc) (D : List Nat) (rows : List Nat) (row : Nat) (seen : Pl) (s : List Nat × List Nat) : Prop where
  why : ∀ r, r ∈ s.1 ∨ r ∈ rows → r < tall ∧ (r ∉ M.map (·.2) ∨ ∃ c ∈ s.2, look M c = some r)
  seat : ∀ c ∈ s.2, c ∈ D ∧ ∀ r, look M c = some r → r ∈ s.1 ∨ r ∈ rows
  full : ∀ r ∈ rows, r ≠ row → ∀ c, (r, c) ∈ pl → c ∈ s.2
  now : ∀ c, (row, c) ∈ seen → c ∈ s.2
  free : ∀ r, r < tall → r ∉ M.map (·.2) → r ∈ s.1 ∨ r ∈ rows
  nd : s.2.Nodup
theorem turn_inv {tall : Nat} {M : Dc} {D rows : List Nat} {row : Nat} (S : Seated pl tall M D) (hrow : row ∈ rows) {seen : Pl} {s : List Nat × List Nat} {p : Nat × Nat} (hp : p ∈ pl)
    (J : TurnInv pl tall M D rows row seen s) : TurnInv pl tall M D rows row (seen ++ [p]) (covTurn M rows row s p) := by
  obtain ⟨n, c⟩ := p
  unfold covTurn
  by_cases g : n = row ∧ c ∉ s.2
  · rw [if_pos g]
    simp only
    have hD : ∀ c', (row, c') ∈ pl → c' ∈ D := by
      obtain ⟨hlt, h | ⟨x, hx, e⟩⟩ := J.why row (.inr hrow)
      · exact (S.done row hlt).resolve_left h
      · obtain ⟨r, e1, e2⟩ := S.shut x (J.seat x hx).1
        rw [e] at e1
        cases e1
        exact e2
    have hcD : c ∈ D := hD c (g.1 ▸ hp)
    obtain ⟨r2, e1, e2⟩ := S.shut c hcD
    rw [e1]
    simp only
    have grow : ∀ r, r ∈ s.1 → r ∈ (if r2 ∉ rows then s.1 ++ [r2] else s.1) := fun r hr => by
      split
      · exact List.mem_append_left _ hr
      · exact hr
    have r2in : r2 ∈ (if r2 ∉ rows then s.1 ++ [r2] else s.1) ∨ r2 ∈ rows := by
      by_cases z : r2 ∈ rows
      · exact .inr z
      · rw [if_pos z]
        exact .inl (by simp)
    refine ⟨fun r hr => ?_, fun x hx => ?_, fun r hr hne x hx => List.mem_append_left _ (J.full r hr hne x hx), fun x hx => ?_, fun r h1 h2 => ?_, ?_⟩
    · have old : r ∈ s.1 ∨ r ∈ rows → r < tall ∧ (r ∉ M.map (·.2) ∨ ∃ x ∈ s.2 ++ [c], look M x = some r) := fun q => by
        obtain ⟨a, b | ⟨x, hx, e⟩⟩ := J.why r q
        · exact ⟨a, .inl b⟩
        · exact ⟨a, .inr ⟨x, List.mem_append_left _ hx, e⟩⟩
      rcases hr with hr | hr
      · split at hr
        · rcases List.mem_append.mp hr with hr | hr
          · exact old (.inl hr)
          · have : r = r2 := by simpa using hr
            subst this
            exact ⟨S.low r (List.mem_map.mpr ⟨_, look_mem e1, rfl⟩), .inr ⟨c, by simp, e1⟩⟩
        · exact old (.inl hr)
      · exact old (.inr hr)
    · rcases List.mem_append.mp hx with hx | hx
      · obtain ⟨a, b⟩ := J.seat x hx
        exact ⟨a, fun r hr => (b r hr).imp (grow r) id⟩
      · have : x = c := by simpa using hx
        subst this
        refine ⟨hcD, fun r hr => ?_⟩
        rw [e1] at hr
        cases hr
        exact r2in
    · rcases List.mem_append.mp hx with hx | hx
      · exact List.mem_append_left _ (J.now x hx)
      · have : (row, x) = (n, c) := by simpa using hx
        cases this
        simp
    · exact (J.free r h1 h2).imp (grow r) id
    · rw [List.nodup_append]
      refine ⟨J.nd, by simp, fun a ha b hb e => ?_⟩
      have : b = c := by simpa using hb
      exact g.2 (this ▸ e ▸ ha)
  · rw [if_neg g]
    refine ⟨J.why, J.seat, J.full, fun x hx => ?_, J.free, J.nd⟩
    rcases List.mem_append.mp hx with hx | hx
    · exact J.now x hx
    · have : (row, x) = (n, c) := by simpa using hx
      cases this
      exact Decidable.byContradiction fun z => g ⟨rfl, z⟩
theorem turns_inv {tall : Nat} {M : Dc} {D rows : List Nat} {row : Nat} (S : Seated pl tall M D) (hrow : row ∈ rows) : ∀ (ps seen : Pl) (s : List Nat × List Nat), (∀ p ∈ ps, p ∈ pl) →
    TurnInv pl tall M D rows row seen s → TurnInv pl tall M D rows row (seen ++ ps) (ps.foldl (covTurn M rows row) s)
  | [], seen, s, _, J => by simpa using J
  | p :: ps, seen, s, hp, J => by
    have := turns_inv S hrow ps (seen ++ [p]) _ (fun q hq => hp q (List.mem_cons_of_mem _ hq)) (turn_inv S hrow (hp p List.mem_cons_self) J)
    rw [List.append_assoc] at this
    exact this
theorem last_split {l : List Nat} (h : l ≠ []) : ∀ x, x ∈ l ↔ x ∈ l.dropLast ∨ x = l.getLastD 0 := by
  intro x
  have e := List.dropLast_concat_getLast h
  have e2 : l.getLastD 0 = l.getLast h := by
    cases l with
    | nil => exact absurd rfl h
    | cons a l => simp [List.getLastD]
  rw [e2]
  conv => lhs; rw [← e]
  simp
theorem step_inv {tall : Nat} {M : Dc} {D : List Nat} (S : Seated pl tall M D) {s : CS} (J : CovInv pl tall M D s) (hw : s.wait ≠ []) : CovInv pl tall M D (covStep pl M s) := by
  have sp := last_split hw
  have hrow : s.wait.getLastD 0 ∈ addRow s.rows (s.wait.getLastD 0) := mem_addRow.mpr (.inr rfl)
  have J0 : TurnInv pl tall M D (addRow s.rows (s.wait.getLastD 0)) (s.wait.getLastD 0) [] (s.wait.dropLast, s.cols) := by
    refine ⟨fun r hr => J.why r ?_, fun c hc => ⟨(J.seat c hc).1, fun r hr => ?_⟩, fun r hr hne => J.full r ?_, fun _ h => (nomatch h), fun r h1 h2 => ?_, J.nd⟩
    · rcases hr with hr | hr
      · exact .inl ((sp r).mpr (.inl hr))
      · rcases mem_addRow.mp hr with hr | hr
        · exact .inr hr
        · exact .inl ((sp r).mpr (.inr hr))
    · rcases (J.seat c hc).2 r hr with q | q
      · rcases (sp r).mp q with q | q
        · exact .inl q
        · exact .inr (mem_addRow.mpr (.inr q))
      · exact .inr (mem_addRow.mpr (.inl q))
    · exact (mem_addRow.mp hr).resolve_right hne
    · rcases J.free r h1 h2 with q | q
      · rcases (sp r).mp q with q | q
        · exact .inl q
        · exact .inr (mem_addRow.mpr (.inr q))
      · exact .inr (mem_addRow.mpr (.inl q))
  have J1 := turns_inv S hrow pl [] _ (fun _ h => h) J0
  rw [List.nil_append] at J1
  refine ⟨J1.why, J1.seat, fun r hr c hc => ?_, J1.free, J1.nd⟩
  by_cases e : r = s.wait.getLastD 0
  · exact J1.now c (e ▸ hc)
  · exact J1.full r hr e c hc
/-- how many turns are left at most -/
def covM (s : CS) : Nat := s.wait.length + (4 - s.cols.length)
theorem turns_m {M : Dc} {rows : List Nat} {row : Nat} : ∀ (ps : Pl) (s : List Nat × List Nat), (∀ p ∈ ps, p.2 < 4) → s.2.Nodup → (∀ c ∈ s.2, c < 4) →
    (ps.foldl (covTurn M rows row) s).2.Nodup ∧ (∀ c ∈ (ps.foldl (covTurn M rows row) s).2, c < 4) ∧
    (ps.foldl (covTurn M rows row) s).1.length + (4 - (ps.foldl (covTurn M rows row) s).2.length) ≤ s.1.length + (4 - s.2.length)
  | [], s, _, h1, h2 => ⟨h1, h2, Nat.le_refl _⟩
  | p :: ps, s, hp, h1, h2 => by
    have key : (covTurn M rows row s p).2.Nodup ∧ (∀ c ∈ (covTurn M rows row s p).2, c < 4) ∧ (covTurn M rows row s p).1.length + (4 - (covTurn M rows row s p).2.length) ≤ s.1.length + (4 - s.2.length) := by
      unfold covTurn
      by_cases g : p.1 = row ∧ p.2 ∉ s.2
      · rw [if_pos g]
        have t : Tr s.2 := ⟨h1, h2⟩
        have t2 := t.snoc g.2 (hp p List.mem_cons_self)
        refine ⟨t2.nd, t2.lt, ?_⟩
        have l2 := t2.len
        simp only [List.length_append, List.length_singleton] at l2 ⊢
        split
        · split
          · rw [List.length_append, List.length_singleton]
            omega
          · omega
        · omega
      · rw [if_neg g]
        exact ⟨h1, h2, Nat.le_refl _⟩
    have ih := turns_m (M := M) (rows := rows) (row := row) ps _ (fun q hq => hp q (List.mem_cons_of_mem _ hq)) key.1 key.2.1
    exact ⟨ih.1, ih.2.1, Nat.le_trans ih.2.2 key.2.2⟩
theorem step_m {M : Dc} {s : CS} (hp : ∀ r c, (r, c) ∈ pl → c < 4) (h1 : s.cols.Nodup) (h2 : ∀ c ∈ s.cols, c < 4) (hw : s.wait ≠ []) : covM (covStep pl M s) < covM s := by
  have h := (turns_m (M := M) (rows := addRow s.rows (s.wait.getLastD 0)) (row := s.wait.getLastD 0) pl (s.wait.dropLast, s.cols) (fun p q => hp p.1 p.2 q) h1 h2).2.2
  have hl : 0 < s.wait.length := List.length_pos_iff.mpr hw
  have : s.wait.dropLast.length = s.wait.length - 1 := List.length_dropLast
  unfold covM covStep
  simp only at h ⊢
  omega
/-- the two lists at the end -/
theorem cov_end {tall : Nat} {M : Dc} {D : List Nat} (S : Seated pl tall M D) (hp : ∀ r c, (r, c) ∈ pl → r < tall) {s : CS} (J : CovInv pl tall M D s) (hw : s.wait = []) :
    Opt pl M ((List.range tall).filter fun r => decide (r ∉ s.rows)) s.cols := by
  have no : ∀ r, r ∈ s.wait → False := fun r h => by rw [hw] at h; cases h
  refine ⟨S.mat, fun r c h => ?_, ?_⟩
  · by_cases q : r ∈ s.rows
    · exact .inr (J.full r q c h)
    · exact .inl (List.mem_filter.mpr ⟨List.mem_range.mpr (hp r c h), by simpa using q⟩)
  · rw [← filter_both (fun p => decide (p.1 ∉ s.cols)) M]
    congr 1
    · rw [← List.length_map (f := fun p : Nat × Nat => p.2) (as := M.filter _)]
      refine nodup_eq (List.Sublist.nodup List.filter_sublist List.nodup_range) (map_nodup_filter S.mat.rows _) fun r => ?_
      rw [List.mem_filter, List.mem_range, List.mem_map]
      constructor
      · rintro ⟨h1, h2⟩
        have hr : r ∉ s.rows := by simpa using h2
        have hm : r ∈ M.map (·.2) := Decidable.byContradiction fun q => (J.free r h1 q).elim (no r) hr
        obtain ⟨⟨c, r'⟩, hcr, e⟩ := List.mem_map.mp hm
        have e : r' = r := e
        subst e
        refine ⟨(c, r'), List.mem_filter.mpr ⟨hcr, ?_⟩, rfl⟩
        simp only [decide_eq_true_eq]
        intro hc
        exact ((J.seat c hc).2 r' ((look_some S.mat.cols).mpr hcr)).elim (no r') hr
      · rintro ⟨⟨c, r'⟩, hcr, e⟩
        have e : r' = r := e
        subst e
        obtain ⟨h1, h2⟩ := List.mem_filter.mp hcr
        have hc : c ∉ s.cols := by simpa using h2
        refine ⟨S.low r' (List.mem_map.mpr ⟨_, h1, rfl⟩), ?_⟩
        simp only [decide_eq_true_eq]
        intro hr
        obtain ⟨_, q | ⟨x, hx, e⟩⟩ := J.why r' (.inr hr)
        · exact q (List.mem_map.mpr ⟨_, h1, rfl⟩)
        · have := inj2 S.mat.rows h1 (look_mem e) rfl
          have : c = x := congrArg Prod.fst this
          exact hc (this ▸ hx)
    · rw [← List.length_map (f := fun p : Nat × Nat => p.1) (as := M.filter _)]
      refine nodup_eq J.nd (map_nodup_filter S.mat.cols _) fun c => ?_
      rw [List.mem_map]
      constructor
      · intro hc
        obtain ⟨r, e, _⟩ := S.shut c (J.seat c hc).1
        exact ⟨(c, r), List.mem_filter.mpr ⟨look_mem e, by simpa using hc⟩, rfl⟩
      · rintro ⟨⟨c', r⟩, h, e⟩
        have e : c' = c := e
        subst e
        simpa using (List.mem_filter.mp h).2
theorem cov_start {tall : Nat} {M : Dc} {D : List Nat} (S : Seated pl tall M D) : CovInv pl tall M D ⟨(List.range tall).filter fun r => decide (r ∉ M.map (·.2)), [], []⟩ := by
  refine ⟨fun r hr => ?_, fun _ h => (nomatch h), fun _ h => (nomatch h), fun r h1 h2 => .inl (List.mem_filter.mpr ⟨List.mem_range.mpr h1, by simpa using h2⟩), List.nodup_nil⟩
  rcases hr with hr | hr
  · obtain ⟨a, b⟩ := List.mem_filter.mp hr
    exact ⟨List.mem_range.mp a, .inl (by simpa using b)⟩
  · cases hr

/-! ### the law's own going through -/
def mostTurn (rec : List Nat → Nat) (row : Nat) (used : List Nat) (found : Nat) (p : Nat × Nat) : Nat :=
  if p.1 = row ∧ p.2 ∉ used then max found (1 + rec (used ++ [p.2])) else found
def mostM (pl : Pl) : Nat → Nat → List Nat → Nat
  | 0, _, _ => 0
  | k + 1, row, used => pl.foldl (mostTurn (mostM pl k (row + 1)) row used) (mostM pl k (row + 1) used)
theorem fold_le {rec : List Nat → Nat} {row : Nat} {used : List Nat} {B : Nat} : ∀ (ps : Pl) (f : Nat), f ≤ B → (∀ p ∈ ps, p.1 = row → p.2 ∉ used → 1 + rec (used ++ [p.2]) ≤ B) → ps.foldl (mostTurn rec row used) f ≤ B
  | [], _, h, _ => h
  | p :: ps, f, h, hp => by
    refine fold_le ps _ ?_ fun q hq => hp q (List.mem_cons_of_mem _ hq)
    unfold mostTurn
    split
    · rename_i g
      exact Nat.max_le.mpr ⟨h, hp p List.mem_cons_self g.1 g.2⟩
    · exact h
theorem le_fold {rec : List Nat → Nat} {row : Nat} {used : List Nat} : ∀ (ps : Pl) (f : Nat), f ≤ ps.foldl (mostTurn rec row used) f
  | [], _ => Nat.le_refl _
  | p :: ps, f => by
    refine Nat.le_trans ?_ (le_fold ps _)
    unfold mostTurn
    split
    · exact Nat.le_max_left ..
    · exact Nat.le_refl _
theorem at_fold {rec : List Nat → Nat} {row : Nat} {used : List Nat} {c : Nat} (hc : c ∉ used) : ∀ (ps : Pl) (f : Nat), (row, c) ∈ ps → 1 + rec (used ++ [c]) ≤ ps.foldl (mostTurn rec row used) f
  | [], _, h => nomatch h
  | p :: ps, f, h => by
    rcases List.mem_cons.mp h with h | h
    · refine Nat.le_trans ?_ (le_fold ps _)
      subst h
      unfold mostTurn
      rw [if_pos ⟨rfl, hc⟩]
      exact Nat.le_max_right ..
    · exact at_fold hc ps _ h
theorem filter_drop {C used : List Nat} {c : Nat} (hc : c ∈ C) (hu : c ∉ used) : (C.filter fun x => decide (x ∉ used ++ [c])).length + 1 ≤ (C.filter fun x => decide (x ∉ used)).length := by
  induction C with
  | nil => cases hc
  | cons y C ih =>
    have le : ∀ C : List Nat, (C.filter fun x => decide (x ∉ used ++ [c])).length ≤ (C.filter fun x => decide (x ∉ used)).length := by
      intro C
      induction C with
      | nil => exact Nat.le_refl _
      | cons z C ih =>
        by_cases h : z ∈ used
        · rw [List.filter_cons_of_neg (by simp [h]), List.filter_cons_of_neg (by simp [h])]
          exact ih
        · rw [List.filter_cons_of_pos (p := fun x => decide (x ∉ used)) (by simp [h])]
          by_cases h2 : z = c
          · rw [List.filter_cons_of_neg (by simp [h2])]
            exact Nat.le_succ_of_le ih
          · rw [List.filter_cons_of_pos (by simp [h, h2])]
            exact Nat.succ_le_succ ih
    by_cases e : y = c
    · subst e
      rw [List.filter_cons_of_neg (by simp), List.filter_cons_of_pos (by simp [hu])]
      exact Nat.succ_le_succ (le C)
    · have hc' : c ∈ C := (List.mem_cons.mp hc).resolve_left fun z => e z.symm
      have ih := ih hc'
      by_cases h : y ∈ used
      · rw [List.filter_cons_of_neg (by simp [h]), List.filter_cons_of_neg (by simp [h])]
        exact ih
      · rw [List.filter_cons_of_pos (by simp [h, e]), List.filter_cons_of_pos (by simp [h])]
        exact Nat.succ_le_succ ih
theorem filter_low {R : List Nat} {row : Nat} : (R.filter fun r => decide (row + 1 ≤ r)).length ≤ (R.filter fun r => decide (row ≤ r)).length ∧
    (row ∈ R → (R.filter fun r => decide (row + 1 ≤ r)).length + 1 ≤ (R.filter fun r => decide (row ≤ r)).length) := by
  induction R with
  | nil => exact ⟨Nat.le_refl _, fun h => nomatch h⟩
  | cons x R ih =>
    obtain ⟨i1, i2⟩ := ih
    by_cases e : x = row
    · subst e
      rw [List.filter_cons_of_neg (by simp), List.filter_cons_of_pos (by simp)]
      exact ⟨Nat.le_succ_of_le i1, fun _ => Nat.succ_le_succ i1⟩
    · by_cases h : row ≤ x
      · rw [List.filter_cons_of_pos (by simp; omega), List.filter_cons_of_pos (by simp [h])]
        exact ⟨Nat.succ_le_succ i1, fun q => Nat.succ_le_succ (i2 ((List.mem_cons.mp q).resolve_left fun z => e z.symm))⟩
      · rw [List.filter_cons_of_neg (by simp; omega), List.filter_cons_of_neg (by simp [h])]
        exact ⟨i1, fun q => i2 ((List.mem_cons.mp q).resolve_left fun z => e z.symm)⟩
theorem most_le {R C : List Nat} (k : Cov pl R C) : ∀ (n row : Nat) (used : List Nat), mostM pl n row used ≤ (R.filter fun r => decide (row ≤ r)).length + (C.filter fun c => decide (c ∉ used)).length
  | 0, _, _ => Nat.zero_le _
  | n + 1, row, used => by
    have fl := filter_low (R := R) (row := row)
    refine fold_le pl _ ?_ fun p hp e hu => ?_
    · have := most_le k n (row + 1) used
      omega
    · have ih := most_le k n (row + 1) (used ++ [p.2])
      rcases k p.1 p.2 hp with h | h
      · have h1 := fl.2 (e ▸ h)
        have h2 : (C.filter fun c => decide (c ∉ used ++ [p.2])).length ≤ (C.filter fun c => decide (c ∉ used)).length := by
          by_cases z : p.2 ∈ C
          · have := filter_drop z hu
            omega
          · refine Nat.le_of_eq (congrArg List.length (List.filter_congr fun x hx => ?_))
            have : x ≠ p.2 := fun q => z (q ▸ hx)
            simp [this]
        omega
      · have h1 := filter_drop h hu
        have h2 := fl.1
        omega
theorem le_most {M : Dc} (m : Mat pl M) : ∀ (n row : Nat) (used : List Nat), (∀ p ∈ M, p.2 < row + n) → (M.filter fun p => decide (row ≤ p.2) && decide (p.1 ∉ used)).length ≤ mostM pl n row used
  | 0, row, used, h => by
    rw [List.filter_eq_nil_iff.mpr]
    · exact Nat.zero_le _
    · intro p hp
      have := h p hp
      simp
      omega
  | n + 1, row, used, h => by
    have ih := fun u => le_most m n (row + 1) u fun p hp => by have := h p hp; omega
    by_cases q : ∃ c, (c, row) ∈ M ∧ c ∉ used
    · obtain ⟨c, hc, hu⟩ := q
      refine Nat.le_trans ?_ (at_fold hu pl _ (m.on c row hc))
      refine Nat.le_trans ?_ (Nat.add_le_add_left (ih (used ++ [c])) 1)
      -- all but (c, row) are counted behind
      have key : ∀ {l : Dc}, (l.map (·.1)).Nodup → (l.map (·.2)).Nodup → (∀ p ∈ l, p.1 = c → p.2 = row) → (∀ p ∈ l, p.2 = row → p.1 = c) →
          (l.filter fun p => decide (row ≤ p.2) && decide (p.1 ∉ used)).length ≤ 1 + (l.filter fun p => decide (row + 1 ≤ p.2) && decide (p.1 ∉ used ++ [c])).length := by
        intro l
        induction l with
        | nil => intro _ _ _ _; exact Nat.zero_le _
        | cons p l ih2 =>
          intro n1 n2 a1 a2
          rw [List.map_cons, List.nodup_cons] at n1 n2
          by_cases e : p.1 = c
          · have e2 := a1 p List.mem_cons_self e
            have same : (l.filter fun p => decide (row ≤ p.2) && decide (p.1 ∉ used)) = l.filter fun p => decide (row + 1 ≤ p.2) && decide (p.1 ∉ used ++ [c]) := by
              refine List.filter_congr fun x hx => ?_
              have x1 : x.1 ≠ c := fun z => n1.1 (by rw [e, ← z]; exact List.mem_map_of_mem hx)
              have x2 : x.2 ≠ row := fun z => n2.1 (by rw [e2, ← z]; exact List.mem_map_of_mem hx)
              have : decide (row ≤ x.2) = decide (row + 1 ≤ x.2) := decide_eq_decide.mpr (by omega)
              rw [this]
              simp [x1]
            rw [List.filter_cons_of_pos (by simp [e, e2, hu]), List.filter_cons_of_neg (by simp [e]), same]
            show _ + 1 ≤ 1 + _
            omega
          · have e2 : p.2 ≠ row := fun z => e (a2 p List.mem_cons_self z)
            have ih3 := ih2 n1.2 n2.2 (fun x hx => a1 x (List.mem_cons_of_mem _ hx)) (fun x hx => a2 x (List.mem_cons_of_mem _ hx))
            by_cases g : row ≤ p.2 ∧ p.1 ∉ used
            · rw [List.filter_cons_of_pos (by simp [g]), List.filter_cons_of_pos (by simp [g, e]; omega)]
              show _ + 1 ≤ 1 + (_ + 1)
              omega
            · rw [List.filter_cons_of_neg (by simpa using g), List.filter_cons_of_neg (by simp [e]; intro z; simp at g; exact g (by omega))]
              exact ih3
      refine key m.cols m.rows (fun p hp e => ?_) fun p hp e => ?_
      · have h1 := (look_some m.cols).mpr hc
        obtain ⟨a, b⟩ := p
        have e : a = c := e
        subst e
        have h2 := (look_some m.cols).mpr hp
        rw [h1] at h2
        exact (Option.some.inj h2).symm
      · exact congrArg (·.1) (inj2 m.rows hp hc e)
    · refine Nat.le_trans ?_ (le_fold pl _)
      refine Nat.le_trans (Nat.le_of_eq (congrArg List.length (List.filter_congr fun p hp => ?_))) (ih used)
      by_cases hu : p.1 ∈ used
      · simp [hu]
      · have : p.2 ≠ row := fun e => q ⟨p.1, by rw [← e]; exact hp, hu⟩
        have : decide (row ≤ p.2) = decide (row + 1 ≤ p.2) := decide_eq_decide.mpr (by omega)
        rw [this]
theorem filter_len {α : Type} (p : α → Bool) (l : List α) : (l.filter p).length ≤ l.length := List.length_filter_le ..
theorem most_is {M : Dc} {R C : List Nat} (o : Opt pl M R C) {tall : Nat} (h : ∀ r c, (r, c) ∈ pl → r < tall) : mostM pl tall 0 [] = M.length := by
  refine Nat.le_antisymm ?_ ?_
  · refine Nat.le_trans (most_le o.cov tall 0 []) ?_
    rw [← o.size]
    exact Nat.add_le_add (filter_len ..) (filter_len ..)
  · refine Nat.le_trans (Nat.le_of_eq ?_) (le_most o.mat tall 0 [] fun p hp => by have := h _ _ (o.mat.on p.1 p.2 hp); omega)
    rw [List.filter_eq_self.mpr]
    intro p _
    simp

/-! ### the fewest rows and columns, by all lots of rows -/
def lots : Nat → List (List Nat)
  | 0 => [[]]
  | n + 1 => lots n ++ (lots n).map fun l => l ++ [n]
theorem lots_has (f : Nat → Bool) : ∀ n : Nat, (List.range n).filter f ∈ lots n
  | 0 => by simp [lots]
  | n + 1 => by
    have ih := lots_has f n
    rw [List.range_succ, List.filter_append]
    unfold lots
    rw [List.mem_append]
    cases h : f n with
    | true =>
      right
      rw [List.filter_cons_of_pos h, List.filter_nil]
      exact List.mem_map.mpr ⟨_, ih, rfl⟩
    | false =>
      left
      rw [List.filter_cons_of_neg (by simp [h]), List.filter_nil, List.append_nil]
      exact ih
/-- the columns of the places off some rows, each once -/
def offCols (pl : Pl) (rows : List Nat) : List Nat := ((pl.filter fun p => decide (p.1 ∉ rows)).map (·.2)).foldl (fun l c => if c ∈ l then l else l ++ [c]) []
theorem dedup_mem : ∀ (xs l : List Nat) (x : Nat), x ∈ xs.foldl (fun l c => if c ∈ l then l else l ++ [c]) l ↔ x ∈ l ∨ x ∈ xs
  | [], l, x => by simp
  | y :: xs, l, x => by
    rw [List.foldl_cons, dedup_mem xs]
    split
    · rename_i h
      constructor
      · rintro (q | q)
        · exact .inl q
        · exact .inr (List.mem_cons_of_mem _ q)
      · rintro (q | q)
        · exact .inl q
        · rcases List.mem_cons.mp q with rfl | q
          · exact .inl h
          · exact .inr q
    · rw [List.mem_append, List.mem_cons]
      simp [or_assoc]
theorem dedup_nodup : ∀ (xs l : List Nat), l.Nodup → (xs.foldl (fun l c => if c ∈ l then l else l ++ [c]) l).Nodup
  | [], _, h => h
  | y :: xs, l, h => by
    rw [List.foldl_cons]
    refine dedup_nodup xs _ ?_
    split
    · exact h
    · rename_i g
      rw [List.nodup_append]
      refine ⟨h, by simp, fun a ha b hb e => g ?_⟩
      have hb : b = y := by simpa using hb
      exact hb ▸ e ▸ ha
theorem mem_off {rows : List Nat} {c : Nat} : c ∈ offCols pl rows ↔ ∃ r, (r, c) ∈ pl ∧ r ∉ rows := by
  unfold offCols
  rw [dedup_mem, List.mem_map]
  constructor
  · rintro (q | ⟨⟨r, c'⟩, hp, e⟩)
    · cases q
    · have e : c' = c := e
      subst e
      obtain ⟨a, b⟩ := List.mem_filter.mp hp
      exact ⟨r, a, by simpa using b⟩
  · rintro ⟨r, a, b⟩
    exact .inr ⟨(r, c), List.mem_filter.mpr ⟨a, by simpa using b⟩, rfl⟩
def fewestM (pl : Pl) (tall : Nat) : Nat := (lots tall).foldl (fun f rows => min f (rows.length + (offCols pl rows).length)) 99
theorem fold_min_le {g : List Nat → Nat} : ∀ (ls : List (List Nat)) (f : Nat) (l : List Nat), l ∈ ls → ls.foldl (fun f l => min f (g l)) f ≤ g l
  | [], _, _, h => nomatch h
  | x :: ls, f, l, h => by
    have le : ∀ (ls : List (List Nat)) (f : Nat), ls.foldl (fun f l => min f (g l)) f ≤ f := by
      intro ls
      induction ls with
      | nil => intro f; exact Nat.le_refl _
      | cons y ls ih => intro f; exact Nat.le_trans (ih _) (Nat.min_le_left ..)
    rcases List.mem_cons.mp h with rfl | h
    · exact Nat.le_trans (le ls _) (Nat.min_le_right ..)
    · exact fold_min_le ls _ l h
theorem le_fold_min {g : List Nat → Nat} {B : Nat} : ∀ (ls : List (List Nat)) (f : Nat), B ≤ f → (∀ l ∈ ls, B ≤ g l) → B ≤ ls.foldl (fun f l => min f (g l)) f
  | [], _, h, _ => h
  | x :: ls, f, h, hg => le_fold_min ls _ (Nat.le_min.mpr ⟨h, hg x List.mem_cons_self⟩) fun l hl => hg l (List.mem_cons_of_mem _ hl)
theorem fewest_is {M : Dc} {R C : List Nat} (o : Opt pl M R C) (nR : R.Nodup) (nC : C.Nodup) {tall : Nat} (h : ∀ r c, (r, c) ∈ pl → r < tall) (h4 : tall ≤ 4) : fewestM pl tall = M.length := by
  have low : ∀ rows, M.length ≤ rows.length + (offCols pl rows).length := fun rows => by
    refine weak o.mat fun r c hp => ?_
    by_cases q : r ∈ rows
    · exact .inl q
    · exact .inr (mem_off.mpr ⟨r, hp, q⟩)
  refine Nat.le_antisymm ?_ ?_
  · refine Nat.le_trans (fold_min_le (g := fun rows => rows.length + (offCols pl rows).length) _ _ _ (lots_has (fun r => decide (r ∈ R)) tall)) ?_
    rw [← o.size]
    refine Nat.add_le_add ?_ ?_
    · exact nodup_le (List.Sublist.nodup List.filter_sublist List.nodup_range) fun y hy => by simpa using (List.mem_filter.mp hy).2
    · refine nodup_le (dedup_nodup _ _ List.nodup_nil) fun c hc => ?_
      obtain ⟨r, hp, hr⟩ := mem_off.mp hc
      refine (o.cov r c hp).resolve_left fun q => hr ?_
      exact List.mem_filter.mpr ⟨List.mem_range.mpr (h r c hp), by simpa using q⟩
  · refine le_fold_min _ _ ?_ fun l _ => low l
    have : M.length ≤ 4 := by
      have := nodup_le (l := M.map (·.2)) (m := List.range tall) o.mat.rows fun r hr => by
        obtain ⟨⟨c, r'⟩, hp, e⟩ := List.mem_map.mp hr
        have e : r' = r := e
        subst e
        exact List.mem_range.mpr (h r' c (o.mat.on c r' hp))
      rw [List.length_map, List.length_range] at this
      omega
    omega
/-- one place less: as many or one less -/
theorem less_one {pl' : Pl} {M N : Dc} {R C R' C' : List Nat} (a : Opt pl M R C) (b : Opt pl' N R' C') (x : Nat × Nat) (h : ∀ p, p ∈ pl → p = x ∨ p ∈ pl') (h' : ∀ p, p ∈ pl' → p ∈ pl) : M.length ≤ N.length + 1 ∧ N.length ≤ M.length := by
  constructor
  · have k : Cov pl (x.1 :: R') C' := fun r c hp => by
      rcases h _ hp with e | e
      · exact .inl (by rw [← e]; exact List.mem_cons_self)
      · rcases b.cov r c e with q | q
        · exact .inl (List.mem_cons_of_mem _ q)
        · exact .inr q
    have := weak a.mat k
    have := b.size
    simp only [List.length_cons] at *
    omega
  · have := weak (M := N) (pl := pl) ⟨b.mat.cols, b.mat.rows, fun c r q => h' _ (b.mat.on c r q)⟩ a.cov
    have := a.size
    omega
end
end B71

/-! ### promises where nothing is being shown (guards: none) -/
namespace B71
open PySem PySem.Spec PyProof.Rows L2
/-- a promise that is kept wherever no repr is under way -/
structure FnG (P : Program) (w : World) (K : PySem.W.Frag) (mg : Str → Option Value) (base : Heap) (k : Nat) (f : Addr) (fd : FuncData) (ps : List Str) (sp : Sp) : Prop where
  many : ∀ vs H Q E, sp vs H Q E → vs.length = ps.length
  go : ∀ (A : Around) (outer : List Env) (s : Shared) (H : Hp) (args : Args) (us : List Value) (vs : List V) (Q : VK), A.guards = some [] → Room k A →
    Env0 P w K mg base A outer s H → BindsTo s fd args (ps.zip us) → Vals vs us → sp vs H Q E0 → codeAny (model P w) A (.call (.ref f) args) (CR CX0 outer P w H s Q E0) s
section
variable {P : Program} {w : World} {K : PySem.W.Frag} {mg : Str → Option Value} {base : Heap}
theorem FnG.of {k : Nat} {f : Addr} {fd : FuncData} {ps : List Str} {sp : Sp} (F : FnOk P w K mg base CX0 k f fd ps sp) : FnG P w K mg base k f fd ps sp :=
  ⟨F.len, fun A outer s H args us vs Q _ => F.run A outer s H args us vs Q E0⟩
theorem FnG.up {j k : Nat} {f : Addr} {fd : FuncData} {ps : List Str} {sp : Sp} (F : FnG P w K mg base j f fd ps sp) (h : j ≤ k) : FnG P w K mg base k f fd ps sp :=
  ⟨F.many, fun A outer s H args us vs Q g hr => F.go A outer s H args us vs Q g (hr.mono h)⟩
theorem deeper_guards {A : Around} {env : Env} (h : A.guards = some []) : (A.deeper env).guards = some [] := by
  first
    | exact h
    | (unfold Around.deeper; exact h)
    | (simp [Around.deeper, h])
/-- .. by the body -/
theorem okG {x qual : Str} {st : Stmt} {f : Addr} {fd : FuncData} {N ps : List Str} {k : Nat} {sp : Sp} (F : Fun K x qual st f fd) (S : FnScope N ps (defScope st)) (many : ∀ vs H Q E, sp vs H Q E → vs.length = ps.length)
    (walk : ∀ (cdv : Value) (A : Around) (outer : List Env) (s : Shared) (H : Hp) (vs : List V) (Q : VK), A.guards = some [] → Room k (A.deeper (envOfC qual (defScope st) s.heap.objs.size f cdv)) → sp vs H Q E0 →
      ∃ t, PSs (cxOf CX0 P w K mg base N qual (defScope st) f cdv A outer s H E0).nox (defBody st) t ∧ t { nx := fun _ H' => Q .non H', rt := Q } (start N vs) H) : FnG P w K mg base (k + 1) f fd ps sp := by
  obtain ⟨oc, od, kV, doc, pm, an, cdv, ct, osl, rfl, lk, hcd⟩ := F.ex
  refine ⟨many, fun A outer s H args us vs Q g hr e0 hb r hsp => ?_⟩
  have back := fun b o e => (e0.bs b o e).1
  have KX := e0.mod.kin.keeps back
  have kinds : ∀ y ∈ ps.zip us, (defScope st).names.lookup y.1 = some .local ∨ ((defScope st).names.lookup y.1 = some .cell ∧ ((cellsFrom (s.heap.objs.size + 1) (defScope st).names []).lookup y.1).isSome = true) := by
    rintro ⟨n, v⟩ hy
    exact (S.par n (List.of_mem_zip hy).1).imp id fun q => ⟨q, PySem.W.cellsFrom_some _ _ _ (.inl q)⟩
  refine codeAny_call_function hr.depth (KX _ _ lk) rfl S.co S.gen rfl (PySem.W.codeRec_of KX hcd) (hb _ _ _ _ (wpAny_newFunctionEnv_cells S.kind kinds fun env he s1 inC => ?_))
  subst he
  refine ⟨(e0.mod.nolimit.keeps back).keeps inC.toInCall.keep, codeAny_func ?_⟩
  obtain ⟨t, ht, hq⟩ := walk cdv A outer s H vs Q g (hr.deeper _) hsp
  have J0 := inv_start (CX := CX0) (E := E0) S hr.hd e0 (many _ _ _ _ hsp) r inC
  refine wpAny_mono (ht.nox.run [] s1 (start N vs) H _ J0 hq) (fun fl s' hs => ?_) fun e s' hs => hs
  cases fl with
  | ret u =>
    obtain ⟨v, σ', H', J, rv, q⟩ := hs
    exact ⟨v, H', J.os, J.bare, J.base, J.hok, rv, q⟩
  | next =>
    obtain ⟨σ', H', J, q⟩ := hs
    exact ⟨V.non, H', J.os, J.bare, J.base, J.hok, rfl, q⟩
  | brk => exact hs.elim fun _ z => z.elim fun _ y => y.2.elim
  | cont => exact hs.elim fun _ z => z.elim fun _ y => y.2.elim
end
section
variable {X : Cx} {k : Nat} {f : Addr} {fd : FuncData} {ps : List Str} {sp : Sp} {x : Str} {p pos : Pos} {e : Expr} {es : List Expr} {t : TA}
theorem runG {pins : List (Addr × Obj)} {σ : L2.St} {H : Hp} {s : Shared} {Q : VK} {args : Args} {ws : List Value} {zs : List V} (F : FnG X.prog X.w X.K X.mg X.base k f fd ps sp) (hg : X.A.guards = some []) (hr : Room k X.A)
    (hb : (ws.length = ps.length) → BindsTo s fd args (ps.zip ws)) (I : Inv X pins σ H s) (r : Vals zs ws) (h : sp zs H Q E0) : codeAny (model X.prog X.w) X.A (.call (.ref f) args) (fun r s' => match r with | .ok (.ret u) => EP X pins σ Q u s' | _ => False) s := by
  have hl : ws.length = ps.length := by rw [← r.length]; exact F.many _ _ _ _ h
  refine codeAny_mono (F.go X.A X.stack s H args ws zs Q hg hr I.env0 (hb hl) r h) fun r s' hq => ?_
  cases r with
  | error e => exact False.elim hq
  | ok fl =>
    cases fl with
    | ret u => exact I.after hq
    | next => exact False.elim hq
    | brk => exact False.elim hq
    | cont => exact False.elim hq
theorem pe_callG (F : FnG X.prog X.w X.K X.mg X.base k f fd ps sp) (hgd : X.A.guards = some []) (hr : Room k X.A) (hm : X.mg x = some (.ref f)) (hk : PySem.W.keepIn X.K (.ref f) = true) (hb : Binds X.K fd ps [])
    (ha : PA X (e :: es) t) (hg : Gl X x := by rfl) (hdb : (x == ("__debug__" : Str)) = false := by decide) (he : starEach (e :: es) X.env = (false, eval e X.env) :: starEach es X.env := by rfl)
    (hpl : (backTo pos (starEach es X.env)).any (·.1) = false := by rfl) : PE X (.Call (.Name x p) (e :: es) [] pos) (fun σ H Q => t σ H fun vs H1 => sp vs H1 Q E0) := by
  refine ⟨fun pins s σ H Q I h => wpAny_Call_Name_kw (ld_glob I hg hm ?_ hdb)⟩
  refine PySem.W.callWith_K (h₀ := X.base) I.ok.mod.kin hk (thn (ha.run pos pins s σ H _ I h) fun us s1 ⟨vs, H1, I1, r, q⟩ => ⟨I1.kIn, ?_⟩) he hpl
  refine wpAny_call (codeAny_mono (runG F hgd hr (fun hl => by have z := hb s1 us I1.kIn (by rw [List.append_nil]; exact hl); rw [List.append_nil] at z; exact z) I1 r q) fun r s' hq => ?_)
  cases r with
  | error e => exact hq.elim
  | ok fl =>
    cases fl with
    | ret u => exact hq
    | next => exact hq.elim
    | brk => exact hq.elim
    | cont => exact hq.elim
end
/-! ### repr of data -/
section
variable {X : Cx}
def rReprD (K : PySem.W.Frag) : List V → Hp → VK → Prop := fun xs H Q => ∃ (a : Addr) (d : PyData), xs = [.ref a] ∧ Dp K H (.ref a) d ∧ d.showable = true ∧ d.hasDict = false ∧ d.depth ≤ 60 ∧ d.shown.length ≤ sizeLine ∧ Q (.str d.shown) H
theorem call_reprD (hg : X.A.guards = some []) (hu : X.A.units + 64 < cLine) : CallR X (.builtin "repr") (rReprD X.K) := by
  intro pins s σ H xs us Q I r h
  obtain ⟨a, d, rfl, hd, h1, h2, h3, h4, q⟩ := h
  obtain rfl := Vals.ref1 r
  obtain ⟨as, rd⟩ := Dp.reads I d _ _ hd rfl
  exact repr_of_reads' rd h1 (fun z => by rw [h2] at z; cases z) hg (by omega) (fun _ _ e => e) (fun h' u tk hk => ⟨.str d.shown, H, I.kept (t' := tk) hk, ⟨_, rfl⟩, q⟩) h4
end
/-! ### x not in d.values(): by going through -/
theorem plain_scan : plainId "proto.contains_iter" = true := by decide +kernel
theorem entry_scan : entryFor table "proto.contains_iter" = some Builtin.«proto.contains_iter» := entryFor_of_fast (by kernel_rfl)
theorem no_in_values : typeLookup (.type "dict_values") "__contains__" = pure none := by rw [typeLookup_type, builtinLookup_eq_fast]; kernel_rfl
section
variable {P : Program} {w : World} {A : Around}
theorem scan_ints {it d : Addr} {ep : Nat} {kvs : List (Key × Value)} {i : Int} {t : Tok} {R : Result → Shared → Prop} (hh : A.handled = none) (hints : ∀ p ∈ kvs, ∃ n u, p.2 = Value.int n u) :
    ∀ (m j : Nat) (s : Shared), kvs.length - j = m → j ≤ kvs.length → s.heap.IsValIter it d j kvs.length ep → s.heap.DictAt (mixKind P w) d kvs ep →
    (∀ h', (∀ b o, b ≠ it → s.heap.get? b = some o → h'.get? b = some o) → R (.ok (.ret (.bool ((kvs.drop j).any fun p => match p.2 with | .int n _ => n == i | _ => false)))) { s with heap := h' }) →
    codeAny (model P w) A (.builtin "proto.contains_iter" ⟨[.ref it, .int i t], []⟩) R s := by
  intro m
  induction m with
  | zero =>
    intro j s hk hj hit hd hR
    have e : kvs[j]? = none := List.getElem?_eq_none (by omega)
    refine codeAny_builtin entry_scan ?_
    rw [Around.under_plainId plain_scan _]
    show wpAny _ A.in1 (pyNext (.ref it) >>= _) _ _ s
    refine wpAny_bind (wpAny_pyNext_values_end (knd := mixKind P w) (kvs := kvs) hh hit hd e fun h' hb => ?_)
    have q := hR h' (fun b o hne ho => hb b o hne ho)
    rw [List.drop_of_length_le (by omega)] at q
    exact wpAny_bind (wpAny_rule (wpAny_pure q))
  | succ m ih =>
    intro j s hk hj hit hd hR
    have hlt : j < kvs.length := by omega
    have hg : kvs[j]? = some kvs[j] := List.getElem?_eq_getElem hlt
    obtain ⟨n, u, hn⟩ := hints kvs[j] (List.getElem_mem hlt)
    have hdrop : kvs.drop j = kvs[j] :: kvs.drop (j + 1) := List.drop_eq_getElem_cons hlt
    have ne : d ≠ it := fun z => by
      obtain ⟨o, ho, hc, hdat⟩ := hit
      obtain ⟨od, es, hod, _, hdd, _⟩ := hd
      rw [z, ho] at hod
      cases hod
      rw [hdd] at hdat
      cases hdat
    refine codeAny_builtin entry_scan ?_
    rw [Around.under_plainId plain_scan _]
    show wpAny _ A.in1 (pyNext (.ref it) >>= _) _ _ s
    refine wpAny_bind (wpAny_pyNext_values_item (knd := mixKind P w) (k := kvs[j].1) (v := kvs[j].2) hit hd hg fun h' hit' hs => ?_)
    rw [hn]
    show wpAny _ A.in1 (eqBool (.int n u) (.int i t) >>= _) _ _ _
    refine wpAny_bind (wpAny_eqBool_int ?_)
    by_cases e : n = i
    · have e' : (n == i) = true := by simpa using e
      have q := hR h' (fun b o hne ho => (hs.2 b hne).trans ho)
      rw [hdrop, List.any_cons, hn] at q
      simp only [e', Bool.true_or] at q
      rw [if_pos e']
      exact wpAny_bind (wpAny_rule (wpAny_pure q))
    · have e' : (n == i) = false := by simpa using e
      rw [if_neg (by rw [e']; exact Bool.false_ne_true)]
      refine wpAny_pure ⟨plainId_quiet plain_scan _, ih (j + 1) _ (by omega) (by omega) hit' (hd.at fun o ho => (hs.2 d ne).trans ho) fun h2 k2 => ?_⟩
      have q := hR h2 (fun b o hne ho => k2 b o hne ((hs.2 b hne).trans ho))
      rw [hdrop, List.any_cons, hn] at q
      simpa only [e', Bool.false_or] using q
end
section
variable {X : Cx} {a e : Expr} {ta td : TE} {apos cpos pos : Pos}
def tNotVals (ta td : TE) : TT := fun σ H Q => ta σ H fun x H1 => td σ H1 fun y H2 => ∃ (i : Int) (d : Addr) (kvs : List (Key × V)) (is : List Int), x = .int i ∧ y = .ref d ∧ H2 d = some (.dK kvs) ∧ kvs.map (·.2) = is.map V.int ∧ Q (!decide (i ∈ is)) H2
/-- x not in d.values(), ints -/
theorem pt_notVals (hc : X.calm = true) (ha : PE X a ta) (he : PE X e td) (hm : attributeBase e "values" X.env (eval e X.env) = eval e X.env := by rfl) (hline : (apos.endLine == cpos.line) = true := by rfl) :
    PT X (.Compare a [.NotIn] [.Call (.Attribute e "values" apos) [] [] cpos] pos) (tNotVals ta td) := by
  refine ⟨fun pins s σ H Q I hw => ?_⟩
  refine wpAny_isTrue_Compare1 (thn (ha.run pins s σ H _ I hw) fun v s1 ⟨x, H1, I1, rx, q1⟩ => ?_) (by first | rfl | exact nobehind _ (by decide) (by decide))
  refine wpAny_Call_method (T := "dict") (id := "dict.values") hm rfl hline F.plainAttrs_dict F.slot_dict_values F.type_dict_values (thn (he.run pins s1 σ H1 _ I1 q1) fun u s2 ⟨y, H2, I2, ry, i, d, kvs, is, ex, ey, hd, hi, q⟩ => ?_)
  subst ex ey
  obtain rfl : u = Value.ref d := ry
  obtain ⟨t, rfl⟩ := rx
  obtain ⟨z, hsys, vs, kv, o, es, ep, ho, hx, hdt, r⟩ := I2.hok d _ hd
  have hat : s2.heap.DictAt (mixKind X.prog X.w) d vs ep := ⟨o, es, ho, hx, hdt, r⟩
  refine ⟨hat.dictOf.typeIs, hat.dictOf.mapOf.noDict, ?_⟩
  have I3 : Inv X pins σ H2 { s2 with heap := s2.heap.push { cls := .type "dict_values", data := .fields #[.ref d] } } := I2.kept (t' := s2.toks) fun b ob q => Heap.get?_push_of_some _ q
  have hints : ∀ p ∈ vs, ∃ n u, p.2 = Value.int n u := by
    have key : ∀ {ks : List (Key × V)} {ws : List (Key × Value)} {js : List Int}, KV ks ws → ks.map (·.2) = js.map V.int → ∀ p ∈ ws, ∃ n u, p.2 = Value.int n u := by
      intro ks ws js k
      induction k generalizing js with
      | nil => intro _ p hp; cases hp
      | cons h _ ih =>
        intro hj p hp
        cases js with
        | nil => cases hj
        | cons j js =>
          simp only [List.map_cons, List.cons.injEq] at hj
          rcases List.mem_cons.mp hp with rfl | hp
          · have := h.2
            rw [hj.1] at this
            obtain ⟨u, hu⟩ := this
            exact ⟨j, u, hu⟩
          · exact ih hj.2 p hp
    exact key kv hi
  have hany : (vs.any fun p => match p.2 with | .int n _ => n == i | _ => false) = decide (i ∈ is) := by
    have key : ∀ {ks : List (Key × V)} {ws : List (Key × Value)} {js : List Int}, KV ks ws → ks.map (·.2) = js.map V.int → (ws.any fun p => match p.2 with | .int n _ => n == i | _ => false) = decide (i ∈ js) := by
      intro ks ws js k
      induction k generalizing js with
      | nil =>
        intro hj
        cases js with
        | nil => rfl
        | cons j js => cases hj
      | cons h _ ih =>
        intro hj
        cases js with
        | nil => cases hj
        | cons j js =>
          simp only [List.map_cons, List.cons.injEq] at hj
          have hv := h.2
          rw [hj.1] at hv
          obtain ⟨u, hu⟩ := hv
          rw [List.any_cons, ih hj.2, hu]
          by_cases e : j = i
          · simp [e]
          · have : (j == i) = false := by simpa using e
            simp [this, Ne.symm e]
    exact key kv hi
  have fin : ∀ {E : Value → Shared → Prop}, wpAny (model X.prog X.w) X.A (compareOp .NotIn (.int i t) (.ref s2.heap.objs.size)) (fun c s3 => wpAny (model X.prog X.w) X.A (truthy c) (TP X pins σ Q) X.xe s3) X.xe { s2 with heap := s2.heap.push { cls := .type "dict_values", data := .fields #[.ref d] } } := by
    intro E
    have hview : (s2.heap.push { cls := .type "dict_values", data := .fields #[.ref d] }).IsValuesView s2.heap.objs.size d := ⟨_, Heap.get?_push_size _ rfl, rfl, rfl⟩
    show wpAny _ _ (contains (.ref s2.heap.objs.size) (.int i t) >>= _) _ _ _
    refine wpAny_bind ?_
    unfold contains
    refine wpAny_holding ?_
    refine wpAny_bind (wpAny_specialOf (s := { s2 with heap := _ }) hview.typeIs no_in_values ?_)
    show wpAny _ _ (callSpecialUnlessNone? _ _ _ _ >>= _) _ _ _
    refine wpAny_bind ?_
    unfold callSpecialUnlessNone?
    refine wpAny_bind (wpAny_specialOf (s := { s2 with heap := _ }) hview.typeIs no_in_values (wpAny_pure ?_))
    refine wpAny_bind (wpAny_rule (wpAny_bind (wpAny_tryCatch (wpAny_pyIter_values (knd := mixKind X.prog X.w) (s := { s2 with heap := _ }) hview (hat.push _) ?_))))
    have hsz : (s2.heap.push { cls := .type "dict_values", data := .fields #[.ref d] }).objs.size = s2.heap.objs.size + 1 := by simp [Heap.size_push]
    refine wpAny_bind (wpAny_runValue (scan_ints (I2.ok.hd hc) hints _ 0 _ rfl (Nat.zero_le _) ⟨_, Heap.get?_push_size _ rfl, rfl, rfl⟩ ((hat.push _).push _) fun h' hk => ?_))
    rw [List.drop_zero, hany]
    refine wpAny_pure (wpAny_pure (wpAny_truthy_bool ⟨H2, I2.kept (t' := s2.toks) fun b ob q => hk b ob (fun z => ?_) (Heap.get?_push_of_some _ (Heap.get?_push_of_some _ q)), q⟩))
    have l1 := Heap.lt_size q
    have l2 : b = s2.heap.objs.size + 1 := z.trans hsz
    rw [l2] at l1
    exact absurd l1 (by simp)
  show wpAny _ _ (callWith cpos (.builtin "dict.values") [.ref d] [] []) _ X.xe s2
  exact method_meetsIn F.slot_dict_values F.entry_dict_values rfl (PySem.evalArgs_none ⟨rfl, hat.dictOf.typeIs, F.args_dict_values_1 _, _, meets_dict_values (mixKind X.prog X.w) d hsys, ⟨vs, hat.dictOf⟩, fin (E := X.xe)⟩)
end
end B71

namespace B71
open PySem PySem.Spec PyProof.Rows L2 Evl RZ SrtO
def top (i : Nat) : Stmt := PySem.Challenge.pw_shrunkrooms_k71_whole_rooks_and_covers.main.body.getD i (.Pass ⟨0, 0, 0, 0⟩)
/-- a name that stands for a def that keeps a promise -/
structure Cl (P : Program) (w : World) (K : PySem.W.Frag) (mg : Str → Option Value) (base : Heap) (x : Str) (k : Nat) (ps : List Str) (sp : Sp) : Prop where
  ex : ∃ (f : Addr) (fd : FuncData), FnG P w K mg base k f fd ps sp ∧ Binds K fd ps [] ∧ PySem.W.keepIn K (.ref f) = true ∧ mg x = some (.ref f)
def tCl (sp : Sp) (t : TA) : TE := fun σ H Q => t σ H fun vs H1 => sp vs H1 Q E0
theorem pe_cl {X : Cx} {x : Str} {k : Nat} {ps : List Str} {sp : Sp} {p pos : Pos} {e : Expr} {es : List Expr} {t : TA} (C : Cl X.prog X.w X.K X.mg X.base x k ps sp) (gd : X.A.guards = some []) (hr : Room k X.A) (ha : PA X (e :: es) t)
    (hg : Gl X x := by rfl) (hdb : (x == ("__debug__" : Str)) = false := by decide) (he : starEach (e :: es) X.env = (false, eval e X.env) :: starEach es X.env := by rfl)
    (hpl : (backTo pos (starEach es X.env)).any (·.1) = false := by rfl) : PE X (.Call (.Name x p) (e :: es) [] pos) (tCl sp t) := by
  obtain ⟨f, fd, F, b, kp, m⟩ := C.ex
  exact pe_callG F gd hr m kp b ha hg hdb he hpl
/-- the built-in names are free; the constants -/
structure Tx (mg : Str → Option Value) : Prop where
  b_len : mg "len" = none
  b_abs : mg "abs" = none
  b_max : mg "max" = none
  b_min : mg "min" = none
  b_repr : mg "repr" = none
  b_divmod : mg "divmod" = none
  b_all : mg "all" = none
  b_isinstance : mg "isinstance" = none
  b_sorted : mg "sorted" = none
  b_int : mg "int" = none
  b_bool : mg "bool" = none
  b_list : mg "list" = none
  b_tuple : mg "tuple" = none
  b_dict : mg "dict" = none
  b_range : mg "range" = none
  b_zip : mg "zip" = none
theorem u65 {k : Nat} {A : Around} (r : Room k A) : A.units + 65 < cLine := by have := r.un; omega
theorem u1 {k : Nat} {A : Around} (r : Room k A) : A.units + 1 < cLine := by have := r.un; omega
/-! ### heaps -/
theorem ex_upd {H H1 H' : Hp} {p : Addr} {o : HO} (h : H p = none) (e : Ex H H1) (e2 : Ex (upd H1 p o) H') : Ex H H' := (e.mut h).trans e2
/-- a walk over a dict's keys: the lock undone -/
theorem ex_lock {H H1 : Hp} {d : Addr} {u : HO} {od : Obj} (hd : H d = some u) (e : Ex (upd H d (.frz od u)) H1) : Ex H (upd H1 d u) := fun b o h => by
  by_cases z : b = d
  · subst z
    rw [hd] at h
    cases h
    exact upd_same
  · rw [upd_ne z]
    exact e b o (by rw [upd_ne z]; exact h)
/-- what a comprehension gives: from a walk -/
structure Stab {α : Type} (R : α → V → Hp → Prop) : Prop where
  up : ∀ y v H H', Ex H H' → R y v H → R y v H'
  ap : ∀ y v H D acc acc', H D = some (.lst acc) → R y v H → R y v (upd H D (.lst acc'))
theorem Stab.bl {α : Type} {g : α → Bool} : Stab (fun (y : α) v (_ : Hp) => v = .bl (g y)) := ⟨fun _ _ _ _ _ h => h, fun _ _ _ _ _ _ _ h => h⟩
theorem Stab.int {α : Type} {g : α → Int} : Stab (fun (y : α) v (_ : Hp) => v = .int (g y)) := ⟨fun _ _ _ _ _ h => h, fun _ _ _ _ _ _ _ h => h⟩
/-- a new tuple -/
def Tu {α : Type} (g : α → List V) (y : α) (v : V) (H : Hp) : Prop := ∃ r, v = .ref r ∧ H r = some (.tup (g y))
theorem Stab.tu {α : Type} {g : α → List V} : Stab (Tu g) := ⟨fun _ _ _ _ e ⟨r, h1, h2⟩ => ⟨r, h1, e _ _ h2⟩, fun _ _ _ D _ _ hD ⟨r, h1, h2⟩ => ⟨r, h1, by
  have : r ≠ D := fun z => by rw [z, hD] at h2; cases h2
  rw [upd_ne this]; exact h2⟩⟩
theorem paired_snoc {α β : Type} {F : α → β → Prop} : ∀ {as : List α} {bs : List β} {a : α} {b : β}, Paired F as bs → F a b → Paired F (as ++ [a]) (bs ++ [b])
  | _, _, _, _, .nil, h => .cons h .nil
  | _, _, _, _, .cons r t, h => .cons r (paired_snoc t h)
theorem lcW {α : Type} {J : It} {n : Nat} {Gd : Hp → Prop} {Y : Nat → Hp → V → Hp → Prop} (w : Walk J n Gd Y) {g : TG} {tt : TT} {te : TE} {vs : List Nat} {σ : L2.St} {H1 : Hp} {D : Addr} {Qd : Hp → Prop}
    (ys : List α) (hn : n = ys.length) (hz : n ≤ 1000) (f : α → Bool) (R : α → V → Hp → Prop) (st : Stab R) (hD : H1 D = none) (hG : ∀ H, Ex H1 H → Gd H)
    (hs : ∀ i y x H H' (N : Hp → Prop) (Gt : VK), ys[i]? = some y → Ex H1 H → Y i H x H' → (f y = false → ∀ H2, Ex H' H2 → N H2) → (f y = true → ∀ v H2, Ex H' H2 → R y v H2 → Gt v H2) →
      Ex H H' ∧ g x (wipe σ vs) H' fun σ2 H2 => wipe σ2 vs = wipe σ vs ∧ tt σ2 H2 fun b H3 => if b = true then te σ2 H3 Gt else N H3)
    (hd : ∀ acc H, Ex H1 H → H D = some (.lst acc) → Paired (fun y v => R y v H) (ys.filter f) acc → Qd H) :
    ∃ W : Nat → Nat → Hp → Prop, (∃ m, W 0 m (upd H1 D (.lst []))) ∧ ∀ i m H, W i m H →
      (J.stop i H ∧ Qd H) ∨ (J.go i H ∧ ∃ Nx : Hp → Prop, (∀ H', Nx H' → ∃ m', m' < m ∧ W (i + 1) m' H') ∧ ∀ x H', J.yld i H x H' → g x (wipe σ vs) H' fun σ2 H2 => wipe σ2 vs = wipe σ vs ∧ tt σ2 H2 fun b H3 =>
        if b = true then te σ2 H3 fun y H4 => ∃ acc, H4 D = some (.lst acc) ∧ acc.length < sizeLine ∧ Nx (upd H4 D (.lst (acc ++ [y]))) else Nx H3) := by
  have Rup : ∀ {l : List α} {acc : List V} {H H' : Hp}, Ex H H' → Paired (fun y v => R y v H) l acc → Paired (fun y v => R y v H') l acc := fun e p => Paired.mapP p fun _ _ h => st.up _ _ _ _ e h
  refine lc_it w (fun i H => Ex H1 H ∧ ∃ acc, H D = some (.lst acc) ∧ acc.length ≤ i ∧ Paired (fun y v => R y v H) ((ys.take i).filter f) acc) ⟨Ex.new hD, [], upd_same, Nat.le_refl _, .nil⟩ (fun i H _ p => hG H p.1) ?_ ?_
  · rintro i x H H' hi ⟨e1, acc, hacc, hl, hp⟩ hy
    have hi' : i < ys.length := hn ▸ hi
    have et : ys.take (i + 1) = ys.take i ++ [ys[i]] := by rw [List.take_add_one, List.getElem?_eq_getElem hi']; rfl
    refine (hs i ys[i] x H H' _ _ (List.getElem?_eq_getElem hi') e1 hy (fun hf H2 e2 => ?_) (fun hf v H2 e2 hR => ?_)).2
    · have e3 : Ex H H' := (hs i ys[i] x H H' (fun _ => True) (fun _ _ => True) (List.getElem?_eq_getElem hi') e1 hy (fun _ _ _ => trivial) (fun _ _ _ _ _ => trivial)).1
      refine ⟨e1.trans (e3.trans e2), acc, e2 _ _ (e3 _ _ hacc), by omega, ?_⟩
      rw [et, List.filter_append, List.filter_cons_of_neg (by rw [hf]; exact Bool.false_ne_true), List.filter_nil, List.append_nil]
      exact Rup (e3.trans e2) hp
    · have e3 : Ex H H' := (hs i ys[i] x H H' (fun _ => True) (fun _ _ => True) (List.getElem?_eq_getElem hi') e1 hy (fun _ _ _ => trivial) (fun _ _ _ _ _ => trivial)).1
      have h2 := e2 _ _ (e3 _ _ hacc)
      refine ⟨acc, h2, Nat.lt_of_le_of_lt hl (small1000 (by omega)), (e1.trans (e3.trans e2)).mut hD, acc ++ [v], upd_same, by simp; omega, ?_⟩
      rw [et, List.filter_append, List.filter_cons_of_pos hf, List.filter_nil]
      exact paired_snoc (Paired.mapP (Rup (e3.trans e2) hp) fun _ _ h => st.ap _ _ _ _ _ _ h2 h) (st.ap _ _ _ _ _ _ h2 hR)
  · rintro H ⟨e1, acc, hacc, _, hp⟩
    rw [hn, List.take_length] at hp
    exact hd acc H e1 hacc hp
theorem paired_bl {α : Type} {g : α → Bool} : ∀ {l : List α} {acc : List V}, Paired (fun y v => v = V.bl (g y)) l acc → acc = (l.map g).map V.bl
  | _, _, .nil => rfl
  | _, _, .cons r t => by rw [List.map_cons, List.map_cons, ← paired_bl t, r]
theorem paired_int {α : Type} {g : α → Int} : ∀ {l : List α} {acc : List V}, Paired (fun y v => v = V.int (g y)) l acc → acc = (l.map g).map V.int
  | _, _, .nil => rfl
  | _, _, .cons r t => by rw [List.map_cons, List.map_cons, ← paired_int t, r]
theorem filter_yes {α : Type} (l : List α) : l.filter (fun _ => true) = l := List.filter_eq_self.mpr fun _ _ => rfl
theorem bt_len : bootBuiltins "len" = some (.builtin "len") := by decide +kernel
theorem bt_abs : bootBuiltins "abs" = some (.builtin "abs") := by decide +kernel
theorem bt_max : bootBuiltins "max" = some (.builtin "max") := by decide +kernel
theorem bt_min : bootBuiltins "min" = some (.builtin "min") := by decide +kernel
theorem bt_repr : bootBuiltins "repr" = some (.builtin "repr") := by decide +kernel
theorem bt_divmod : bootBuiltins "divmod" = some (.builtin "divmod") := by decide +kernel
theorem bt_all : bootBuiltins "all" = some (.builtin "all") := by decide +kernel
theorem bt_isinstance : bootBuiltins "isinstance" = some (.builtin "isinstance") := by decide +kernel
theorem bt_sorted : bootBuiltins "sorted" = some (.builtin "sorted") := by decide +kernel
theorem bt_int : bootBuiltins "int" = some (.type "int") := by decide +kernel
theorem bt_bool : bootBuiltins "bool" = some (.type "bool") := by decide +kernel
theorem bt_list : bootBuiltins "list" = some (.type "list") := by decide +kernel
theorem bt_tuple : bootBuiltins "tuple" = some (.type "tuple") := by decide +kernel
theorem bt_dict : bootBuiltins "dict" = some (.type "dict") := by decide +kernel
theorem kt_int_int {K : PySem.W.Frag} : PySem.W.kitOne K (.type "int") (.type "int") = some true := kit_ty (by decide +kernel)
theorem kt_int_bool {K : PySem.W.Frag} : PySem.W.kitOne K (.type "int") (.type "bool") = some false := kit_ty (by decide +kernel)
theorem kt_tuple_tuple {K : PySem.W.Frag} : PySem.W.kitOne K (.type "tuple") (.type "tuple") = some true := kit_ty (by decide +kernel)
theorem kt_list_list {K : PySem.W.Frag} : PySem.W.kitOne K (.type "list") (.type "list") = some true := kit_ty (by decide +kernel)
end B71

namespace B71
open PySem PySem.Spec PyProof.Rows L2
/-! ### data: ints, pairs, rows of them -/
def iD (n : Nat) : PyData := .int (n : Int)
def pD (p : Nat × Nat) : PyData := .tuple [.int (p.1 : Int), .int (p.2 : Int)]
theorem iD_lay (n : Nat) : (iD n).canLay0 = true := by simp [iD, PyData.canLay0]
theorem pD_lay (p : Nat × Nat) : (pD p).canLay0 = true := by simp [pD, PyData.canLay0, PyData.canLayAll0]
theorem iD_depth (n : Nat) : (iD n).depth ≤ 1 := by simp [iD, PyData.depth]
theorem pD_depth (p : Nat × Nat) : (pD p).depth ≤ 1 := by simp [pD, PyData.depth, PyData.depthAll]
theorem all_lay {α : Type} {f : α → PyData} (h : ∀ x, (f x).canLay0 = true) : ∀ l : List α, PyData.canLayAll0 (l.map f) = true
  | [] => by simp [PyData.canLayAll0]
  | x :: l => by simp [PyData.canLayAll0, h x, all_lay h l]
theorem all_depth {α : Type} {f : α → PyData} (h : ∀ x, (f x).depth ≤ 1) : ∀ l : List α, PyData.depthAll (l.map f) ≤ 1
  | [] => by simp [PyData.depthAll]
  | x :: l => by
    have h1 := h x
    have h2 := all_depth h l
    simp only [List.map_cons, PyData.depthAll]
    omega
theorem sh_of {d : PyData} (h : d.canLay0 = true) (h2 : d.depth ≤ 64) : SeqAt.shaped d = true := by
  show (d.canLay0 && decide (d.depth ≤ 64)) = true
  rw [Bool.and_eq_true]
  exact ⟨h, decide_eq_true h2⟩
theorem list_sh {α : Type} {f : α → PyData} (h : ∀ x, (f x).canLay0 = true) (h1 : ∀ x, (f x).depth ≤ 1) (l : List α) : SeqAt.shaped (.list (l.map f)) = true :=
  sh_of (by simp only [PyData.canLay0]; exact all_lay h l) (by have := all_depth h1 l; simp only [PyData.depth]; omega)
theorem tup_sh {α : Type} {f : α → PyData} (h : ∀ x, (f x).canLay0 = true) (h1 : ∀ x, (f x).depth ≤ 1) (l : List α) : SeqAt.shaped (.tuple (l.map f)) = true :=
  sh_of (by simp only [PyData.canLay0]; exact all_lay h l) (by have := all_depth h1 l; simp only [PyData.depth]; omega)
theorem is_sh (l : List Nat) : SeqAt.shaped (.list (l.map iD)) = true := list_sh iD_lay iD_depth l
theorem ps_sh (l : List (Nat × Nat)) : SeqAt.shaped (.list (l.map pD)) = true := list_sh pD_lay pD_depth l
theorem p_sh (p : Nat × Nat) : SeqAt.shaped (pD p) = true := sh_of (pD_lay p) (by have := pD_depth p; omega)
theorem iD_eqv (a b : Nat) : PyData.eqv (iD a) (iD b) = decide (a = b) := by
  show ((a : Int) == (b : Int)) = _
  by_cases h : a = b
  · simp [h]
  · rw [decide_eq_false h]; exact beq_eq_false_iff_ne.mpr (by omega)
theorem pD_eqv (p q : Nat × Nat) : PyData.eqv (pD p) (pD q) = decide (p = q) := by
  obtain ⟨a, b⟩ := p
  obtain ⟨c, d⟩ := q
  have e : PyData.eqv (pD (a, b)) (pD (c, d)) = (((a : Int) == (c : Int)) && (((b : Int) == (d : Int)) && true)) := by simp only [pD, PyData.eqv, PyData.eqvAll]
  rw [e]
  by_cases h1 : a = c
  · by_cases h2 : b = d
    · simp [h1, h2]
    · have q : ((b : Int) == (d : Int)) = false := beq_eq_false_iff_ne.mpr (by omega)
      rw [q]; simp [h2]
  · have q : ((a : Int) == (c : Int)) = false := beq_eq_false_iff_ne.mpr (by omega)
    rw [q]; simp [h1]
theorem all_eqv {α : Type} [DecidableEq α] {f : α → PyData} (h : ∀ a b, PyData.eqv (f a) (f b) = decide (a = b)) : ∀ l m : List α, PyData.eqvAll (l.map f) (m.map f) = decide (l = m)
  | [], [] => by simp [PyData.eqvAll]
  | [], _ :: _ => by simp [PyData.eqvAll]
  | _ :: _, [] => by simp [PyData.eqvAll]
  | a :: l, b :: m => by
    simp only [List.map_cons, PyData.eqvAll, h a b, all_eqv h l m, List.cons.injEq]
    by_cases e : a = b <;> simp [e]
theorem is_eqv (l m : List Nat) : PyData.eqv (.list (l.map iD)) (.list (m.map iD)) = decide (l = m) := by
  show PyData.eqvAll _ _ = _
  exact all_eqv iD_eqv l m
theorem ps_eqv (l m : List (Nat × Nat)) : PyData.eqv (.list (l.map pD)) (.list (m.map pD)) = decide (l = m) := by
  show PyData.eqvAll _ _ = _
  exact all_eqv pD_eqv l m
section
variable {K : PySem.W.Frag} {H : Hp}
/-- a list of ints as values -/
def vI (l : List Nat) : List V := l.map fun (n : Nat) => V.int (n : Int)
theorem vI_len (l : List Nat) : (vI l).length = l.length := List.length_map _
theorem dp_is : ∀ l : List Nat, DpAll K H (vI l) (l.map iD)
  | [] => .nil
  | n :: l => .cons (.int _) (dp_is l)
theorem dp_il {a : Addr} {l : List Nat} (h : H a = some (.lst (vI l))) : Dp K H (.ref a) (.list (l.map iD)) := .lst (.inl (.inl h)) (dp_is l)
theorem dp_p {r : Addr} {p : Nat × Nat} (h : H r = some (.tup [.int (p.1 : Nat), .int (p.2 : Nat)])) : Dp K H (.ref r) (pD p) := .tup (.inl (.inl h)) (.cons (.int _) (.cons (.int _) .nil))
theorem dp_ps : ∀ {rs : List Addr} {l : List (Nat × Nat)}, Paired (fun (r : Addr) (p : Nat × Nat) => H r = some (.tup [.int (p.1 : Nat), .int (p.2 : Nat)])) rs l → DpAll K H (rs.map V.ref) (l.map pD)
  | _, _, .nil => .nil
  | _, _, .cons h t => .cons (dp_p h) (dp_ps t)
theorem dp_pl {a : Addr} {rs : List Addr} {l : List (Nat × Nat)} (h : H a = some (.lst (rs.map V.ref))) (hp : Paired (fun (r : Addr) (p : Nat × Nat) => H r = some (.tup [.int (p.1 : Nat), .int (p.2 : Nat)])) rs l) : Dp K H (.ref a) (.list (l.map pD)) := .lst (.inl (.inl h)) (dp_ps hp)
theorem dp_pt {a : Addr} {rs : List Addr} {l : List (Nat × Nat)} (h : H a = some (.tup (rs.map V.ref))) (hp : Paired (fun (r : Addr) (p : Nat × Nat) => H r = some (.tup [.int (p.1 : Nat), .int (p.2 : Nat)])) rs l) : Dp K H (.ref a) (.tuple (l.map pD)) := .tup (.inl (.inl h)) (dp_ps hp)
end
end B71

namespace B71
open PySem PySem.Spec PyProof.Rows L2
structure Rp (d : PyData) : Prop where
  lay : d.canLay0 = true
  dp : d.depth ≤ 3
  wt : d.weight ≤ 20
  sh : d.showable = true
  nd : d.hasDict = false
  ish : d.intsShort 13 = true
theorem rp_i {n : Nat} (h : n < 4) : Rp (iD n) := by
  have hs : ∀ m : Nat, m < 4 → (PyData.intsShort 13 (iD m)) = true ∧ (PyData.showable (iD m)) = true := by decide +kernel
  refine ⟨iD_lay n, Nat.le_trans (iD_depth n) (by decide), ?_, (hs n h).2, rfl, (hs n h).1⟩
  match n, h with
  | 0, _ => decide +kernel
  | 1, _ => decide +kernel
  | 2, _ => decide +kernel
  | 3, _ => decide +kernel
theorem rp_p {p : Nat × Nat} (h1 : p.1 < 4) (h2 : p.2 < 4) : Rp (pD p) := by
  have a := rp_i h1
  have b := rp_i h2
  have w : ∀ m : Nat, m < 4 → PyData.weight (iD m) ≤ 5 := by decide +kernel
  have w1 := w p.1 h1
  have w2 := w p.2 h2
  unfold iD at a b w1 w2
  refine ⟨pD_lay p, Nat.le_trans (pD_depth p) (by decide), ?_, ?_, rfl, ?_⟩
  · simp only [pD, PyData.weight, PyData.weightAll] at w1 w2 ⊢
    omega
  · have := a.sh
    have := b.sh
    simp only [pD, PyData.showable, PyData.showableAll] at *
    simp_all
  · have := a.ish
    have := b.ish
    simp only [pD, PyData.intsShort, PyData.intsShortAll] at *
    simp_all
section
variable {α : Type} {f : α → PyData}
theorem rp_all : ∀ l : List α, (∀ x ∈ l, Rp (f x)) → PyData.canLayAll0 (l.map f) = true ∧ PyData.depthAll (l.map f) ≤ 3 ∧ PyData.weightAll (l.map f) ≤ 21 * l.length ∧ PyData.showableAll (l.map f) = true ∧ PyData.hasDictAll (l.map f) = false ∧ PyData.intsShortAll 13 (l.map f) = true
  | [], _ => by simp [PyData.canLayAll0, PyData.depthAll, PyData.weightAll, PyData.showableAll, PyData.hasDictAll, PyData.intsShortAll]
  | x :: l, h => by
    have hx := h x (List.mem_cons_self ..)
    obtain ⟨h1, h2, h3, h4, h5, h6⟩ := rp_all l fun y hy => h y (List.mem_cons_of_mem _ hy)
    have hd := hx.dp
    have hw := hx.wt
    simp only [List.map_cons, PyData.canLayAll0, PyData.depthAll, PyData.weightAll, PyData.showableAll, PyData.hasDictAll, PyData.intsShortAll, hx.lay, hx.sh, hx.nd, hx.ish, h1, h4, h5, h6, List.length_cons, Bool.and_self, Bool.or_self, true_and, and_true]
    omega
structure Ro (d : PyData) : Prop where
  sh : d.showable = true
  nd : d.hasDict = false
  dp : d.depth ≤ 60
  ln : d.shown.length ≤ sizeLine
theorem ro_of {d : PyData} (lay : d.canLay0 = true) (dp : d.depth ≤ 60) (wt : d.weight ≤ 2 ^ 20) (sh : d.showable = true) (nd : d.hasDict = false) (ish : d.intsShort 13 = true) : Ro d := by
  refine ⟨sh, nd, dp, ?_⟩
  have hl : PyData.layable0 d = true := by
    show (PyData.canLay0 d && decide (PyData.depth d ≤ 64) && decide (PyData.weight d ≤ 2 ^ 20)) = true
    simp only [Bool.and_eq_true, decide_eq_true_eq]
    exact ⟨⟨lay, by omega⟩, wt⟩
  have := shown_le13 hl ish
  have := sizeLine_eq
  omega
theorem ro_list {l : List α} (h : ∀ x ∈ l, Rp (f x)) (hl : l.length ≤ 1000) : Ro (.list (l.map f)) := by
  obtain ⟨h1, h2, h3, h4, h5, h6⟩ := rp_all l h
  have e : (2 : Nat) ^ 20 = 1048576 := by decide
  refine ro_of ?_ ?_ ?_ ?_ ?_ ?_
  · simp only [PyData.canLay0]; exact h1
  · simp only [PyData.depth]; omega
  · simp only [PyData.weight]; omega
  · simp only [PyData.showable]; exact h4
  · simp only [PyData.hasDict]; exact h5
  · simp only [PyData.intsShort]; exact h6
theorem ro_tup {l : List α} (h : ∀ x ∈ l, Rp (f x)) (hl : l.length ≤ 1000) : Ro (.tuple (l.map f)) := by
  obtain ⟨h1, h2, h3, h4, h5, h6⟩ := rp_all l h
  have e : (2 : Nat) ^ 20 = 1048576 := by decide
  refine ro_of ?_ ?_ ?_ ?_ ?_ ?_
  · simp only [PyData.canLay0]; exact h1
  · simp only [PyData.depth]; omega
  · simp only [PyData.weight]; omega
  · simp only [PyData.showable]; exact h4
  · simp only [PyData.hasDict]; exact h5
  · simp only [PyData.intsShort]; exact h6
end
end B71

namespace B71
open PySem PySem.Spec PyProof.Rows L2 Evl RZ SrtO
def spIsInt : Sp := fun vs H Q _ => ∃ i : Int, vs = [.int i] ∧ RetV (.bl true) H Q
def spCount : Sp := fun vs H Q _ => ∃ i : Int, vs = [.int i] ∧ RetV (.bl (decide (0 ≤ i))) H Q
/-- a list or a tuple, by its items -/
def SqH (H : Hp) (a : Addr) (xs : List V) : Prop := H a = some (.lst xs) ∨ H a = some (.tup xs)
theorem SqH.up {H H' : Hp} {a : Addr} {xs : List V} (h : SqH H a xs) (e : Ex H H') : SqH H' a xs := h.elim (fun h => .inl (e _ _ h)) (fun h => .inr (e _ _ h))
def spList : Sp := fun vs H Q _ => ∃ (a : Addr) (xs : List V), vs = [.ref a] ∧ SqH H a xs ∧ RetV (.bl true) H Q
section
variable {P : Program} {w : World} {K : PySem.W.Frag} {mg : Str → Option Value} {base : Heap} {f : Addr} {fd : FuncData}
theorem sc_is_integer : FnScope ["value"] ["value"] (defScope (top 5)) := ⟨rfl, rfl, rfl, by decide +kernel, rfl, by decide +kernel, by decide +kernel⟩
theorem ok_is_integer (F : Fun K "is_integer" "is_integer" (top 5) f fd) (T : Tx mg) : FnG P w K mg base 1 f fd ["value"] spIsInt := by
  have sc := sc_is_integer
  refine okG F sc (fun vs H Q E h => ?_) (fun cdv A outer s H vs Q gd0 hr h => ?_)
  · obtain ⟨i, rfl, _⟩ := h; rfl
  have gd := deeper_guards (env := envOfC "is_integer" (defScope (top 5)) s.heap.objs.size f cdv) gd0
  obtain ⟨i, rfl, q⟩ := h
  refine ⟨_, (pss_one (ps_ret (pe_and (pe_callB call_isi rfl T.b_isinstance bt_isinstance (pa_cons (pv 0) (pa_cons (pe_bltn (v := .ty "int") rfl T.b_int bt_int rfl) pa_nil))) (pe_one (pe_not (pe_callB call_isi rfl T.b_isinstance bt_isinstance (pa_cons (pv 0) (pa_cons (pe_bltn (v := .ty "bool") rfl T.b_bool bt_bool rfl) pa_nil)))))))), ?_⟩
  refine ⟨_, rfl, _, _, _, _, _, rfl, .ty "int", .base (.int i), kt_int_int, _, rfl, ?_⟩
  refine ⟨_, rfl, _, _, _, _, _, rfl, .ty "bool", .base (.int i), kt_int_bool, _, rfl, ?_⟩
  exact q _ (Ex.refl _)
theorem sc_is_count : FnScope ["value"] ["value"] (defScope (top 6)) := ⟨rfl, rfl, rfl, by decide +kernel, rfl, by decide +kernel, by decide +kernel⟩
theorem ok_is_count (F : Fun K "is_count" "is_count" (top 6) f fd) (T : Tx mg) (C_is_integer : Cl P w K mg base "is_integer" 1 ["value"] spIsInt) : FnG P w K mg base 2 f fd ["value"] spCount := by
  have sc := sc_is_count
  refine okG F sc (fun vs H Q E h => ?_) (fun cdv A outer s H vs Q gd0 hr h => ?_)
  · obtain ⟨i, rfl, _⟩ := h; rfl
  have gd := deeper_guards (env := envOfC "is_count" (defScope (top 6)) s.heap.objs.size f cdv) gd0
  obtain ⟨i, rfl, q⟩ := h
  refine ⟨_, (pss_one (ps_ret (pe_and (pe_cl C_is_integer gd (hr.mono (by first | decide | omega)) (pa_cons (pv 0) pa_nil)) (pe_one (pe_cmpR op_ge (pv 0) pe_int (nomark _)))))), ?_⟩
  refine ⟨_, rfl, i, rfl, fun H1 e1 => ⟨_, rfl, _, rfl, _, _, rfl, rfl, ?_⟩⟩
  exact q _ e1
theorem sc_is_list : FnScope ["value"] ["value"] (defScope (top 7)) := ⟨rfl, rfl, rfl, by decide +kernel, rfl, by decide +kernel, by decide +kernel⟩
theorem ok_is_list (F : Fun K "is_list" "is_list" (top 7) f fd) (T : Tx mg) : FnG P w K mg base 1 f fd ["value"] spList := by
  have sc := sc_is_list
  refine okG F sc (fun vs H Q E h => ?_) (fun cdv A outer s H vs Q gd0 hr h => ?_)
  · obtain ⟨i, _, rfl, _⟩ := h; rfl
  have gd := deeper_guards (env := envOfC "is_list" (defScope (top 7)) s.heap.objs.size f cdv) gd0
  obtain ⟨a, xs, rfl, hs, q⟩ := h
  refine ⟨_, (pss_one (ps_ret (pe_callB call_isiT rfl T.b_isinstance bt_isinstance (pa_cons (pv 0) (pa_cons (pe_tup (pa_cons (pe_bltn (v := .ty "list") rfl T.b_list bt_list rfl) (pa_cons (pe_bltn (v := .ty "tuple") rfl T.b_tuple bt_tuple rfl) pa_nil))) pa_nil))))), ?_⟩
  refine ⟨_, rfl, (by show 2 ≤ sizeLine; decide), fun p hp => ?_⟩
  have e1 : Ex H (upd H p (.tup [.ty "list", .ty "tuple"])) := Ex.new hp
  rcases hs with hs | hs
  · exact ⟨_, p, _, _, _, true, rfl, upd_same, .cons (.ty "list") (.cons (.ty "tuple") .nil), .base (.lst (e1 _ _ hs)), rfl, q _ e1⟩
  · exact ⟨_, p, _, _, _, true, rfl, upd_same, .cons (.ty "list") (.cons (.ty "tuple") .nil), .base (.tup (e1 _ _ hs)), rfl, q _ e1⟩
end
end B71

namespace B71
open PySem PySem.Spec PyProof.Rows L2 Evl RZ SrtO

/-- a pair at r; a row of pairs -/
def Pt (H : Hp) (r : Addr) (p : Nat × Nat) : Prop := H r = some (.tup [.int (p.1 : Nat), .int (p.2 : Nat)])
theorem Pt.up {H H' : Hp} {r : Addr} {p : Nat × Nat} (h : Pt H r p) (e : Ex H H') : Pt H' r p := e _ _ h
def Pts (H : Hp) (rs : List Addr) (pl : List (Nat × Nat)) : Prop := Paired (Pt H) rs pl
theorem Pts.up {H H' : Hp} {rs : List Addr} {pl : List (Nat × Nat)} (h : Pts H rs pl) (e : Ex H H') : Pts H' rs pl := Paired.mapP h fun _ _ q => q.up e
theorem Pts.len {H : Hp} {rs : List Addr} {pl : List (Nat × Nat)} (h : Pts H rs pl) : rs.length = pl.length := Paired.length h
theorem pts_at {H : Hp} : ∀ {rs : List Addr} {pl : List (Nat × Nat)}, Pts H rs pl → ∀ {i : Nat} {x : V}, (rs.map V.ref)[i]? = some x → ∃ r p, x = .ref r ∧ pl[i]? = some p ∧ Pt H r p
  | _, _, .nil, i, x, h => by simp at h
  | _, _, .cons (a := r) (b := p) q t, 0, x, h => ⟨r, p, by simpa using h.symm, rfl, q⟩
  | _, _, .cons q t, i + 1, x, h => by
    obtain ⟨r, p, h1, h2, h3⟩ := pts_at t (i := i) (x := x) (by simpa using h)
    exact ⟨r, p, h1, by simpa using h2, h3⟩
def lexlt (p q : Nat × Nat) : Prop := p.1 < q.1 ∨ (p.1 = q.1 ∧ p.2 < q.2)
instance (p q : Nat × Nat) : Decidable (lexlt p q) := by unfold lexlt; exact inferInstance
structure Bd (tall wide : Nat) (pl : List (Nat × Nat)) : Prop where
  t1 : 1 ≤ tall
  t4 : tall ≤ 4
  w1 : 1 ≤ wide
  w4 : wide ≤ 4
  p1 : 1 ≤ pl.length
  p16 : pl.length ≤ 16
  so : pl.Pairwise lexlt
  inb : ∀ p ∈ pl, p.1 < tall ∧ p.2 < wide
theorem cut1 (xs : List V) : cutV xs (some 1) none = xs.drop 1 := by
  unfold cutV
  rw [HT.sIx_none]
  have : HT.sIx xs.length 0 (some 1) = min 1 xs.length := HT.sIx_nat xs.length 0 1
  rw [this]
  cases xs with
  | nil => rfl
  | cons x r => simp
theorem lexLt_pair {p q : Nat × Nat} : HT.lexLt [(p.1 : Int), (p.2 : Int)] [(q.1 : Int), (q.2 : Int)] = decide (lexlt p q) := by
  rw [HT.lexLt_cons, HT.lexLt_cons, HT.lexLt_nil_nil]
  unfold lexlt
  by_cases h : p.1 = q.1
  · have h' : (p.1 : Int) = (q.1 : Int) := by omega
    rw [if_pos h']
    by_cases k : p.2 = q.2
    · rw [if_pos (by omega)]; simp [h, k]
    · rw [if_neg (by omega)]; simp [h]
  · rw [if_neg (by omega)]; simp [h]
theorem adj {pl : List (Nat × Nat)} (so : pl.Pairwise lexlt) : ∀ z ∈ pl.zip (pl.drop 1), decide (lexlt z.1 z.2) = true := by
  induction pl with
  | nil => intro z h; simp at h
  | cons p r ih =>
    cases r with
    | nil => intro z h; simp at h
    | cons q r =>
      intro z h
      simp only [List.drop_succ_cons, List.drop_zero, List.zip_cons_cons, List.mem_cons] at h
      rcases h with rfl | h
      · exact decide_eq_true ((List.pairwise_cons.mp so).1 q (List.mem_cons_self ..))
      · exact ih (List.pairwise_cons.mp so).2 z (by simpa using h)
theorem walk_zipT {K : PySem.W.Frag} {a b : Addr} {xs ys : List V} {n : Nat} (hn : n = min xs.length ys.length) : Walk (ItzT K a b) n (fun H => SqT K H a xs ∧ SqT K H b ys) (YPair (fun i => xs[i]?) (fun i => ys[i]?)) := by
  subst hn
  refine ⟨fun i _ hi q => ?_, fun _ q => ⟨xs, ys, q.1, q.2, by omega⟩, fun i H v H' _ q y => ?_⟩
  · have h1 : i < xs.length := by omega
    have h2 : i < ys.length := by omega
    exact ⟨xs, ys, xs[i], ys[i], q.1, q.2, by simp [h1], by simp [h2]⟩
  · obtain ⟨T, x, z, h1, h2, h3, h4, h5⟩ := y
    exact ⟨T, x, z, h1, h2, h3, h4 xs q.1, h5 ys q.2⟩
theorem all_true {l : List Bool} (h : ∀ b ∈ l, b = true) : l.all id = true := List.all_eq_true.mpr h
/-! ### a def with defaults -/
theorem okGD {P : Program} {w : World} {K : PySem.W.Frag} {mg : Str → Option Value} {base : Heap} {x qual : Str} {params : Arguments} {body : List Stmt} {scope : Scope} {dvs : List V} {kws : List (Str × V)} {f : Addr} {fd : FuncData} {N ps : List Str} {k : Nat} {sp : Sp} (F : FunD K x qual params body scope dvs kws f fd) (S : FnScope N ps scope) (many : ∀ vs H Q E, sp vs H Q E → vs.length = ps.length)
    (walk : ∀ (cdv : Value) (A : Around) (outer : List Env) (s : Shared) (H : Hp) (vs : List V) (Q : VK), A.guards = some [] → Room k (A.deeper (envOfC qual scope s.heap.objs.size f cdv)) → sp vs H Q E0 →
      ∃ t, PSs (cxOf CX0 P w K mg base N qual scope f cdv A outer s H E0).nox body t ∧ t { nx := fun _ H' => Q .non H', rt := Q } (start N vs) H) : FnG P w K mg base (k + 1) f fd ps sp := by
  obtain ⟨oc, od, dV, kV, doc, pm, an, cdv, ct, osl, rfl, lk, hcd, _, _⟩ := F.ex
  refine ⟨many, fun A outer s H args us vs Q g hr e0 hb r hsp => ?_⟩
  have back := fun b o e => (e0.bs b o e).1
  have KX := e0.mod.kin.keeps back
  have kinds : ∀ y ∈ ps.zip us, scope.names.lookup y.1 = some .local ∨ (scope.names.lookup y.1 = some .cell ∧ ((cellsFrom (s.heap.objs.size + 1) scope.names []).lookup y.1).isSome = true) := by
    rintro ⟨n, v⟩ hy
    exact (S.par n (List.of_mem_zip hy).1).imp id fun q => ⟨q, PySem.W.cellsFrom_some _ _ _ (.inl q)⟩
  refine codeAny_call_function hr.depth (KX _ _ lk) rfl S.co S.gen rfl (PySem.W.codeRec_of KX hcd) (hb _ _ _ _ (wpAny_newFunctionEnv_cells S.kind kinds fun env he s1 inC => ?_))
  subst he
  refine ⟨(e0.mod.nolimit.keeps back).keeps inC.toInCall.keep, codeAny_func ?_⟩
  obtain ⟨t, ht, hq⟩ := walk cdv A outer s H vs Q g (hr.deeper _) hsp
  have J0 := inv_start (CX := CX0) (E := E0) S hr.hd e0 (many _ _ _ _ hsp) r inC
  refine wpAny_mono (ht.nox.run [] s1 (start N vs) H _ J0 hq) (fun fl s' hs => ?_) fun e s' hs => hs
  cases fl with
  | ret u =>
    obtain ⟨v, σ', H', J, rv, q⟩ := hs
    exact ⟨v, H', J.os, J.bare, J.base, J.hok, rv, q⟩
  | next =>
    obtain ⟨σ', H', J, q⟩ := hs
    exact ⟨V.non, H', J.os, J.bare, J.base, J.hok, rfl, q⟩
  | brk => exact hs.elim fun _ z => z.elim fun _ y => y.2.elim
  | cont => exact hs.elim fun _ z => z.elim fun _ y => y.2.elim
def spWantMany : Sp := fun vs H Q _ => ∃ i m : Int, vs = [.int i, .int m] ∧ 0 ≤ i ∧ i ≤ m ∧ RetV .non H Q
def spWantSide : Sp := fun vs H Q _ => ∃ i : Int, vs = [.int i] ∧ 1 ≤ i ∧ i ≤ 4 ∧ RetV .non H Q
def spPlace1 : Sp := fun vs H Q _ => ∃ (r : Addr) (a b t u : Int), vs = [.ref r, .int t, .int u] ∧ H r = some (.tup [.int a, .int b]) ∧ 0 ≤ a ∧ 0 ≤ b ∧ RetV (.bl (decide (a < t) && decide (b < u))) H Q
def spWantPlaces : Sp := fun vs H Q _ => ∃ (a : Addr) (tall wide : Nat) (rs : List Addr) (pl : List (Nat × Nat)), vs = [.int tall, .int wide, .ref a] ∧ SqH H a (rs.map V.ref) ∧ Pts H rs pl ∧ Bd tall wide pl ∧ RetL (rs.map V.ref) H Q
section
variable {P : Program} {w : World} {K : PySem.W.Frag} {mg : Str → Option Value} {base : Heap} {f : Addr} {fd : FuncData}
theorem ok_want_many (F : FunD K "want_many" "want_many" (defArgs (top 8)) (defBody (top 8)) (defScope (top 8)) [.non] [] f fd) (T : Tx mg) (C_is_count : Cl P w K mg base "is_count" 2 ["value"] spCount) : FnG P w K mg base 3 f fd ["value", "most"] spWantMany := by
  have sc : FnScope ["value", "most"] ["value", "most"] (defScope (top 8)) := ⟨rfl, rfl, rfl, by decide +kernel, rfl, by decide +kernel, by decide +kernel⟩
  refine okGD F sc (fun vs H Q E h => ?_) (fun cdv A outer s H vs Q gd0 hr h => ?_)
  · obtain ⟨i, m, rfl, _⟩ := h; rfl
  have gd := deeper_guards (env := envOfC "want_many" (defScope (top 8)) s.heap.objs.size f cdv) gd0
  obtain ⟨i, m, rfl, h0, h1, q⟩ := h
  refine ⟨_, (pss_cons (ps_if (pt_not (pt_val (pe_cl C_is_count gd (hr.mono (by first | decide | omega)) (pa_cons (pv 0) pa_nil)))) (pss_one ps_never) pss_nil) (pss_one (ps_if (PW.pt (pw_and (pt_cmp (pc_notN (pv 1))) (pw_and1 (pt_cmpR op_gt (pv 0) (pv 1) (nomark _))))) (pss_one ps_never) pss_nil))), ?_⟩
  refine ⟨_, rfl, i, rfl, fun H1 e1 => ⟨_, rfl, ?_⟩⟩
  rw [decide_eq_true h0]
  refine ⟨_, rfl, _, rfl, _, rfl, _, rfl, _, _, rfl, rfl, _, rfl, ?_⟩
  refine ite2 (fun c => ?_) (fun c => q _ e1)
  have c' := of_decide_eq_true c
  omega
theorem sc_want_side : FnScope ["value"] ["value"] (defScope (top 12)) := ⟨rfl, rfl, rfl, by decide +kernel, rfl, by decide +kernel, by decide +kernel⟩
theorem ok_want_side (F : Fun K "want_side" "want_side" (top 12) f fd) (T : Tx mg) {t4 : Tok} (m4 : mg "MOST_SIDE" = some (.int 4 t4)) (C_want_many : Cl P w K mg base "want_many" 3 ["value", "most"] spWantMany) : FnG P w K mg base 4 f fd ["value"] spWantSide := by
  have sc := sc_want_side
  refine okG F sc (fun vs H Q E h => ?_) (fun cdv A outer s H vs Q gd0 hr h => ?_)
  · obtain ⟨i, rfl, _⟩ := h; rfl
  have gd := deeper_guards (env := envOfC "want_side" (defScope (top 12)) s.heap.objs.size f cdv) gd0
  obtain ⟨i, rfl, h1, h4, q⟩ := h
  refine ⟨_, (pss_cons (ps_expr (pe_cl C_want_many gd (hr.mono (by decide)) (pa_cons (pv 0) (pa_cons (pe_glob (v := .int 4) rfl m4 ⟨_, rfl⟩) pa_nil)))) (pss_one (ps_if (pt_cmpR op_eq (pv 0) pe_int (nomark _)) (pss_one ps_never) pss_nil))), ?_⟩
  refine ⟨_, rfl, i, 4, rfl, by omega, h4, fun H1 e1 => ⟨_, rfl, rfl, _, rfl, ?_⟩⟩
  refine ite2 (fun c => ?_) (fun c => q _ e1)
  have c' := of_decide_eq_true c
  injection c' with c'
  omega
theorem sc_is_place1 : FnScope ["value", "tall", "wide"] ["value", "tall", "wide"] (defScope (top 13)) := ⟨rfl, rfl, rfl, by decide +kernel, rfl, by decide +kernel, by decide +kernel⟩
theorem ok_is_place1 (F : Fun K "is_place" "is_place" (top 13) f fd) (T : Tx mg) (C_is_count : Cl P w K mg base "is_count" 2 ["value"] spCount) : FnG P w K mg base 3 f fd ["value", "tall", "wide"] spPlace1 := by
  have sc := sc_is_place1
  refine okG F sc (fun vs H Q E h => ?_) (fun cdv A outer s H vs Q gd0 hr h => ?_)
  · obtain ⟨r, a, b, t, u, rfl, _⟩ := h; rfl
  have gd := deeper_guards (env := envOfC "is_place" (defScope (top 13)) s.heap.objs.size f cdv) gd0
  obtain ⟨r, a, b, t, u, rfl, hr0, ha, hb, q⟩ := h
  refine ⟨_, (pss_cons (ps_if (PW.pt (pw_or (pt_not (pt_val (pe_callB call_isi rfl T.b_isinstance bt_isinstance (pa_cons (pv 0) (pa_cons (pe_bltn (v := .ty "tuple") rfl T.b_tuple bt_tuple rfl) pa_nil))))) (pw_or (pt_cmpR op_ne (pe_callB call_len_seq rfl T.b_len bt_len (pa_cons (pv 0) pa_nil)) pe_int (nomark _)) (pw_or (pt_not (pt_val (pe_cl C_is_count gd (hr.mono (by first | decide | omega)) (pa_cons (pe_ix ix_tup (pv 0) pe_int (fun _ _ => rfl)) pa_nil)))) (pw_or1 (pt_not (pt_val (pe_cl C_is_count gd (hr.mono (by first | decide | omega)) (pa_cons (pe_ix ix_tup (pv 0) pe_int (fun _ _ => rfl)) pa_nil))))))))) (pss_one (ps_ret pe_bl)) pss_nil) (pss_one (ps_ret (pe_and (pe_cmpR op_lt (pe_ix ix_tup (pv 0) pe_int (fun _ _ => rfl)) (pv 1) (nomark _)) (pe_one (pe_cmpR op_lt (pe_ix ix_tup (pv 0) pe_int (fun _ _ => rfl)) (pv 2) (nomark _))))))), ?_⟩
  have st : SqT K H r [.int a, .int b] := st_of hr0
  refine ⟨_, rfl, _, _, _, _, _, rfl, .ty "tuple", .base (.tup hr0), kt_tuple_tuple, _, rfl, ?_⟩
  refine ⟨_, rfl, r, _, rfl, .inr st, rfl, _, rfl, ?_⟩
  refine ⟨_, rfl, _, _, _, _, rfl, rfl, st, rfl, a, rfl, fun H1 e1 => ⟨_, rfl, ?_⟩⟩
  rw [decide_eq_true ha]
  refine ⟨_, rfl, _, _, _, _, rfl, rfl, ex_t e1 st, rfl, b, rfl, fun H2 e2 => ⟨_, rfl, ?_⟩⟩
  rw [decide_eq_true hb]
  refine ⟨_, rfl, _, _, _, _, rfl, rfl, ex_t e2 (ex_t e1 st), rfl, _, rfl, _, _, rfl, rfl, _, rfl, ?_⟩
  refine ite2 (fun c => ?_) (fun c => ?_)
  · refine ⟨_, rfl, _, _, _, _, rfl, rfl, ex_t e2 (ex_t e1 st), rfl, _, rfl, _, _, rfl, rfl, ?_⟩
    rw [c, Bool.true_and] at q
    exact q _ (e1.trans e2)
  · rw [Bool.eq_false_iff.mpr c, Bool.false_and] at q
    exact q _ (e1.trans e2)
end
end B71

namespace B71
open PySem PySem.Spec PyProof.Rows L2 Evl RZ SrtO

section
variable {P : Program} {w : World} {K : PySem.W.Frag} {mg : Str → Option Value} {base : Heap} {f : Addr} {fd : FuncData}
theorem pair_at {H : Hp} {rs : List Addr} {pl : List (Nat × Nat)} (h : Pts H rs pl) {i : Nat} {z : (Nat × Nat) × (Nat × Nat)} (hz : (pl.zip (pl.drop 1))[i]? = some z) {x y : V} (hx : (rs.map V.ref)[i]? = some x) (hy : ((rs.map V.ref).drop 1)[i]? = some y) :
    ∃ r r', x = .ref r ∧ y = .ref r' ∧ Pt H r z.1 ∧ Pt H r' z.2 := by
  obtain ⟨r, p, rfl, h1, h2⟩ := pts_at h hx
  rw [List.getElem?_drop] at hy
  obtain ⟨r', p', rfl, h1', h2'⟩ := pts_at h hy
  rw [List.getElem?_zip_eq_some] at hz
  rw [List.getElem?_drop] at hz
  have e1 := hz.1.symm.trans h1
  have e2 := hz.2.symm.trans h1'
  cases e1
  obtain ⟨z1, z2⟩ := z
  simp only [Option.some.injEq] at e2
  exact ⟨r, r', rfl, rfl, by simp_all, by simp_all⟩
theorem sc_want_places : FnScope ["tall", "wide", "value", "place", "near", "far"] ["tall", "wide", "value"] (defScope (top 15)) := ⟨rfl, rfl, rfl, by decide +kernel, rfl, by decide +kernel, by decide +kernel⟩
theorem ok_want_places (F : Fun K "want_places" "want_places" (top 15) f fd) (T : Tx mg) {t16 : Tok} (m16 : mg "MOST_TABLES" = some (.int 16 t16)) (C_want_side : Cl P w K mg base "want_side" 4 ["value"] spWantSide) (C_is_list : Cl P w K mg base "is_list" 1 ["value"] spList) (C_is_place1 : Cl P w K mg base "is_place_makers" 3 ["value", "tall", "wide"] spPlace1) : FnG P w K mg base 5 f fd ["tall", "wide", "value"] spWantPlaces := by
  have sc := sc_want_places
  refine okG F sc (fun vs H Q E h => ?_) (fun cdv A outer s H vs Q gd0 hr h => ?_)
  · obtain ⟨a, t, u, rs, pl, rfl, _⟩ := h; rfl
  have gd := deeper_guards (env := envOfC "want_places" (defScope (top 15)) s.heap.objs.size f cdv) gd0
  obtain ⟨a, tall, wide, rs, pl, rfl, hs, hp, hb, q⟩ := h
  have hl := hp.len
  have hn : (pl.zip (pl.drop 1)).length = min (rs.map V.ref).length ((rs.map V.ref).drop 1).length := by simp [hl]
  have hz := hb.p16
  have allP : ∀ y ∈ pl, (decide ((y.1 : Int) < tall) && decide ((y.2 : Int) < wide)) = true := fun y hy => by
    have := hb.inb y hy
    simp; omega
  have ncut : ¬ (HT.sIx (rs.map V.ref).length 0 (some 1) = 0 ∧ HT.sIx (rs.map V.ref).length (rs.map V.ref).length none = (rs.map V.ref).length) := fun z => by
    have z1 := z.1
    rw [show HT.sIx (rs.map V.ref).length 0 (some 1) = min 1 (rs.map V.ref).length from HT.sIx_nat _ 0 1, List.length_map, hl] at z1
    have := hb.p1
    omega
  rcases hs with hs | hs
  · refine ⟨_, (pss_cons (ps_expr (pe_cl C_want_side gd (hr.mono (by first | decide | omega)) (pa_cons (pv 0) pa_nil))) (pss_cons (ps_expr (pe_cl C_want_side gd (hr.mono (by first | decide | omega)) (pa_cons (pv 1) pa_nil))) (pss_cons (ps_if (PW.pt (pw_or (pt_not (pt_val (pe_cl C_is_list gd (hr.mono (by first | decide | omega)) (pa_cons (pv 2) pa_nil)))) (pw_or1 (pt_not (pt_chain op_le op_le pe_int (pe_callB call_len_seq rfl T.b_len bt_len (pa_cons (pv 2) pa_nil)) (pe_glob (v := .int 16) rfl m16 ⟨_, rfl⟩)))))) (pss_one ps_never) pss_nil) (pss_cons (ps_if (pt_not (pt_val (pe_callB (cr_all rfl) rfl T.b_all bt_all (pa_cons (pe_lc (own := [("place", 3)]) (g := (gName 3)) rfl sc.nd (pi_list (pv 2)) (blkOk_by (N := ["tall", "wide", "value", "place", "near", "far"]) (sc := defScope (top 15)) (by decide +kernel)) (fun _ _ _ _ _ => (pg_name (i := 3) sc.nd rfl (Or.inl rfl))) (fun _ _ _ _ _ => pts_nil) (fun _ _ _ _ _ => (pe_cl C_is_place1 gd (hr.mono (by first | decide | omega)) (pa_cons (pv 3) (pa_cons (pv 0) (pa_cons (pv 1) pa_nil)))))) pa_nil)))) (pss_one ps_never) pss_nil) (pss_cons (ps_if (pt_not (pt_val (pe_callB (cr_all rfl) rfl T.b_all bt_all (pa_cons (pe_lc (own := [("near", 4), ("far", 5)]) (g := (gTup K 2 (gCons (gName 4) (gCons (gName 5) gNil)))) rfl sc.nd (pi_zipA rfl T.b_zip (pa_cons (pv 2) (pa_cons (pe_slice sl_list (pv 2) (po_some pe_int) po_none) pa_nil))) (blkOk_by (N := ["tall", "wide", "value", "place", "near", "far"]) (sc := defScope (top 15)) (by decide +kernel)) (fun _ _ _ _ _ => (pg_tup rfl (pgs_cons (pg_name (i := 4) sc.nd rfl (Or.inl rfl)) (pgs_cons (pg_name (i := 5) sc.nd rfl (Or.inl rfl)) pgs_nil)))) (fun _ _ _ _ _ => pts_nil) (fun _ _ _ _ _ => (pe_cmpR (show OpR _ _ (rLtT K) from (op_ltT hr.units0)) (pv 4) (pv 5) (nomark _)))) pa_nil)))) (pss_one ps_never) pss_nil) (pss_one (ps_ret (pe_callTy call_list_of rfl T.b_list bt_list (pa_cons (pv 2) pa_nil))))))))), ?_⟩
    refine ⟨_, rfl, (tall : Int), rfl, by have := hb.t1; omega, by have := hb.t4; omega, fun H1 e1 => ⟨_, rfl, (wide : Int), rfl, by have := hb.w1; omega, by have := hb.w4; omega, fun H2 e2 => ?_⟩⟩
    have e02 := e1.trans e2
    refine ⟨_, rfl, a, _, rfl, .inl (e02 _ _ hs), fun H3 e3 => ⟨_, rfl, ?_⟩⟩
    have e03 := e02.trans e3
    refine ⟨_, rfl, a, _, rfl, .inl (sq_of (e03 _ _ hs)), _, _, rfl, rfl, _, rfl, ?_⟩
    rw [List.length_map, hl, decide_eq_true (by have := hb.p1; omega)]
    refine ⟨_, _, rfl, rfl, _, rfl, ?_⟩
    rw [decide_eq_true (by omega)]
    -- all([is_place_makers(place, tall, wide) for place in value])
    refine ⟨_, rfl, a, rfl, ⟨_, sq_of (e03 _ _ hs)⟩, fun D hD => ?_⟩
    refine lcW (walk_list (K := K) (a := a) (xs := rs.map V.ref)) pl (by simp [hl]) (by simp; omega) (fun _ => true) (fun y v _ => v = .bl (decide ((y.1 : Int) < tall) && decide ((y.2 : Int) < wide))) Stab.bl hD (fun H4 e4 => sq_of (e4 _ _ (e03 _ _ hs))) ?_ ?_
    · rintro i y x H4 H5 N Gt hy e4 ⟨rfl, hx⟩ _ k
      obtain ⟨r, p, rfl, h1, h2⟩ := pts_at hp hx
      cases h1.symm.trans hy
      refine ⟨Ex.refl _, rfl, ?_⟩
      refine ⟨_, rfl, _, rfl, _, rfl, r, (y.1 : Int), (y.2 : Int), tall, wide, rfl, e4 _ _ (e03 _ _ h2), by omega, by omega, fun H6 e6 => k rfl _ _ e6 rfl⟩
    · intro acc H4 e4 hD4 hacc
      rw [filter_yes] at hacc
      have ha := paired_bl hacc
      refine ⟨D, _, rfl, sq_of (ha ▸ hD4), _, rfl, ?_⟩
      rw [all_true (fun b hb' => by obtain ⟨y, hy, rfl⟩ := List.mem_map.mp hb'; exact allP y hy)]
      have e04 := e03.trans e4
      -- all([near < far for near, far in zip(value, value[1:])])
      refine ⟨_, rfl, _, rfl, _, rfl, a, _, rfl, sq_of (e04 _ _ hs), fun p5 hp5 => ?_⟩
      rw [cut1]
      have e5 : Ex H4 (upd H4 p5 (.lst ((rs.map V.ref).drop 1))) := Ex.new hp5
      have e05 := e04.trans e5
      refine ⟨a, p5, _, _, rfl, .inl ⟨sq_of (e05 _ _ hs), sq_of upd_same, fun D2 hD2 => ?_⟩⟩
      refine lcW (walk_zip (K := K) (a := a) (b := p5) rfl) (pl.zip (pl.drop 1)) hn.symm (by simp; omega) (fun _ => true) (fun y v _ => v = .bl (decide (lexlt y.1 y.2))) Stab.bl hD2 (fun H6 e6 => ⟨sq_of (e6 _ _ (e05 _ _ hs)), sq_of (e6 _ _ upd_same)⟩) ?_ ?_
      · rintro i y x H6 H7 N Gt hy e6 ⟨Tt, x1, x2, rfl, hT, rfl, h1, h2⟩ _ k
        obtain ⟨r, r', rfl, rfl, hr1, hr2⟩ := pair_at (H := upd H6 Tt (.tup [x1, x2])) (hp.up (e05.trans (e6.trans (Ex.new hT)))) hy h1 h2
        refine ⟨Ex.new hT, ?_⟩
        refine ⟨Tt, _, rfl, st_of upd_same, rfl, _, _, rfl, _, _, rfl, rfl, rfl, ?_⟩
        refine ⟨_, rfl, _, rfl, r, r', [(y.1.1 : Int), (y.1.2 : Int)], [(y.2.1 : Int), (y.2.2 : Int)], rfl, rfl, st_of hr1, st_of hr2, ?_⟩
        exact k rfl _ _ (Ex.refl _) (congrArg V.bl lexLt_pair)
      · intro acc2 H6 e6 hD6 hacc2
        rw [filter_yes] at hacc2
        have ha2 := paired_bl hacc2
        refine ⟨D2, _, rfl, sq_of (ha2 ▸ hD6), _, rfl, ?_⟩
        rw [all_true (fun b hb' => by obtain ⟨y, hy, rfl⟩ := List.mem_map.mp hb'; exact adj hb.so y hy)]
        have e06 := e05.trans e6
        refine ⟨_, rfl, a, _, rfl, .inl (sq_of (e06 _ _ hs)), fun l hl' => q l _ ?_ (e06.trans (Ex.new hl')) upd_same⟩
        exact fresh_back e06 hl'
  · refine ⟨_, (pss_cons (ps_expr (pe_cl C_want_side gd (hr.mono (by first | decide | omega)) (pa_cons (pv 0) pa_nil))) (pss_cons (ps_expr (pe_cl C_want_side gd (hr.mono (by first | decide | omega)) (pa_cons (pv 1) pa_nil))) (pss_cons (ps_if (PW.pt (pw_or (pt_not (pt_val (pe_cl C_is_list gd (hr.mono (by first | decide | omega)) (pa_cons (pv 2) pa_nil)))) (pw_or1 (pt_not (pt_chain op_le op_le pe_int (pe_callB call_len_seq rfl T.b_len bt_len (pa_cons (pv 2) pa_nil)) (pe_glob (v := .int 16) rfl m16 ⟨_, rfl⟩)))))) (pss_one ps_never) pss_nil) (pss_cons (ps_if (pt_not (pt_val (pe_callB (cr_all rfl) rfl T.b_all bt_all (pa_cons (pe_lc (own := [("place", 3)]) (g := (gName 3)) rfl sc.nd (pi_tup (pv 2)) (blkOk_by (N := ["tall", "wide", "value", "place", "near", "far"]) (sc := defScope (top 15)) (by decide +kernel)) (fun _ _ _ _ _ => (pg_name (i := 3) sc.nd rfl (Or.inl rfl))) (fun _ _ _ _ _ => pts_nil) (fun _ _ _ _ _ => (pe_cl C_is_place1 gd (hr.mono (by first | decide | omega)) (pa_cons (pv 3) (pa_cons (pv 0) (pa_cons (pv 1) pa_nil)))))) pa_nil)))) (pss_one ps_never) pss_nil) (pss_cons (ps_if (pt_not (pt_val (pe_callB (cr_all rfl) rfl T.b_all bt_all (pa_cons (pe_lc (own := [("near", 4), ("far", 5)]) (g := (gTup K 2 (gCons (gName 4) (gCons (gName 5) gNil)))) rfl sc.nd (pi_zipA rfl T.b_zip (pa_cons (pv 2) (pa_cons (pe_slice sl_tup (pv 2) (po_some pe_int) po_none) pa_nil))) (blkOk_by (N := ["tall", "wide", "value", "place", "near", "far"]) (sc := defScope (top 15)) (by decide +kernel)) (fun _ _ _ _ _ => (pg_tup rfl (pgs_cons (pg_name (i := 4) sc.nd rfl (Or.inl rfl)) (pgs_cons (pg_name (i := 5) sc.nd rfl (Or.inl rfl)) pgs_nil)))) (fun _ _ _ _ _ => pts_nil) (fun _ _ _ _ _ => (pe_cmpR (show OpR _ _ (rLtT K) from (op_ltT hr.units0)) (pv 4) (pv 5) (nomark _)))) pa_nil)))) (pss_one ps_never) pss_nil) (pss_one (ps_ret (pe_callTy call_list_of rfl T.b_list bt_list (pa_cons (pv 2) pa_nil))))))))), ?_⟩
    refine ⟨_, rfl, (tall : Int), rfl, by have := hb.t1; omega, by have := hb.t4; omega, fun H1 e1 => ⟨_, rfl, (wide : Int), rfl, by have := hb.w1; omega, by have := hb.w4; omega, fun H2 e2 => ?_⟩⟩
    have e02 := e1.trans e2
    refine ⟨_, rfl, a, _, rfl, .inr (e02 _ _ hs), fun H3 e3 => ⟨_, rfl, ?_⟩⟩
    have e03 := e02.trans e3
    refine ⟨_, rfl, a, _, rfl, .inr (st_of (e03 _ _ hs)), _, _, rfl, rfl, _, rfl, ?_⟩
    rw [List.length_map, hl, decide_eq_true (by have := hb.p1; omega)]
    refine ⟨_, _, rfl, rfl, _, rfl, ?_⟩
    rw [decide_eq_true (by omega)]
    -- all([is_place_makers(place, tall, wide) for place in value])
    refine ⟨_, rfl, a, rfl, ⟨_, st_of (e03 _ _ hs)⟩, fun D hD => ?_⟩
    refine lcW (walk_tup (K := K) (a := a) (xs := rs.map V.ref)) pl (by simp [hl]) (by simp; omega) (fun _ => true) (fun y v _ => v = .bl (decide ((y.1 : Int) < tall) && decide ((y.2 : Int) < wide))) Stab.bl hD (fun H4 e4 => st_of (e4 _ _ (e03 _ _ hs))) ?_ ?_
    · rintro i y x H4 H5 N Gt hy e4 ⟨rfl, hx⟩ _ k
      obtain ⟨r, p, rfl, h1, h2⟩ := pts_at hp hx
      cases h1.symm.trans hy
      refine ⟨Ex.refl _, rfl, ?_⟩
      refine ⟨_, rfl, _, rfl, _, rfl, r, (y.1 : Int), (y.2 : Int), tall, wide, rfl, e4 _ _ (e03 _ _ h2), by omega, by omega, fun H6 e6 => k rfl _ _ e6 rfl⟩
    · intro acc H4 e4 hD4 hacc
      rw [filter_yes] at hacc
      have ha := paired_bl hacc
      refine ⟨D, _, rfl, sq_of (ha ▸ hD4), _, rfl, ?_⟩
      rw [all_true (fun b hb' => by obtain ⟨y, hy, rfl⟩ := List.mem_map.mp hb'; exact allP y hy)]
      have e04 := e03.trans e4
      -- all([near < far for near, far in zip(value, value[1:])])
      refine ⟨_, rfl, _, rfl, _, rfl, a, _, rfl, st_of (e04 _ _ hs), ncut, fun p5 hp5 => ?_⟩
      rw [cut1]
      have e5 : Ex H4 (upd H4 p5 (.tup ((rs.map V.ref).drop 1))) := Ex.new hp5
      have e05 := e04.trans e5
      refine ⟨a, p5, _, _, rfl, .inr ⟨st_of (e05 _ _ hs), st_of upd_same, fun D2 hD2 => ?_⟩⟩
      refine lcW (walk_zipT (K := K) (a := a) (b := p5) rfl) (pl.zip (pl.drop 1)) hn.symm (by simp; omega) (fun _ => true) (fun y v _ => v = .bl (decide (lexlt y.1 y.2))) Stab.bl hD2 (fun H6 e6 => ⟨st_of (e6 _ _ (e05 _ _ hs)), st_of (e6 _ _ upd_same)⟩) ?_ ?_
      · rintro i y x H6 H7 N Gt hy e6 ⟨Tt, x1, x2, rfl, hT, rfl, h1, h2⟩ _ k
        obtain ⟨r, r', rfl, rfl, hr1, hr2⟩ := pair_at (H := upd H6 Tt (.tup [x1, x2])) (hp.up (e05.trans (e6.trans (Ex.new hT)))) hy h1 h2
        refine ⟨Ex.new hT, ?_⟩
        refine ⟨Tt, _, rfl, st_of upd_same, rfl, _, _, rfl, _, _, rfl, rfl, rfl, ?_⟩
        refine ⟨_, rfl, _, rfl, r, r', [(y.1.1 : Int), (y.1.2 : Int)], [(y.2.1 : Int), (y.2.2 : Int)], rfl, rfl, st_of hr1, st_of hr2, ?_⟩
        exact k rfl _ _ (Ex.refl _) (congrArg V.bl lexLt_pair)
      · intro acc2 H6 e6 hD6 hacc2
        rw [filter_yes] at hacc2
        have ha2 := paired_bl hacc2
        refine ⟨D2, _, rfl, sq_of (ha2 ▸ hD6), _, rfl, ?_⟩
        rw [all_true (fun b hb' => by obtain ⟨y, hy, rfl⟩ := List.mem_map.mp hb'; exact adj hb.so y hy)]
        have e06 := e05.trans e6
        refine ⟨_, rfl, a, _, rfl, .inr (st_of (e06 _ _ hs)), fun l hl' => q l _ ?_ (e06.trans (Ex.new hl')) upd_same⟩
        exact fresh_back e06 hl'
end
end B71

namespace B71
open PySem PySem.Spec PyProof.Rows L2 Evl RZ SrtO

def kD (d : Dc) : List (Key × V) := d.map fun p => (Sum.inl (p.1 : Int), V.int (p.2 : Int))
def kT (t : List Nat) : List (Key × V) := t.map fun (c : Nat) => (Sum.inl (c : Int), V.bl true)
theorem inl_iff {a b : Nat} : ((Sum.inl (a : Int) : Key) = Sum.inl (b : Int)) ↔ a = b := ⟨fun h => by have := Sum.inl.inj h; omega, fun h => by rw [h]⟩
theorem valD (d : Dc) (c : Nat) : valV (kD d) (.inl (c : Int)) = (look d c).map fun r => V.int (r : Int) := by
  induction d with
  | nil => rfl
  | cons p d ih =>
    unfold kD look at ih ⊢
    rw [List.map_cons]
    by_cases h : p.1 = c
    · rw [valV_pos (by rw [h]), List.find?_cons_of_pos (by simpa using h)]; rfl
    · rw [valV_neg (fun z => h (inl_iff.mp z)), List.find?_cons_of_neg (by simpa using h)]; exact ih
theorem valT (t : List Nat) (c : Nat) : (valV (kT t) (.inl (c : Int))).isSome = decide (c ∈ t) := by
  rw [← valV_any]
  unfold kT
  rw [List.any_map]
  by_cases h : c ∈ t
  · rw [decide_eq_true h]; exact List.any_eq_true.mpr ⟨c, h, by simp⟩
  · rw [decide_eq_false h]
    refine List.any_eq_false.mpr fun x hx => ?_
    have : x ≠ c := fun z => h (z ▸ hx)
    show ¬ decide ((Sum.inl (x : Int) : Key) = Sum.inl (c : Int)) = true
    rw [decide_eq_true_iff]
    exact fun z => this (inl_iff.mp z)
theorem putD (d : Dc) (c r : Nat) : putK (kD d) (.inl (c : Int)) (.int (r : Int)) = kD (put d c r) := by
  unfold putK put kD
  rw [List.any_map]
  have e : (d.any ((fun kv : Key × V => decide (kv.1 = Sum.inl (c : Int))) ∘ fun p : Nat × Nat => (Sum.inl (p.1 : Int), V.int (p.2 : Int)))) = d.any fun p => decide (p.1 = c) := by
    congr 1
    funext p
    show decide ((Sum.inl (p.1 : Int) : Key) = Sum.inl (c : Int)) = decide (p.1 = c)
    exact decide_eq_decide.mpr inl_iff
  rw [e]
  by_cases h : (d.any fun p => decide (p.1 = c)) = true
  · rw [if_pos h, if_pos h, List.map_map, List.map_map]
    refine List.map_congr_left fun p _ => ?_
    show (if (Sum.inl (p.1 : Int) : Key) = Sum.inl (c : Int) then _ else _) = _
    by_cases q : p.1 = c
    · rw [if_pos (inl_iff.mpr q)]; simp [q]
    · rw [if_neg (fun z => q (inl_iff.mp z))]; simp [q]
  · rw [if_neg h, if_neg h, List.map_append]; rfl
theorem putT (t : List Nat) (c : Nat) (h : c ∉ t) : putK (kT t) (.inl (c : Int)) (.bl true) = kT (t ++ [c]) := by
  unfold putK
  have e : ((kT t).any fun kv => decide (kv.1 = (Sum.inl (c : Int) : Key))) = false := by rw [valV_any, valT]; exact decide_eq_false h
  rw [if_neg (by rw [e]; exact Bool.false_ne_true)]
  unfold kT
  rw [List.map_append]; rfl
theorem merge_fresh : ∀ (l acc : Dc), ((acc ++ l).map (·.1)).Nodup → mergeK (kD acc) (kD l) = kD (acc ++ l)
  | [], acc, _ => by rw [List.append_nil]; rfl
  | p :: l, acc, h => by
    unfold mergeK
    show List.foldl _ (putK (kD acc) (.inl (p.1 : Int)) (.int (p.2 : Int))) (kD l) = _
    rw [putD, put_new (look_none.mpr fun q hq z => ?_)]
    · have := merge_fresh l (acc ++ [p]) (by rw [List.append_assoc]; exact h)
      rw [List.append_assoc] at this
      exact this
    · rw [List.map_append, List.map_cons, List.nodup_append] at h
      exact h.2.2 q.1 (List.mem_map.mpr ⟨q, hq, rfl⟩) p.1 (List.mem_cons_self ..) z
theorem mergeD {l : Dc} (h : (l.map (·.1)).Nodup) : mergeK [] (kD l) = kD l := merge_fresh l [] (by simpa using h)
theorem tu_list {α : Type} {g : α → List V} {H : Hp} : ∀ {ys : List α} {acc : List V}, Paired (fun y v => Tu g y v H) ys acc → ∃ rs : List Addr, acc = rs.map V.ref ∧ rs.length = ys.length ∧ Paired (fun r y => H r = some (.tup (g y))) rs ys
  | _, _, .nil => ⟨[], rfl, rfl, .nil⟩
  | _, _, .cons ⟨r, h1, h2⟩ t => by
    obtain ⟨rs, e, l, p⟩ := tu_list t
    exact ⟨r :: rs, by rw [h1, e]; rfl, by simp [l], .cons h2 p⟩
/-- all but the thing at d stands -/
def ExB (d : Addr) (H H' : Hp) : Prop := ∀ b o, b ≠ d → H b = some o → H' b = some o
theorem ExB.of {d : Addr} {H H' : Hp} (e : Ex H H') : ExB d H H' := fun b o _ h => e b o h
theorem ExB.trans {d : Addr} {H H1 H2 : Hp} (a : ExB d H H1) (b : ExB d H1 H2) : ExB d H H2 := fun x o n h => b x o n (a x o n h)
theorem ExB.put {d : Addr} {H H1 : Hp} {o : HO} (a : ExB d H H1) : ExB d H (upd H1 d o) := fun x u n h => by rw [upd_ne n]; exact a x u n h
theorem ExB.fresh {d p : Addr} {H H' : Hp} (e : ExB d H H') (n : p ≠ d) (h : H' p = none) : H p = none := by
  cases q : H p with
  | none => rfl
  | some o => rw [e p o n q] at h; cases h
theorem Pts.upB {d : Addr} {H H' : Hp} {rs : List Addr} {pl : List (Nat × Nat)} (h : Pts H rs pl) (e : ExB d H H') {u : HO} (hd : H d = some u) (nu : ∀ xs, u ≠ .tup xs) : Pts H' rs pl := Paired.mapP h fun r p q => e r _ (fun z => by
  have q' : H r = some (.tup _) := q
  rw [z, hd] at q'
  exact nu _ (Option.some.inj q')) q
def FwR (o : Option Dc) (H : Hp) (v : V) (H' : Hp) : Prop := match o with | none => v = .non | some L => ∃ p, v = .ref p ∧ H p = none ∧ H' p = some (.dK (kD L))
structure FwP (pl : Pl) (n row : Nat) (M : Dc) (t : List Nat) : Prop where
  h4 : ∀ r c, (r, c) ∈ pl → c < 4
  p16 : pl.length ≤ 16
  mat : Mat pl M
  new : row ∉ M.map (·.2)
  tr : Tr t
  fuel : 5 ≤ t.length + n
def spFree (n : Nat) : Sp := fun vs H Q _ => ∃ (a sd td : Addr) (row : Nat) (rs : List Addr) (pl : Pl) (M : Dc) (t : List Nat), vs = [.ref a, .int row, .ref sd, .ref td] ∧ H a = some (.lst (rs.map V.ref)) ∧ Pts H rs pl ∧ FwP pl n row M t ∧
  H sd = some (.dK (kD M)) ∧ H td = some (.dK (kT t)) ∧ sd ≠ td ∧
  ∀ v H', ExB td H H' → H' td = some (.dK (kT (fw pl n row M t).2)) → FwR (fw pl n row M t).1 H v H' → Q v H'
theorem mat_len {pl : Pl} (h4 : ∀ r c, (r, c) ∈ pl → c < 4) {M : Dc} (m : Mat pl M) : M.length ≤ 4 := by
  have := nodup_le (l := M.map (·.1)) (m := List.range 4) m.cols fun c hc => by
    obtain ⟨⟨x, r⟩, hp, rfl⟩ := List.mem_map.mp hc
    exact List.mem_range.mpr (h4 r x (m.on x r hp))
  simpa using this
section
variable {P : Program} {w : World} {K : PySem.W.Frag} {mg : Str → Option Value} {base : Heap} {f : Addr} {fd : FuncData}
theorem sc_free_way : FnScope ["places", "row", "seats", "tried", "near", "column", "later", "others", "one"] ["places", "row", "seats", "tried"] (defScope (top 17)) := ⟨rfl, rfl, rfl, by decide +kernel, rfl, by decide +kernel, by decide +kernel⟩
theorem ok_free_way {n : Nat} (F : Fun K "free_way" "free_way" (top 17) f fd) (T : Tx mg) (C_free_way : Cl P w K mg base "free_way" n ["places", "row", "seats", "tried"] (spFree n)) : FnG P w K mg base (n + 1) f fd ["places", "row", "seats", "tried"] (spFree (n + 1)) := by
  have sc := sc_free_way
  refine okG F sc (fun vs H Q E h => ?_) (fun cdv A outer s H vs Q gd0 hr h => ?_)
  · obtain ⟨a, sd, td, row, _, _, _, _, rfl, _⟩ := h; rfl
  have gd := deeper_guards (env := envOfC "free_way" (defScope (top 17)) s.heap.objs.size f cdv) gd0
  obtain ⟨a, sd, td, row, rs, pl, M, t, rfl, ha, hp, J, hsd, htd, nst, q⟩ := h
  have hl := hp.len
  have nat : a ≠ td := fun z => by rw [z, htd] at ha; cases ha
  refine ⟨_, (pss_cons (ps_for PassesOwn.never rfl (pi_list (pv 0)) (pg_tup rfl (pgs_cons (pg_name (i := 4) sc.nd rfl (Or.inl rfl)) (pgs_cons (pg_name (i := 5) sc.nd rfl (Or.inr rfl)) pgs_nil))) (pss_one (ps_if (PW.pt (pw_and (pt_cmpR op_eq (pv 4) (pv 1) (nomark _)) (pw_and1 (pt_cmp (pc_dnotin (u1 hr) (pv 5) (pv 3)))))) (pss_cons (ps_dput (u1 hr) (pv 3) (pv 5) pe_bl rfl) (pss_cons (ps_set (i := 6) sc.nd rfl (Or.inl rfl) (pe_callTy call_dictD rfl T.b_dict bt_dict (pa_cons (pv 2) pa_nil))) (pss_cons (ps_if (pt_cmp (pc_din (u1 hr) (pv 5) (pv 2))) (pss_cons (ps_set (i := 7) sc.nd rfl (Or.inl rfl) (pe_callTy (call_dictP rfl) rfl T.b_dict bt_dict (pa_cons (pe_lock (pe_lc (own := [("one", 8)]) (g := (gName 8)) rfl sc.nd (pi_keys (pv 2)) (blkOk_by (N := ["places", "row", "seats", "tried", "near", "column", "later", "others", "one"]) (sc := defScope (top 17)) (by decide +kernel)) (fun _ _ _ _ _ => (pg_name (i := 8) sc.nd rfl (Or.inl rfl))) (fun _ _ _ _ _ => (pts_one (pt_cmpR op_ne (pv 8) (pv 5) (nomark _)))) (fun _ _ _ _ _ => (pe_tup (pa_cons (pv 8) (pa_cons (pe_dget (u1 hr) (pv 2) (pv 8) (fun _ _ => rfl)) pa_nil)))))) pa_nil))) (pss_one (ps_set (i := 6) sc.nd rfl (Or.inl rfl) (pe_cl C_free_way gd (hr.mono (by first | decide | omega)) (pa_cons (pv 0) (pa_cons (pe_dget (u1 hr) (pv 2) (pv 5) (fun _ _ => rfl)) (pa_cons (pv 7) (pa_cons (pv 3) pa_nil)))))))) pss_nil) (pss_one (ps_if (pt_cmp (pc_notN (pv 6))) (pss_cons (ps_dput (u1 hr) (pv 6) (pv 5) (pv 1) rfl) (pss_one (ps_ret (pv 6)))) pss_nil))))) pss_nil))) (pss_one (ps_ret pe_non))), ?_⟩
  refine ⟨_, rfl, a, rfl, ⟨_, sq_of ha⟩, for_list (K := K) (a := a) (xs := rs.map V.ref) (fun i σ H' => ∃ (ti : List Nat) (o4 o5 o6 o7 o8 : Option V), σ = [some (.ref a), some (.int row), some (.ref sd), some (.ref td), o4, o5, o6, o7, o8] ∧ ExB td H H' ∧ H' td = some (.dK (kT ti)) ∧ Tr ti ∧ t.length ≤ ti.length ∧
      fwLoop (fw pl n) row M pl t = fwLoop (fw pl n) row M (pl.drop i) ti)
    ⟨t, none, none, none, none, none, rfl, ExB.of (Ex.refl _), htd, J.tr, Nat.le_refl _, rfl⟩ (fun i σ H' _ ⟨_, _, _, _, _, _, _, e, _⟩ => sq_of (e _ _ nat ha)) ?_ ?_⟩
  · rintro i x σ H1 hx ⟨ti, o4, o5, o6, o7, o8, rfl, e1, hti, trt, tl, hf⟩
    have hp1 := hp.upB e1 htd (fun xs z => by cases z)
    obtain ⟨r, ⟨k, c⟩, rfl, hk, hr1⟩ := pts_at hp1 hx
    have hi : i < pl.length := (List.getElem?_eq_some_iff.mp hk).1
    have hdrop : pl.drop i = (k, c) :: pl.drop (i + 1) := by
      rw [List.drop_eq_getElem_cons hi]
      congr 1
      exact (List.getElem?_eq_some_iff.mp hk).2
    have hmem : (k, c) ∈ pl := List.mem_of_getElem? hk
    rw [hdrop] at hf
    refine ⟨r, _, rfl, st_of hr1, rfl, _, _, rfl, _, _, rfl, rfl, ?_⟩
    refine ⟨_, rfl, _, rfl, rfl, _, rfl, ?_⟩
    have skip : ¬ (k = row ∧ c ∉ ti) → ∃ (tj : List Nat) (o4' o5' o6' o7' o8' : Option V), [some (.ref a), some (.int row), some (.ref sd), some (.ref td), some (.int k), some (.int c), o6, o7, o8] = [some (.ref a), some (.int row), some (.ref sd), some (.ref td), o4', o5', o6', o7', o8'] ∧ ExB td H H1 ∧ H1 td = some (.dK (kT tj)) ∧ Tr tj ∧ t.length ≤ tj.length ∧
      fwLoop (fw pl n) row M pl t = fwLoop (fw pl n) row M (pl.drop (i + 1)) tj := fun g => ⟨ti, _, _, _, _, _, rfl, e1, hti, trt, tl, by rw [hf, loop_skip g]⟩
    refine ite2 (fun g1 => ?_) (fun g1 => ?_)
    · have g1' : k = row := by
        have := of_decide_eq_true g1
        injection this with this
        omega
      refine ⟨_, rfl, _, rfl, td, _, rfl, DGet.k (k := .inl (c : Int)) hti, ?_⟩
      rw [valT]
      refine ⟨_, rfl, ?_⟩
      refine ite2 (fun g2 => ?_) (fun g2 => ?_)
      · have g2' : c ∉ ti := by simpa using g2
        have hfe : fw pl (n + 1) row M t = fwLoop (fw pl n) row M ((k, c) :: pl.drop (i + 1)) ti := hf
        have hlt : (kT ti).length < sizeLine := by unfold kT; rw [List.length_map]; exact small1000 (by have := trt.len; omega)
        refine ⟨_, rfl, _, rfl, td, _, rfl, DPut.k (k := .inl (c : Int)) hti hlt, ?_⟩
        rw [putT ti c g2']
        have e2 : ExB td H (upd H1 td (.dK (kT (ti ++ [c])))) := e1.put
        have hti2 : upd H1 td (.dK (kT (ti ++ [c]))) td = some (.dK (kT (ti ++ [c]))) := upd_same
        generalize upd H1 td (.dK (kT (ti ++ [c]))) = H2 at e2 hti2 ⊢
        have c4 := J.h4 k c hmem
        have tr2 := trt.snoc g2' c4
        have hsd2 : H2 sd = some (.dK (kD M)) := e2 _ _ nst hsd
        have ml := mat_len J.h4 J.mat
        refine ⟨_, rfl, sd, _, rfl, .inl hsd2, fun p hp2 => ?_⟩
        have npt : p ≠ td := fun z => by rw [z, hti2] at hp2; cases hp2
        have nps : p ≠ sd := fun z => by rw [z, hsd2] at hp2; cases hp2
        have hp0 : H p = none := e2.fresh npt hp2
        have x3 : Ex H2 (upd H2 p (.dK (kD M))) := Ex.new hp2
        have e3 := e2.trans (ExB.of x3)
        have hp3 : upd H2 p (.dK (kD M)) p = some (.dK (kD M)) := upd_same
        generalize upd H2 p (.dK (kD M)) = H3 at e3 hp3 x3 ⊢
        have hsd3 := x3 _ _ hsd2
        have hti3 := x3 _ _ hti2
        refine ⟨_, rfl, _, rfl, sd, _, rfl, DGet.k (k := .inl (c : Int)) hsd3, ?_⟩
        rw [valD]
        refine ⟨_, rfl, ?_⟩
        cases e : look M c with
        | none =>
          rw [loop_free ⟨g1', g2'⟩ e] at hfe
          refine ⟨_, rfl, _, rfl, ?_⟩
          refine ⟨_, rfl, _, rfl, _, rfl, p, _, rfl, DPut.k (k := .inl (c : Int)) hp3 (by unfold kD; rw [List.length_map]; exact small1000 (by omega)), ?_⟩
          refine ⟨_, rfl, ?_⟩
          rw [putD]
          refine q _ _ (fun b o nb hb => ?_) ?_ ?_
          · rw [upd_ne (ne_of_none hb hp0)]; exact e3 b o nb hb
          · rw [hfe, upd_ne npt.symm]; exact hti3
          · rw [hfe]; exact ⟨p, rfl, hp0, upd_same⟩
        | some r2 =>
          -- others = dict([(one, seats[one]) for one in seats if one != column])
          have hrd := rows_del J.mat e
          have mdel := J.mat.del c
          have ldel := mat_len J.h4 mdel
          refine ⟨sd, _, hsd3, trivial, fun od => ?_⟩
          have hsdL : upd H3 sd (.frz od (.dK (kD M))) sd = some (.frz od (.dK (kD M))) := upd_same
          refine ⟨_, rfl, sd, od, rfl, .inl ⟨_, hsdL, fun D hD => ?_⟩⟩
          refine lcW (walk_keys (kvs := kD M)) M (by unfold kD; rw [List.length_map]) (by unfold kD; rw [List.length_map]; omega) (fun y => decide (y.1 ≠ c)) (Tu fun y => [.int (y.1 : Nat), .int (y.2 : Nat)]) Stab.tu hD (fun H4 e4 => e4 _ _ hsdL) ?_ ?_
          · rintro i' y x H4 H5 N Gt hy e4 ⟨rfl, kk, vv, hk', rfl⟩ kN kY
            have hym : y ∈ M := List.mem_of_getElem? hy
            have hk2 : (kk, vv) = (Sum.inl (y.1 : Int), V.int (y.2 : Int)) := by
              unfold kD at hk'
              rw [List.getElem?_map, hy] at hk'
              exact (Option.some.inj hk').symm
            cases hk2
            refine ⟨Ex.refl _, rfl, ?_⟩
            refine ⟨_, rfl, _, rfl, rfl, _, rfl, ?_⟩
            refine ite2 (fun g3 => ?_) (fun g3 => ?_)
            · have g3' : y.1 ≠ c := by
                intro z
                have z' : kV (.inl (y.1 : Int)) = V.int (c : Int) := by rw [z]; rfl
                rw [decide_eq_true z'] at g3
                cases g3
              have hv : look M y.1 = some y.2 := (look_some J.mat.cols).mpr hym
              refine ⟨_, rfl, _, rfl, _, rfl, sd, _, rfl, .inl ⟨_, .inl (y.1 : Int), .inr ⟨od, e4 _ _ hsdL⟩, rfl, by rw [valD, hv]; rfl⟩, (by show 2 ≤ sizeLine; decide), fun r5 hr5 => ?_⟩
              exact kY (decide_eq_true g3') _ _ (Ex.new hr5) ⟨r5, rfl, upd_same⟩
            · have g3' : y.1 = c := by
                apply Classical.byContradiction
                intro z
                apply g3
                have z' : ¬ kV (.inl (y.1 : Int)) = V.int (c : Int) := fun q' => by
                  have q2 : V.int (y.1 : Int) = V.int (c : Int) := q'
                  injection q2 with q2
                  omega
                rw [decide_eq_false z']
                rfl
              exact kN (by simp [g3']) _ (Ex.refl _)
          · intro acc H4 e4 hD4 hacc
            have xl := ex_lock hsd3 e4
            obtain ⟨ps, rfl, lps, hps⟩ := tu_list hacc
            refine ⟨e4 _ _ hsdL, ?_⟩
            have nDs : D ≠ sd := fun z => by rw [z, e4 _ _ hsdL] at hD4; cases hD4
            have hps' : Paired (fun (r : Addr) (y : Nat × Nat) => upd H4 sd (.dK (kD M)) r = some (.tup [.int (y.1 : Nat), .int (y.2 : Nat)])) ps (del M c) := Paired.mapP hps fun r y h => by
              rw [upd_ne (fun z => by rw [z, e4 _ _ hsdL] at h; cases h)]; exact h
            have hD5 : upd H4 sd (.dK (kD M)) D = some (.lst (ps.map V.ref)) := by rw [upd_ne nDs]; exact hD4
            generalize upd H4 sd (.dK (kD M)) = H5 at xl hps' hD5 ⊢
            have pk : ∀ {rs : List Addr} {l : Dc}, Paired (fun (r : Addr) (y : Nat × Nat) => H5 r = some (.tup [.int (y.1 : Nat), .int (y.2 : Nat)])) rs l → Paired (fun p (kv : Key × V) => SqT K H5 p [kV kv.1, kv.2]) rs (kD l) := by
              intro rs l h
              induction h with
              | nil => exact .nil
              | cons h _ ih => exact .cons (st_of h) ih
            refine ⟨D, ps, kD (del M c), rfl, sq_of hD5, pk hps', fun od2 hod => ?_⟩
            rw [mergeD mdel.cols]
            have x35 := xl.trans (Ex.new (o := .dK (kD (del M c))) hod)
            have x5 := x3.trans x35
            have nodt : od2 ≠ td := fun z => by
              have := xl _ _ hti3
              rw [← z, hod] at this
              cases this
            have hod6 : upd H5 od2 (.dK (kD (del M c))) od2 = some (.dK (kD (del M c))) := upd_same
            generalize upd H5 od2 (.dK (kD (del M c))) = H6 at x5 x35 hod6 ⊢
            have hsd6 := x5 _ _ hsd2
            have hti6 := x5 _ _ hti2
            have e6 := e2.trans (ExB.of x5)
            refine ⟨_, rfl, _, rfl, _, rfl, sd, V.int (r2 : Int), rfl, .inl ⟨_, .inl (c : Int), .inl hsd6, rfl, by rw [valD, e]; rfl⟩, _, rfl, _, rfl, ?_⟩
            refine ⟨a, od2, td, r2, rs, pl, del M c, ti ++ [c], rfl, e6 _ _ nat ha, hp.upB e6 htd (fun xs z => by cases z), ⟨J.h4, J.p16, mdel, hrd.2, tr2, by have := J.fuel; simp; omega⟩, hod6, hti6, nodt, fun v H7 e7 ht7 hv => ?_⟩
            have e17 := e6.trans e7
            have t3 : Tr (fw pl n r2 (del M c) (ti ++ [c])).2 ∧ ∀ x ∈ ti ++ [c], x ∈ (fw pl n r2 (del M c) (ti ++ [c])).2 := (fw_out J.h4 n r2 (del M c) (ti ++ [c]) tr2 (by have := J.fuel; simp; omega)).1
            cases er : fw pl n r2 (del M c) (ti ++ [c]) with
            | mk o t2 =>
              rw [er] at hv ht7 t3
              have tl2 : t.length ≤ t2.length := by
                have := nodup_le tr2.nd t3.2
                simp at this
                omega
              cases o with
              | none =>
                cases (show v = V.non from hv)
                rw [loop_lose ⟨g1', g2'⟩ e er] at hfe
                refine ⟨_, rfl, _, rfl, ?_⟩
                exact ⟨t2, _, _, _, _, _, rfl, e17, ht7, t3.1, tl2, hfe⟩
              | some L =>
                obtain ⟨p8, rfl, hp8, hL⟩ := hv
                rw [loop_win ⟨g1', g2'⟩ e er] at hfe
                have wL := fw_won n r2 (del M c) (ti ++ [c]) L mdel hrd.2 (by rw [er])
                have lL := mat_len J.h4 wL.mat
                refine ⟨_, rfl, _, rfl, ?_⟩
                refine ⟨_, rfl, _, rfl, _, rfl, p8, _, rfl, DPut.k (k := .inl (c : Int)) hL (by unfold kD; rw [List.length_map]; exact small1000 (by omega)), ?_⟩
                refine ⟨_, rfl, ?_⟩
                rw [putD]
                have np8 : p8 ≠ td := fun z => by rw [z, hti6] at hp8; cases hp8
                have h80 : H p8 = none := e6.fresh np8 hp8
                refine q _ _ (fun b o nb hb => ?_) ?_ ?_
                · rw [upd_ne (ne_of_none hb h80)]; exact e17 b o nb hb
                · rw [hfe, upd_ne np8.symm]; exact ht7
                · rw [hfe]; exact ⟨p8, rfl, h80, upd_same⟩
      · exact skip (fun z => g2 (by simpa using z.2))
    · exact skip (fun z => g1 (by rw [z.1]; simp))
  · rintro σ H1 ⟨ti, o4, o5, o6, o7, o8, rfl, e1, hti, trt, tl, hf⟩
    have hd : pl.drop (rs.map V.ref).length = [] := List.drop_eq_nil_of_le (by simp [hl])
    rw [hd] at hf
    have hf2 : fw pl (n + 1) row M t = (none, ti) := hf
    refine q _ _ e1 (by rw [hf2]; exact hti) ?_
    rw [hf2]
    rfl
end
end B71

namespace B71
open PySem PySem.Spec PyProof.Rows L2 Evl RZ SrtO

/-- sizes that stand for a walk over places -/
structure Sz (pl : Pl) (tall : Nat) : Prop where
  h4 : ∀ r c, (r, c) ∈ pl → c < 4
  p16 : pl.length ≤ 16
  t4 : tall ≤ 4
theorem Bd.sz {tall wide : Nat} {pl : Pl} (b : Bd tall wide pl) : Sz pl tall := ⟨fun r c h => Nat.lt_of_lt_of_le (b.inb _ h).2 b.w4, b.p16, b.t4⟩
def spSeats : Sp := fun vs H Q _ => ∃ (a : Addr) (tall : Nat) (rs : List Addr) (pl : Pl), vs = [.int tall, .ref a] ∧ H a = some (.lst (rs.map V.ref)) ∧ Pts H rs pl ∧ Sz pl tall ∧
  ∀ p H', H p = none → Ex H H' → H' p = some (.dK (kD (seatsOf pl tall))) → Q (.ref p) H'
section
variable {P : Program} {w : World} {K : PySem.W.Frag} {mg : Str → Option Value} {base : Heap} {f : Addr} {fd : FuncData}
theorem free_way_all (F : Fun K "free_way" "free_way" (top 17) f fd) (T : Tx mg) (b : Binds K fd ["places", "row", "seats", "tried"] []) (m : mg "free_way" = some (.ref f)) : ∀ n, Cl P w K mg base "free_way" n ["places", "row", "seats", "tried"] (spFree n)
  | 0 => by
    have no : ∀ vs H Q E, ¬ spFree 0 vs H Q E := fun vs H Q E h => by
      obtain ⟨a, sd, td, row, rs, pl, M, t, rfl, ha, hp, J, _⟩ := h
      have h1 := J.fuel
      have h2 := J.tr.len
      omega
    exact ⟨f, fd, ⟨fun vs H Q E h => absurd h (no vs H Q E), fun A outer s H args us vs Q _ _ _ _ _ h => absurd h (no vs H Q _)⟩, b, F.kp, m⟩
  | n + 1 => ⟨f, fd, ok_free_way F T (free_way_all F T b m n), b, F.kp, m⟩
theorem sc_seats_of : FnScope ["tall", "places", "seats", "row", "later"] ["tall", "places"] (defScope (top 18)) := ⟨rfl, rfl, rfl, by decide +kernel, rfl, by decide +kernel, by decide +kernel⟩
theorem ok_seats_of (F : Fun K "seats_of" "seats_of" (top 18) f fd) (T : Tx mg) (C_free_way : Cl P w K mg base "free_way" 5 ["places", "row", "seats", "tried"] (spFree 5)) : FnG P w K mg base 7 f fd ["tall", "places"] spSeats := by
  have sc := sc_seats_of
  refine okG F sc (fun vs H Q E h => ?_) (fun cdv A outer s H vs Q gd0 hr h => ?_)
  · obtain ⟨a, tall, _, _, rfl, _⟩ := h; rfl
  have gd := deeper_guards (env := envOfC "seats_of" (defScope (top 18)) s.heap.objs.size f cdv) gd0
  obtain ⟨a, tall, rs, pl, rfl, ha, hp, z, q⟩ := h
  have t4 := z.t4
  refine ⟨_, (pss_cons (ps_set (i := 2) sc.nd rfl (Or.inl rfl) pe_dnewK) (pss_cons (ps_for PassesOwn.never rfl (pi_range1 rfl T.b_range (pa_cons (pv 0) pa_nil)) (pg_name (i := 3) sc.nd rfl (Or.inl rfl)) (pss_cons (ps_set (i := 4) sc.nd rfl (Or.inl rfl) (pe_cl C_free_way gd (hr.mono (by first | decide | omega)) (pa_cons (pv 1) (pa_cons (pv 3) (pa_cons (pv 2) (pa_cons pe_dnewK pa_nil)))))) (pss_one (ps_set (i := 2) sc.nd rfl (Or.inl rfl) (pe_ifExp (pt_cmp (pc_isN (pv 4))) (pv 2) (pv 4)))))) (pss_one (ps_ret (pv 2))))), ?_⟩
  refine fun p hp0 => ?_
  refine ⟨_, rfl, (tall : Int), rfl, by omega, by omega, ?_⟩
  rw [Int.toNat_natCast]
  refine for_range (fun i σ H' => ∃ (sd : Addr) (o3 o4 : Option V), σ = [some (.int tall), some (.ref a), some (.ref sd), o3, o4] ∧ Ex H H' ∧ H sd = none ∧ H' sd = some (.dK (kD (seatsOf pl i)))) ⟨p, _, _, rfl, Ex.new hp0, hp0, upd_same⟩ ?_ ?_
  · rintro i σ H1 hi ⟨sd, o3, o4, rfl, e1, hs0, hs1⟩
    obtain ⟨D, S⟩ := seated z.h4 i
    have new : i ∉ (seatsOf pl i).map (·.2) := fun q => Nat.lt_irrefl _ (S.low i q)
    refine ⟨_, rfl, _, rfl, _, rfl, fun td htd => ?_⟩
    have x2 : Ex H1 (upd H1 td (.dK [])) := Ex.new htd
    have hd2 : upd H1 td (.dK []) td = some (.dK (kT [])) := upd_same
    generalize upd H1 td (.dK []) = H2 at x2 hd2 ⊢
    have e2 := e1.trans x2
    have nst : sd ≠ td := fun q => by rw [q, htd] at hs1; cases hs1
    refine ⟨a, sd, td, i, rs, pl, seatsOf pl i, [], ?_, e2 _ _ ha, hp.up e2, ⟨z.h4, z.p16, S.mat, new, ⟨List.nodup_nil, fun c h => (nomatch h)⟩, Nat.le_refl _⟩, x2 _ _ hs1, hd2, nst, fun v H3 e3 _ hv => ?_⟩
    · show [V.ref a, V.int (0 + (i : Int)), V.ref sd, V.ref td] = _
      rw [Int.zero_add]
    have x3 : Ex H H3 := fun b o h => e3 b o (ne_of_none (e1 b o h) htd) (e2 b o h)
    have hs3 : H3 sd = some (.dK (kD (seatsOf pl i))) := e3 _ _ nst (x2 _ _ hs1)
    have hst := seatsOf_succ (pl := pl) i
    unfold seatStep at hst
    cases er : (fw pl 5 i (seatsOf pl i) []).1 with
    | none =>
      rw [er] at hv hst
      cases (show v = V.non from hv)
      refine ⟨_, rfl, _, rfl, ?_⟩
      refine ⟨_, rfl, ?_⟩
      exact ⟨sd, _, _, rfl, x3, hs0, by rw [hst]; exact hs3⟩
    | some L =>
      rw [er] at hv hst
      obtain ⟨p8, rfl, hp8, hL⟩ := hv
      refine ⟨_, rfl, _, rfl, ?_⟩
      refine ⟨_, rfl, ?_⟩
      exact ⟨p8, _, _, rfl, x3, fresh_back e2 hp8, by rw [hst]; exact hL⟩
  · rintro σ H1 ⟨sd, o3, o4, rfl, e1, hs0, hs1⟩
    exact ⟨_, rfl, q _ _ hs0 e1 hs1⟩
end
end B71

namespace B71
open PySem PySem.Spec PyProof.Rows L2 Evl RZ SrtO

def kOf (H : Hp) (x : V) : Int × Int := match x with
  | .ref t => (match H t with | some (.tup [.int i, .int j]) => (i, j) | _ => (0, 0))
  | _ => (0, 0)
def unR (x : V) : Addr := match x with | .ref t => t | _ => 0
theorem kOf_pt {H : Hp} {r : Addr} {p : Nat × Nat} (h : Pt H r p) : kOf H (.ref r) = ((p.1 : Int), (p.2 : Int)) := by
  have h' : H r = some (.tup [.int (p.1 : Nat), .int (p.2 : Nat)]) := h
  unfold kOf
  simp only [h']
theorem pts_mem {H : Hp} : ∀ {rs : List Addr} {L : List (Nat × Nat)}, Pts H rs L → ∀ x ∈ rs.map V.ref, ∃ (r : Addr) (p : Nat × Nat), x = .ref r ∧ p ∈ L ∧ Pt H r p
  | _, _, .nil, x, h => by simp at h
  | _, _, .cons (a := r) (b := p) q t, x, h => by
    rw [List.map_cons, List.mem_cons] at h
    rcases h with rfl | h
    · exact ⟨r, p, rfl, List.mem_cons_self .., q⟩
    · obtain ⟨r', p', h1, h2, h3⟩ := pts_mem t x h
      exact ⟨r', p', h1, List.mem_cons_of_mem _ h2, h3⟩
theorem paired_maps {α β γ : Type} {F : β → γ → Prop} {f : α → β} {g : α → γ} : ∀ {l : List α}, (∀ x ∈ l, F (f x) (g x)) → Paired F (l.map f) (l.map g)
  | [], _ => .nil
  | x :: l, h => .cons (h x (List.mem_cons_self ..)) (paired_maps fun y hy => h y (List.mem_cons_of_mem _ hy))
theorem map_kn {H : Hp} : ∀ {rs : List Addr} {L : List (Nat × Nat)}, Pts H rs L → (rs.map V.ref).map (fun x => ((kOf H x).1.toNat, (kOf H x).2.toNat)) = L
  | _, _, .nil => rfl
  | _, _, .cons q t => by
    rw [List.map_cons, List.map_cons, map_kn t, kOf_pt q]
    simp
theorem sort_ok {H : Hp} {rs : List Addr} {L : List (Nat × Nat)} (hp : Pts H rs L) : ∀ x ∈ rs.map V.ref, ∃ t, x = V.ref t ∧ H t = some (.tup [.int (kOf H x).1, .int (kOf H x).2]) := fun x hx => by
  obtain ⟨r, p, rfl, _, h⟩ := pts_mem hp x hx
  refine ⟨r, rfl, ?_⟩
  rw [kOf_pt h]
  exact h
theorem sort_is {H : Hp} {rs : List Addr} {L : List (Nat × Nat)} (hp : Pts H rs L) {ys : List V} (hs : Srtd (ltP (kOf H)) ys) (hst : Stb (ltP (kOf H)) ys (rs.map V.ref)) :
    ∃ (rs' : List Addr) (M' : List (Nat × Nat)), ys = rs'.map V.ref ∧ Pts H rs' M' ∧ M'.Perm L ∧ M'.Pairwise fun p q => ¬ lexlt q p := by
  have hm : ∀ x ∈ ys, ∃ (r : Addr) (p : Nat × Nat), x = .ref r ∧ Pt H r p := fun x hx => by
    obtain ⟨r, p, h1, _, h2⟩ := pts_mem hp x (hst.perm.mem_iff.mp hx)
    exact ⟨r, p, h1, h2⟩
  refine ⟨ys.map unR, ys.map fun x => ((kOf H x).1.toNat, (kOf H x).2.toNat), ?_, paired_maps fun x hx => ?_, ?_, ?_⟩
  · rw [List.map_map]
    refine (List.map_id ys).symm.trans (List.map_congr_left fun x hx => ?_)
    obtain ⟨r, p, rfl, _⟩ := hm x hx
    rfl
  · obtain ⟨r, p, rfl, h⟩ := hm x hx
    rw [kOf_pt h]
    simp only [Int.toNat_natCast]
    exact h
  · have := hst.perm.map (fun x => ((kOf H x).1.toNat, (kOf H x).2.toNat))
    rw [map_kn hp] at this
    exact this
  · refine List.pairwise_map.mpr (List.Pairwise.imp_of_mem (fun {x y} hx hy h => ?_) hs)
    obtain ⟨r, p, rfl, h1⟩ := hm x hx
    obtain ⟨r', p', rfl, h2⟩ := hm y hy
    have h' : lexB (kOf H (.ref r')) (kOf H (.ref r)) = false := h
    rw [kOf_pt h1, kOf_pt h2] at h' ⊢
    have := lexB_no.mp h'
    unfold lexlt
    simp at this ⊢
    omega
theorem srt_uniq : ∀ {l m : List (Nat × Nat)}, l.Perm m → l.Pairwise (fun p q => ¬ lexlt q p) → m.Pairwise (fun p q => ¬ lexlt q p) → l = m := by
  intro l
  induction l with
  | nil => intro m h _ _; exact h.nil_eq
  | cons x l ih =>
    intro m h hl hm
    cases m with
    | nil => exact absurd h.length_eq (by simp)
    | cons y m =>
      have e : x = y := by
        have h1 : ¬ lexlt y x := by
          rcases List.mem_cons.mp (h.mem_iff.mpr (List.mem_cons_self (a := y) (l := m))) with e | hy
          · rw [e]; unfold lexlt; omega
          · exact (List.pairwise_cons.mp hl).1 y hy
        have h2 : ¬ lexlt x y := by
          rcases List.mem_cons.mp (h.mem_iff.mp (List.mem_cons_self (a := x) (l := l))) with e | hx
          · rw [e]; unfold lexlt; omega
          · exact (List.pairwise_cons.mp hm).1 x hx
        unfold lexlt at h1 h2
        obtain ⟨x1, x2⟩ := x
        obtain ⟨y1, y2⟩ := y
        simp only at h1 h2
        have e1 : x1 = y1 := by omega
        have e2 : x2 = y2 := by omega
        rw [e1, e2]
      subst e
      rw [ih h.cons_inv (List.pairwise_cons.mp hl).2 (List.pairwise_cons.mp hm).2]
/-- told: the rooks, sorted -/
structure Rk (pl : Pl) (tall : Nat) (M' : Pl) : Prop where
  pm : M'.Perm (flip (seatsOf pl tall))
  so : M'.Pairwise fun p q => ¬ lexlt q p
def spRooksOf : Sp := fun vs H Q _ => ∃ (a : Addr) (tall wide : Nat) (rs : List Addr) (pl : Pl), vs = [.int tall, .int wide, .ref a] ∧ H a = some (.lst (rs.map V.ref)) ∧ Pts H rs pl ∧ Sz pl tall ∧
  ∀ p rs' M' H', H p = none → Ex H H' → H' p = some (.lst (rs'.map V.ref)) → Pts H' rs' M' → Rk pl tall M' → Q (.ref p) H'
def spRooks : Sp := fun vs H Q _ => ∃ (a : Addr) (tall wide : Nat) (rs : List Addr) (pl : Pl), vs = [.int tall, .int wide, .ref a] ∧ SqH H a (rs.map V.ref) ∧ Pts H rs pl ∧ Bd tall wide pl ∧
  ∀ p rs' M' H', H p = none → Ex H H' → H' p = some (.lst (rs'.map V.ref)) → Pts H' rs' M' → Rk pl tall M' → Q (.ref p) H'
theorem pts_flip {H : Hp} : ∀ {ps : List Addr} {d : Dc}, Paired (fun (r : Addr) (y : Nat × Nat) => H r = some (.tup [.int (y.2 : Nat), .int (y.1 : Nat)])) ps d → Pts H ps (flip d)
  | _, _, .nil => .nil
  | _, _, .cons h t => .cons h (pts_flip t)
section
variable {P : Program} {w : World} {K : PySem.W.Frag} {mg : Str → Option Value} {base : Heap} {f : Addr} {fd : FuncData}
theorem sc_rooks_of : FnScope ["tall", "wide", "places", "seats", "column"] ["tall", "wide", "places"] (defScope (top 19)) := ⟨rfl, rfl, rfl, by decide +kernel, rfl, by decide +kernel, by decide +kernel⟩
theorem ok_rooks_of (F : Fun K "rooks_of" "rooks_of" (top 19) f fd) (T : Tx mg) (C_seats_of : Cl P w K mg base "seats_of" 7 ["tall", "places"] spSeats) : FnG P w K mg base 8 f fd ["tall", "wide", "places"] spRooksOf := by
  have sc := sc_rooks_of
  refine okG F sc (fun vs H Q E h => ?_) (fun cdv A outer s H vs Q gd0 hr h => ?_)
  · obtain ⟨a, tall, _, _, _, rfl, _⟩ := h; rfl
  have gd := deeper_guards (env := envOfC "rooks_of" (defScope (top 19)) s.heap.objs.size f cdv) gd0
  obtain ⟨a, tall, wide, rs, pl, rfl, ha, hp, z, q⟩ := h
  obtain ⟨Dd, S⟩ := seated z.h4 tall
  have ml := mat_len z.h4 S.mat
  refine ⟨_, (pss_cons (ps_set (i := 3) sc.nd rfl (Or.inr rfl) (pe_cl C_seats_of gd (hr.mono (by first | decide | omega)) (pa_cons (pv 0) (pa_cons (pv 2) pa_nil)))) (pss_one (ps_ret (pe_callB cr_sortedPO rfl T.b_sorted bt_sorted (pa_cons (pe_lock (pe_lc (own := [("column", 4)]) (g := (gName 4)) rfl sc.nd (pi_keys (pv 3)) (blkOk_by (N := ["tall", "wide", "places", "seats", "column"]) (sc := defScope (top 19)) (by decide +kernel)) (fun _ _ _ _ _ => (pg_name (i := 4) sc.nd rfl (Or.inl rfl))) (fun _ _ _ _ _ => pts_nil) (fun _ _ _ _ _ => (pe_tup (pa_cons (pe_dget (u1 hr) (pv 3) (pv 4) (fun _ _ => rfl)) (pa_cons (pv 4) pa_nil)))))) pa_nil))))), ?_⟩
  refine ⟨_, rfl, _, rfl, a, tall, rs, pl, rfl, ha, hp, z, fun sd H1 hs0 e1 hs1 => ?_⟩
  refine ⟨sd, _, hs1, trivial, fun od => ?_⟩
  have hsL : upd H1 sd (.frz od (.dK (kD (seatsOf pl tall)))) sd = some (.frz od (.dK (kD (seatsOf pl tall)))) := upd_same
  refine ⟨_, rfl, sd, od, rfl, .inl ⟨_, hsL, fun D hD => ?_⟩⟩
  refine lcW (walk_keys (kvs := kD (seatsOf pl tall))) (seatsOf pl tall) (by unfold kD; rw [List.length_map]) (by unfold kD; rw [List.length_map]; omega) (fun _ => true) (Tu fun y => [.int (y.2 : Nat), .int (y.1 : Nat)]) Stab.tu hD (fun H4 e4 => e4 _ _ hsL) ?_ ?_
  · rintro i' y x H4 H5 N Gt hy e4 ⟨rfl, kk, vv, hk', rfl⟩ kN kY
    have hk2 : (kk, vv) = (Sum.inl (y.1 : Int), V.int (y.2 : Int)) := by
      unfold kD at hk'
      rw [List.getElem?_map, hy] at hk'
      exact (Option.some.inj hk').symm
    cases hk2
    refine ⟨Ex.refl _, rfl, ?_⟩
    have hv : look (seatsOf pl tall) y.1 = some y.2 := (look_some S.mat.cols).mpr (List.mem_of_getElem? hy)
    refine ⟨_, rfl, _, rfl, sd, _, rfl, .inl ⟨_, .inl (y.1 : Int), .inr ⟨od, e4 _ _ hsL⟩, rfl, by rw [valD, hv]; rfl⟩, _, rfl, (by show 2 ≤ sizeLine; decide), fun r5 hr5 => ?_⟩
    exact kY rfl _ _ (Ex.new hr5) ⟨r5, rfl, upd_same⟩
  · intro acc H4 e4 hD4 hacc
    rw [filter_yes] at hacc
    have xl := ex_lock hs1 e4
    obtain ⟨ps, rfl, lps, hps⟩ := tu_list hacc
    refine ⟨e4 _ _ hsL, ?_⟩
    have nDs : D ≠ sd := fun z => by rw [z, e4 _ _ hsL] at hD4; cases hD4
    have hps' : Paired (fun (r : Addr) (y : Nat × Nat) => upd H4 sd (.dK (kD (seatsOf pl tall))) r = some (.tup [.int (y.2 : Nat), .int (y.1 : Nat)])) ps (seatsOf pl tall) := Paired.mapP hps fun r y h => by
      rw [upd_ne (fun z => by rw [z, e4 _ _ hsL] at h; cases h)]; exact h
    have hD5 : upd H4 sd (.dK (kD (seatsOf pl tall))) D = some (.lst (ps.map V.ref)) := by rw [upd_ne nDs]; exact hD4
    generalize upd H4 sd (.dK (kD (seatsOf pl tall))) = H5 at xl hps' hD5 ⊢
    have hp5 := pts_flip hps'
    have e5 := e1.trans xl
    refine ⟨D, _, kOf H5, rfl, sq_of hD5, sort_ok hp5, fun ys p hsr hst hp0 => ?_⟩
    obtain ⟨rs', M', rfl, hpM, pm, so⟩ := sort_is hp5 hsr hst
    exact q p rs' M' _ (fresh_back e5 hp0) (e5.trans (Ex.new hp0)) upd_same (hpM.up (Ex.new hp0)) ⟨pm, so⟩
theorem sc_rooks : FnScope ["tall", "wide", "places"] ["tall", "wide", "places"] (defScope (top 25)) := ⟨rfl, rfl, rfl, by decide +kernel, rfl, by decide +kernel, by decide +kernel⟩
theorem ok_rooks (F : Fun K "rooks" "rooks" (top 25) f fd) (T : Tx mg) (C_rooks_of : Cl P w K mg base "rooks_of" 8 ["tall", "wide", "places"] spRooksOf) (C_want_places : Cl P w K mg base "want_places" 5 ["tall", "wide", "value"] spWantPlaces) : FnG P w K mg base 9 f fd ["tall", "wide", "places"] spRooks := by
  have sc := sc_rooks
  refine okG F sc (fun vs H Q E h => ?_) (fun cdv A outer s H vs Q gd0 hr h => ?_)
  · obtain ⟨a, tall, _, _, _, rfl, _⟩ := h; rfl
  have gd := deeper_guards (env := envOfC "rooks" (defScope (top 25)) s.heap.objs.size f cdv) gd0
  obtain ⟨a, tall, wide, rs, pl, rfl, ha, hp, z, q⟩ := h
  refine ⟨_, (pss_one (ps_ret (pe_cl C_rooks_of gd (hr.mono (by first | decide | omega)) (pa_cons (pv 0) (pa_cons (pv 1) (pa_cons (pe_cl C_want_places gd (hr.mono (by first | decide | omega)) (pa_cons (pv 0) (pa_cons (pv 1) (pa_cons (pv 2) pa_nil)))) pa_nil)))))), ?_⟩
  refine ⟨_, rfl, _, rfl, _, rfl, _, rfl, _, rfl, a, tall, wide, rs, pl, rfl, ha, hp, z, fun b H1 hb0 e1 hb1 => ?_⟩
  refine ⟨b, tall, wide, rs, pl, rfl, hb1, hp.up e1, z.sz, fun p rs' M' H2 hp0 e2 h1 h2 h3 => ?_⟩
  exact q p rs' M' H2 (fresh_back e1 hp0) (e1.trans e2) h1 h2 h3
end
end B71

namespace B71
open PySem PySem.Spec PyProof.Rows L2 Evl RZ SrtO

def covGo (pl : Pl) (M : Dc) : Nat → CS → CS
  | 0, s => s
  | k + 1, s => if s.wait = [] then s else covGo pl M k (covStep pl M s)
def cov0 (M : Dc) (tall : Nat) : CS := ⟨(List.range tall).filter fun r => decide (r ∉ M.map (·.2)), [], []⟩
def covOf (pl : Pl) (tall : Nat) : CS := covGo pl (seatsOf pl tall) 9 (cov0 (seatsOf pl tall) tall)
theorem covGo_end {pl : Pl} {M : Dc} {s : CS} (h : s.wait = []) : ∀ k, covGo pl M k s = s
  | 0 => rfl
  | k + 1 => by unfold covGo; rw [if_pos h]
/-- the cover told -/
structure Cv (pl : Pl) (tall : Nat) (R C : List Nat) : Prop where
  r : R = (List.range tall).filter fun r => decide (r ∉ (covOf pl tall).rows)
  pm : C.Perm (covOf pl tall).cols
  so : C.Pairwise (· ≤ ·)
  opt : Opt pl (seatsOf pl tall) R C
  nd : C.Nodup
  lt : ∀ c ∈ C, c < 4
  use : ∀ c ∈ C, ∃ r, (r, c) ∈ pl
def spCoverOf : Sp := fun vs H Q _ => ∃ (a : Addr) (tall wide : Nat) (rs : List Addr) (pl : Pl), vs = [.int tall, .int wide, .ref a] ∧ H a = some (.lst (rs.map V.ref)) ∧ Pts H rs pl ∧ Sz pl tall ∧ (∀ r c, (r, c) ∈ pl → r < tall) ∧
  ∀ (p x y : Addr) R C H', H p = none → H x = none → H y = none → x ≠ y → Ex H H' → H' p = some (.tup [.ref x, .ref y]) → H' x = some (.lst (vI R)) → H' y = some (.lst (vI C)) → Cv pl tall R C → Q (.ref p) H'
theorem putT_any (t : List Nat) (c : Nat) : putK (kT t) (.inl (c : Int)) (.bl true) = kT (addRow t c) := by
  unfold addRow
  by_cases h : c ∈ t
  · rw [if_pos h]
    unfold putK
    have e : ((kT t).any fun kv => decide (kv.1 = (Sum.inl (c : Int) : Key))) = true := by rw [valV_any, valT]; exact decide_eq_true h
    rw [if_pos e]
    unfold kT
    rw [List.map_map]
    refine List.map_congr_left fun x _ => ?_
    show (if (Sum.inl (x : Int) : Key) = Sum.inl (c : Int) then _ else _) = _
    split <;> rfl
  · rw [if_neg h]; exact putT t c h
theorem kD_vals (d : Dc) : (kD d).map (·.2) = (d.map fun p => (p.2 : Int)).map V.int := by
  unfold kD
  rw [List.map_map, List.map_map]
  rfl
theorem addRow_nd {t : List Nat} {c : Nat} (h : t.Nodup) : (addRow t c).Nodup := by
  unfold addRow
  split
  · exact h
  · rename_i q
    rw [List.nodup_append]
    refine ⟨h, by simp, fun a ha b hb e => ?_⟩
    have : b = c := by simpa using hb
    exact q (this ▸ e ▸ ha)
theorem paired_is {f : Nat → Nat} : ∀ {l : List Nat} {acc : List V}, Paired (fun (y : Nat) v => v = V.int ((f y : Nat) : Int)) l acc → acc = vI (l.map f)
  | _, _, .nil => rfl
  | _, _, .cons r t => by rw [List.map_cons, paired_is t, r]; rfl
theorem kT_keys (t : List Nat) : (kT t).map (·.1) = (t.map fun (c : Nat) => (c : Int)).map Sum.inl := by
  unfold kT
  rw [List.map_map, List.map_map]
  rfl
theorem ints_nat {ys : List Int} {l : List Nat} (h : ys.Perm (l.map fun (c : Nat) => (c : Int))) (so : ys.Pairwise (· ≤ ·)) : ∃ C : List Nat, ys.map V.int = vI C ∧ C.Perm l ∧ C.Pairwise (· ≤ ·) := by
  have hm : ∀ y ∈ ys, ∃ c : Nat, y = (c : Int) := fun y hy => by
    obtain ⟨c, _, e⟩ := List.mem_map.mp (h.mem_iff.mp hy)
    exact ⟨c, e.symm⟩
  refine ⟨ys.map Int.toNat, ?_, ?_, ?_⟩
  · unfold vI
    rw [List.map_map]
    refine List.map_congr_left fun y hy => ?_
    obtain ⟨c, rfl⟩ := hm y hy
    simp
  · have := h.map Int.toNat
    rw [List.map_map] at this
    have e : (l.map (Int.toNat ∘ fun (c : Nat) => (c : Int))) = l := by
      refine (List.map_congr_left fun c _ => ?_).trans (List.map_id l)
      simp
    rw [e] at this
    exact this
  · refine List.pairwise_map.mpr (so.imp fun {x y} h => ?_)
    omega
theorem last_at {l : List Nat} (h : l ≠ []) : (vI l)[(vI l).length - 1]? = some (V.int ((l.getLastD 0 : Nat) : Int)) := by
  unfold vI
  rw [List.length_map, List.getElem?_map, List.getLastD_eq_getLast?, List.getLast?_eq_getElem?]
  cases q : l[l.length - 1]? with
  | none => exact absurd (List.getElem?_eq_none_iff.mp q) (by have := List.length_pos_iff.mpr h; omega)
  | some x => simp [q]
section
variable {P : Program} {w : World} {K : PySem.W.Frag} {mg : Str → Option Value} {base : Heap} {f : Addr} {fd : FuncData}
structure CvW (H : Hp) (pl : Pl) (tall : Nat) (D : List Nat) (sd wl rd cd : Addr) (s : CS) (H' : Hp) : Prop where
  ex : Ex H H'
  s0 : H sd = none
  w0 : H wl = none
  r0 : H rd = none
  c0 : H cd = none
  sv : H' sd = some (.dK (kD (seatsOf pl tall)))
  wv : H' wl = some (.lst (vI s.wait))
  rv : H' rd = some (.dK (kT s.rows))
  cv : H' cd = some (.dK (kT s.cols))
  rc : rd ≠ cd
  sr : sd ≠ rd
  scd : sd ≠ cd
theorem CvW.setW {H : Hp} {pl : Pl} {tall : Nat} {D : List Nat} {sd wl rd cd : Addr} {s : CS} {H' : Hp} (W : CvW H pl tall D sd wl rd cd s H') (l : List Nat) : CvW H pl tall D sd wl rd cd ⟨l, s.rows, s.cols⟩ (upd H' wl (.lst (vI l))) := by
  have h1 : rd ≠ wl := fun q => by have := W.rv; rw [q, W.wv] at this; cases this
  have h2 : cd ≠ wl := fun q => by have := W.cv; rw [q, W.wv] at this; cases this
  have h3 : sd ≠ wl := fun q => by have := W.sv; rw [q, W.wv] at this; cases this
  exact ⟨W.ex.mut W.w0, W.s0, W.w0, W.r0, W.c0, by rw [upd_ne h3]; exact W.sv, upd_same, by rw [upd_ne h1]; exact W.rv, by rw [upd_ne h2]; exact W.cv, W.rc, W.sr, W.scd⟩
theorem CvW.setR {H : Hp} {pl : Pl} {tall : Nat} {D : List Nat} {sd wl rd cd : Addr} {s : CS} {H' : Hp} (W : CvW H pl tall D sd wl rd cd s H') (l : List Nat) : CvW H pl tall D sd wl rd cd ⟨s.wait, l, s.cols⟩ (upd H' rd (.dK (kT l))) := by
  have h1 : wl ≠ rd := fun q => by have := W.rv; rw [← q, W.wv] at this; cases this
  exact ⟨W.ex.mut W.r0, W.s0, W.w0, W.r0, W.c0, by rw [upd_ne W.sr]; exact W.sv, by rw [upd_ne h1]; exact W.wv, upd_same, by rw [upd_ne W.rc.symm]; exact W.cv, W.rc, W.sr, W.scd⟩
theorem CvW.setC {H : Hp} {pl : Pl} {tall : Nat} {D : List Nat} {sd wl rd cd : Addr} {s : CS} {H' : Hp} (W : CvW H pl tall D sd wl rd cd s H') (l : List Nat) : CvW H pl tall D sd wl rd cd ⟨s.wait, s.rows, l⟩ (upd H' cd (.dK (kT l))) := by
  have h1 : wl ≠ cd := fun q => by have := W.cv; rw [← q, W.wv] at this; cases this
  exact ⟨W.ex.mut W.c0, W.s0, W.w0, W.r0, W.c0, by rw [upd_ne W.scd]; exact W.sv, by rw [upd_ne h1]; exact W.wv, by rw [upd_ne W.rc]; exact W.rv, upd_same, W.rc, W.sr, W.scd⟩
structure CvI (pl : Pl) (tall : Nat) (D : List Nat) (m : Nat) (s : CS) : Prop where
  j : CovInv pl tall (seatsOf pl tall) D s
  c4 : ∀ c ∈ s.cols, c < 4
  rn : s.rows.Nodup
  mm : covM s = m
  m8 : m ≤ 8
  go : ∃ k, m ≤ k ∧ covOf pl tall = covGo pl (seatsOf pl tall) k s
theorem sc_cover_of : FnScope ["tall", "wide", "places", "seats", "waiting", "rows", "columns", "row", "near", "column"] ["tall", "wide", "places"] (defScope (top 20)) := ⟨rfl, rfl, rfl, by decide +kernel, rfl, by decide +kernel, by decide +kernel⟩
theorem ok_cover_of (F : Fun K "cover_of" "cover_of" (top 20) f fd) (T : Tx mg) (C_seats_of : Cl P w K mg base "seats_of" 7 ["tall", "places"] spSeats) : FnG P w K mg base 8 f fd ["tall", "wide", "places"] spCoverOf := by
  have sc := sc_cover_of
  refine okG F sc (fun vs H Q E h => ?_) (fun cdv A outer s H vs Q gd0 hr h => ?_)
  · obtain ⟨a, tall, _, _, _, rfl, _⟩ := h; rfl
  have gd := deeper_guards (env := envOfC "cover_of" (defScope (top 20)) s.heap.objs.size f cdv) gd0
  obtain ⟨a, tall, wide, rs, pl, rfl, ha, hp, z, inr, q⟩ := h
  obtain ⟨Dd, S⟩ := seated z.h4 tall
  have ml := mat_len z.h4 S.mat
  have t4 := z.t4
  refine ⟨_, (pss_cons (ps_set (i := 3) sc.nd rfl (Or.inr rfl) (pe_cl C_seats_of gd (hr.mono (by first | decide | omega)) (pa_cons (pv 0) (pa_cons (pv 2) pa_nil)))) (pss_cons (ps_asg (pe_tup (pa_cons (pe_lc (own := [("row", 7)]) (g := (gName 7)) rfl sc.nd (pi_range1 rfl T.b_range (pa_cons (pv 0) pa_nil)) (blkOk_by (N := ["tall", "wide", "places", "seats", "waiting", "rows", "columns", "row", "near", "column"]) (sc := defScope (top 20)) (by decide +kernel)) (fun _ _ _ _ _ => (pg_name (i := 7) sc.nd rfl (Or.inl rfl))) (fun _ _ _ _ _ => (pts_one (pt_notVals rfl (pv 7) (pv 3)))) (fun _ _ _ _ _ => (pv 7))) (pa_cons pe_dnewK (pa_cons pe_dnewK pa_nil)))) (pg_tup rfl (pgs_cons (pg_name (i := 4) sc.nd rfl (Or.inl rfl)) (pgs_cons (pg_name (i := 5) sc.nd rfl (Or.inr rfl)) (pgs_cons (pg_name (i := 6) sc.nd rfl (Or.inl rfl)) pgs_nil))))) (pss_cons (ps_while PassesOwn.never (pt_cmpR (op_neD hr.units) (pv 4) (pe_lst pa_nil) (nomark _)) (pss_cons (ps_set (i := 7) sc.nd rfl (Or.inl rfl) (pe_bm0 PySem.F.plainAttrs_list PySem.F.slot_list_pop PySem.F.type_list_pop mt_pop (pv 4))) (pss_cons (ps_dput (u1 hr) (pv 5) (pv 7) pe_bl rfl) (pss_one (ps_for PassesOwn.never rfl (pi_list (pv 2)) (pg_tup rfl (pgs_cons (pg_name (i := 8) sc.nd rfl (Or.inl rfl)) (pgs_cons (pg_name (i := 9) sc.nd rfl (Or.inl rfl)) pgs_nil))) (pss_one (ps_if (PW.pt (pw_and (pt_cmpR op_eq (pv 8) (pv 7) (nomark _)) (pw_and1 (pt_cmp (pc_dnotin (u1 hr) (pv 9) (pv 6)))))) (pss_cons (ps_dput (u1 hr) (pv 6) (pv 9) pe_bl rfl) (pss_one (ps_if (PW.pt (pw_and (pt_cmp (pc_din (u1 hr) (pv 9) (pv 3))) (pw_and1 (pt_cmp (pc_dnotin (u1 hr) (pe_dget (u1 hr) (pv 3) (pv 9) (fun _ _ => rfl)) (pv 5)))))) (pss_one (ps_expr (pe_bm PySem.F.plainAttrs_list PySem.F.slot_list_append PySem.F.type_list_append mt_append (pv 4) (pa_cons (pe_dget (u1 hr) (pv 3) (pv 9) (fun _ _ => rfl)) pa_nil)))) pss_nil))) pss_nil))))))) (pss_one (ps_ret (pe_tup (pa_cons (pe_lc (own := [("row", 7)]) (g := (gName 7)) rfl sc.nd (pi_range1 rfl T.b_range (pa_cons (pv 0) pa_nil)) (blkOk_by (N := ["tall", "wide", "places", "seats", "waiting", "rows", "columns", "row", "near", "column"]) (sc := defScope (top 20)) (by decide +kernel)) (fun _ _ _ _ _ => (pg_name (i := 7) sc.nd rfl (Or.inl rfl))) (fun _ _ _ _ _ => (pts_one (pt_cmp (pc_dnotin (u1 hr) (pv 7) (pv 5))))) (fun _ _ _ _ _ => (pv 7))) (pa_cons (pe_callB (call_sortedDI rfl) rfl T.b_sorted bt_sorted (pa_cons (pv 6) pa_nil)) pa_nil)))))))), ?_⟩
  refine ⟨_, rfl, _, rfl, a, tall, rs, pl, rfl, ha, hp, z, fun sd H1 hs0 e1 hs1 => ?_⟩
  refine ⟨_, rfl, (tall : Int), rfl, by omega, by omega, fun wl hwl => ?_⟩
  rw [Int.toNat_natCast]
  refine lcW (walk_range (lo := 0) (n := tall)) (List.range tall) (by simp) (by omega) (fun r => decide (r ∉ (seatsOf pl tall).map (·.2))) (fun (y : Nat) v _ => v = .int ((id y : Nat) : Int)) ⟨fun _ _ _ _ _ h => h, fun _ _ _ _ _ _ _ h => h⟩ hwl (fun _ _ => trivial) ?_ ?_
  · rintro i y x H4 H5 N Gt hy e4 ⟨rfl, rfl⟩ kN kY
    have hyi : i = y := by
      have := (List.getElem?_eq_some_iff.mp hy).2
      simpa using this
    subst hyi
    refine ⟨Ex.refl _, rfl, ?_⟩
    refine ⟨_, rfl, _, rfl, (i : Int), sd, _, _, congrArg V.int (Int.zero_add _), rfl, e4 _ _ hs1, kD_vals _, ?_⟩
    have em : decide ((i : Int) ∈ (seatsOf pl tall).map fun p => (p.2 : Int)) = decide (i ∈ (seatsOf pl tall).map (·.2)) := decide_eq_decide.mpr (by
      rw [List.mem_map, List.mem_map]
      exact ⟨fun ⟨p, h1, h2⟩ => ⟨p, h1, by omega⟩, fun ⟨p, h1, h2⟩ => ⟨p, h1, by omega⟩⟩)
    rw [em]
    refine ite2 (fun g => ?_) (fun g => ?_)
    · have g' : i ∉ (seatsOf pl tall).map (·.2) := by simpa using g
      exact ⟨_, rfl, kY (decide_eq_true g') _ _ (Ex.refl _) (congrArg V.int (Int.zero_add _))⟩
    · exact kN (by simpa using g) _ (Ex.refl _)
  · intro acc H4 e4 hwl4 hacc
    have ha4 := paired_is hacc
    rw [List.map_id] at ha4
    subst ha4
    refine fun rd hrd cd hcd => ⟨(by show 3 ≤ sizeLine; decide), fun tp htp => ?_⟩
    have nwr : wl ≠ rd := fun q => by rw [q, hrd] at hwl4; cases hwl4
    have xr : Ex H4 (upd H4 rd (.dK [])) := Ex.new hrd
    have nwc : wl ≠ cd := fun q => by rw [q] at hwl4; rw [xr _ _ hwl4] at hcd; cases hcd
    have nrc : rd ≠ cd := fun q => by rw [← q, upd_same] at hcd; cases hcd
    have x5 : Ex H4 (upd (upd (upd H4 rd (.dK [])) cd (.dK [])) tp (.tup [.ref wl, .ref rd, .ref cd])) := xr.trans ((Ex.new hcd).trans (Ex.new htp))
    have hr5 : upd (upd (upd H4 rd (.dK [])) cd (.dK [])) tp (.tup [.ref wl, .ref rd, .ref cd]) rd = some (.dK (kT [])) := ((Ex.new hcd).trans (Ex.new htp)) _ _ upd_same
    have hc5 : upd (upd (upd H4 rd (.dK [])) cd (.dK [])) tp (.tup [.ref wl, .ref rd, .ref cd]) cd = some (.dK (kT [])) := (Ex.new htp) _ _ upd_same
    refine ⟨tp, _, rfl, st_of upd_same, rfl, _, _, rfl, _, _, rfl, _, _, rfl, rfl, ?_⟩
    generalize upd (upd (upd H4 rd (.dK [])) cd (.dK [])) tp (.tup [.ref wl, .ref rd, .ref cd]) = H5 at x5 hr5 hc5 ⊢
    have hs4 := e4 _ _ hs1
    have hrd4 : H rd = none := fresh_back (e1.trans e4) hrd
    have hcd4 : H cd = none := fresh_back (e1.trans (e4.trans xr)) hcd
    have nsr : sd ≠ rd := fun q => by rw [q, hrd] at hs4; cases hs4
    have nsc : sd ≠ cd := fun q => by rw [q] at hs4; rw [xr _ _ hs4] at hcd; cases hcd
    refine ⟨fun m σ H' => ∃ (s : CS) (o7 o8 o9 : Option V), σ = [some (.int tall), some (.int wide), some (.ref a), some (.ref sd), some (.ref wl), some (.ref rd), some (.ref cd), o7, o8, o9] ∧ CvW H pl tall Dd sd wl rd cd s H' ∧ CvI pl tall Dd m s,
      ⟨covM (cov0 (seatsOf pl tall) tall), cov0 (seatsOf pl tall) tall, _, _, _, rfl, ⟨(e1.trans e4).trans x5, hs0, fresh_back e1 hwl, hrd4, hcd4, x5 _ _ hs4, x5 _ _ hwl4, hr5, hc5, nrc, nsr, nsc⟩,
        ⟨cov_start S, fun c h => (nomatch h), List.nodup_nil, rfl, ?_, 9, ?_, rfl⟩⟩, ?_⟩
    · unfold covM cov0
      have := List.length_filter_le (fun r => decide (r ∉ (seatsOf pl tall).map (·.2))) (List.range tall)
      simp at this ⊢
      omega
    · unfold covM cov0
      have := List.length_filter_le (fun r => decide (r ∉ (seatsOf pl tall).map (·.2))) (List.range tall)
      simp at this ⊢
      omega
    rintro m σ H6 ⟨s6, o7, o8, o9, rfl, W, J⟩
    refine ⟨_, rfl, (Nat.zero_le _), fun np hnp => ?_⟩
    refine ⟨_, _, dp_il (Ex.new hnp _ _ W.wv), dp_il (l := []) upd_same, is_sh _, is_sh _, _, rfl, ?_⟩
    rw [is_eqv]
    have x7 : Ex H6 (upd H6 np (.lst [])) := Ex.new hnp
    generalize upd H6 np (.lst []) = H7 at x7 ⊢
    have W7 : CvW H pl tall Dd sd wl rd cd s6 H7 := ⟨W.ex.trans x7, W.s0, W.w0, W.r0, W.c0, x7 _ _ W.sv, x7 _ _ W.wv, x7 _ _ W.rv, x7 _ _ W.cv, W.rc, W.sr, W.scd⟩
    refine ite2 (fun g => ?_) (fun g => ?_)
    · have hw : s6.wait ≠ [] := by simpa using g
      have rl6 : s6.rows.length ≤ 4 := by
        have := nodup_le (m := List.range tall) J.rn fun r hr => List.mem_range.mpr (J.j.why r (.inr hr)).1
        simp at this
        omega
      have wl8 : s6.wait.length ≤ 8 := by
        have h1 := J.mm
        have h2 := J.m8
        unfold covM at h1
        omega
      have J' := step_inv S J.j hw
      have hdl : (vI s6.wait).dropLast = vI s6.wait.dropLast := by unfold vI; rw [List.map_dropLast]
      refine ⟨fun σ' H' => ∃ m', m' < m ∧ ∃ (s : CS) (o7 o8 o9 : Option V), σ' = [some (.int tall), some (.int wide), some (.ref a), some (.ref sd), some (.ref wl), some (.ref rd), some (.ref cd), o7, o8, o9] ∧ CvW H pl tall Dd sd wl rd cd s H' ∧ CvI pl tall Dd m' s, fun σ' H' h => h, ?_⟩
      refine ⟨_, rfl, .inl ⟨rfl, _, SqL.of W7.wv⟩, wl, _, _, rfl, rfl, W7.wv, last_at hw, ?_⟩
      rw [hdl]
      have W8 := W7.setW s6.wait.dropLast
      generalize upd H7 wl (.lst (vI s6.wait.dropLast)) = H8 at W8 ⊢
      refine ⟨_, rfl, _, rfl, rd, _, rfl, DPut.k (k := .inl ((s6.wait.getLastD 0 : Nat) : Int)) W8.rv (by unfold kT; rw [List.length_map]; exact small1000 (by show s6.rows.length ≤ 1000; omega)), ?_⟩
      rw [putT_any]
      have W9 := W8.setR (addRow s6.rows (s6.wait.getLastD 0))
      generalize upd H8 rd (.dK (kT (addRow s6.rows (s6.wait.getLastD 0)))) = H9 at W9 ⊢
      have turns : ∀ i, ((pl.take i).foldl (covTurn (seatsOf pl tall) (addRow s6.rows (s6.wait.getLastD 0)) (s6.wait.getLastD 0)) (s6.wait.dropLast, s6.cols)).2.Nodup ∧
          (∀ c ∈ ((pl.take i).foldl (covTurn (seatsOf pl tall) (addRow s6.rows (s6.wait.getLastD 0)) (s6.wait.getLastD 0)) (s6.wait.dropLast, s6.cols)).2, c < 4) ∧ _ := fun i =>
        turns_m (M := seatsOf pl tall) (rows := addRow s6.rows (s6.wait.getLastD 0)) (row := s6.wait.getLastD 0) (pl.take i) (s6.wait.dropLast, s6.cols) (fun p q => z.h4 p.1 p.2 (List.mem_of_mem_take q)) J.j.nd J.c4
      refine ⟨_, rfl, a, rfl, ⟨_, sq_of (W9.ex _ _ ha)⟩, for_list (K := K) (a := a) (xs := rs.map V.ref) (fun i σ H' => ∃ (o8 o9 : Option V), σ = [some (.int tall), some (.int wide), some (.ref a), some (.ref sd), some (.ref wl), some (.ref rd), some (.ref cd), some (.int ((s6.wait.getLastD 0 : Nat) : Int)), o8, o9] ∧
          CvW H pl tall Dd sd wl rd cd ⟨((pl.take i).foldl (covTurn (seatsOf pl tall) (addRow s6.rows (s6.wait.getLastD 0)) (s6.wait.getLastD 0)) (s6.wait.dropLast, s6.cols)).1, addRow s6.rows (s6.wait.getLastD 0), ((pl.take i).foldl (covTurn (seatsOf pl tall) (addRow s6.rows (s6.wait.getLastD 0)) (s6.wait.getLastD 0)) (s6.wait.dropLast, s6.cols)).2⟩ H')
        ⟨_, _, rfl, W9⟩ (fun i σ H' _ ⟨_, _, _, W⟩ => sq_of (W.ex _ _ ha)) ?_ ?_⟩
      · rintro i x σ Ha hx ⟨o8, o9, rfl, Wa⟩
        have hpa := hp.up Wa.ex
        obtain ⟨r, ⟨k, c⟩, rfl, hk, hr1⟩ := pts_at hpa hx
        have hi : i < pl.length := (List.getElem?_eq_some_iff.mp hk).1
        have htk : pl.take (i + 1) = pl.take i ++ [(k, c)] := by rw [List.take_add_one, hk]; rfl
        have tn := turns i
        rw [htk, List.foldl_append]
        generalize (pl.take i).foldl (covTurn (seatsOf pl tall) (addRow s6.rows (s6.wait.getLastD 0)) (s6.wait.getLastD 0)) (s6.wait.dropLast, s6.cols) = st at Wa tn ⊢
        obtain ⟨wt, ct⟩ := st
        simp only [List.foldl_cons, List.foldl_nil] at Wa tn ⊢
        have tl4 : ct.length ≤ 4 := (Tr.mk tn.1 tn.2.1).len
        have wt12 : wt.length ≤ 12 := by
          have h1 := tn.2.2
          have h2 : s6.wait.dropLast.length = s6.wait.length - 1 := List.length_dropLast
          omega
        refine ⟨r, _, rfl, st_of hr1, rfl, _, _, rfl, _, _, rfl, rfl, ?_⟩
        refine ⟨_, rfl, _, rfl, rfl, _, rfl, ?_⟩
        have skip : ¬ (k = s6.wait.getLastD 0 ∧ c ∉ ct) → covTurn (seatsOf pl tall) (addRow s6.rows (s6.wait.getLastD 0)) (s6.wait.getLastD 0) (wt, ct) (k, c) = (wt, ct) := fun g => by unfold covTurn; rw [if_neg g]
        refine ite2 (fun g1 => ?_) (fun g1 => ?_)
        · have g1' : k = s6.wait.getLastD 0 := by
            have := of_decide_eq_true g1
            injection this with this
            omega
          refine ⟨_, rfl, _, rfl, cd, _, rfl, DGet.k (k := .inl (c : Int)) Wa.cv, ?_⟩
          rw [valT]
          refine ⟨_, rfl, ?_⟩
          refine ite2 (fun g2 => ?_) (fun g2 => ?_)
          · have g2' : c ∉ ct := by simpa using g2
            refine ⟨_, rfl, _, rfl, cd, _, rfl, DPut.k (k := .inl (c : Int)) Wa.cv (by unfold kT; rw [List.length_map]; exact small1000 (by show ct.length ≤ 1000; omega)), ?_⟩
            rw [putT ct c g2']
            have Wb := Wa.setC (ct ++ [c])
            generalize upd Ha cd (.dK (kT (ct ++ [c]))) = Hb at Wb ⊢
            refine ⟨_, rfl, _, rfl, sd, _, rfl, DGet.k (k := .inl (c : Int)) Wb.sv, ?_⟩
            rw [valD]
            refine ⟨_, rfl, ?_⟩
            cases e : look (seatsOf pl tall) c with
            | none =>
              have ect : covTurn (seatsOf pl tall) (addRow s6.rows (s6.wait.getLastD 0)) (s6.wait.getLastD 0) (wt, ct) (k, c) = (wt, ct ++ [c]) := by unfold covTurn; rw [if_pos ⟨g1', g2'⟩]; simp only [e]
              rw [ect]
              exact ⟨_, _, rfl, Wb⟩
            | some r2 =>
              refine ⟨_, rfl, _, rfl, sd, V.int (r2 : Int), rfl, .inl ⟨_, .inl (c : Int), .inl Wb.sv, rfl, by rw [valD, e]; rfl⟩, ?_⟩
              refine ⟨_, rfl, rd, _, rfl, DGet.k (k := .inl (r2 : Int)) Wb.rv, ?_⟩
              rw [valT]
              refine ⟨_, rfl, ?_⟩
              refine ite2 (fun g3 => ?_) (fun g3 => ?_)
              · have g3' : r2 ∉ addRow s6.rows (s6.wait.getLastD 0) := by simpa using g3
                have ect : covTurn (seatsOf pl tall) (addRow s6.rows (s6.wait.getLastD 0)) (s6.wait.getLastD 0) (wt, ct) (k, c) = (wt ++ [r2], ct ++ [c]) := by unfold covTurn; rw [if_pos ⟨g1', g2'⟩]; simp only [e]; rw [if_pos g3']
                rw [ect]
                refine ⟨_, rfl, .inl ⟨rfl, _, SqL.of Wb.wv⟩, _, rfl, _, rfl, sd, V.int (r2 : Int), rfl, .inl ⟨_, .inl (c : Int), .inl Wb.sv, rfl, by rw [valD, e]; rfl⟩, wl, _, _, rfl, rfl, Wb.wv, (by rw [vI_len]; exact small1000 (by show wt.length ≤ 1000; omega)), ?_⟩
                have ev : vI wt ++ [V.int (r2 : Int)] = vI (wt ++ [r2]) := by unfold vI; rw [List.map_append]; rfl
                rw [ev]
                exact ⟨_, _, rfl, Wb.setW (wt ++ [r2])⟩
              · have g3' : ¬ r2 ∉ addRow s6.rows (s6.wait.getLastD 0) := by simpa using g3
                have ect : covTurn (seatsOf pl tall) (addRow s6.rows (s6.wait.getLastD 0)) (s6.wait.getLastD 0) (wt, ct) (k, c) = (wt, ct ++ [c]) := by unfold covTurn; rw [if_pos ⟨g1', g2'⟩]; simp only [e]; rw [if_neg g3']
                rw [ect]
                exact ⟨_, _, rfl, Wb⟩
          · rw [skip (fun z => g2 (by simpa using z.2))]
            exact ⟨_, _, rfl, Wa⟩
        · rw [skip (fun z => g1 (by rw [z.1]; simp))]
          exact ⟨_, _, rfl, Wa⟩
      · rintro σ Ha ⟨o8, o9, rfl, Wa⟩
        have hall : pl.take (rs.map V.ref).length = pl := List.take_of_length_le (by rw [List.length_map, hp.len]; exact Nat.le_refl _)
        have tn := turns (rs.map V.ref).length
        rw [hall] at Wa tn
        have lt := step_m (M := seatsOf pl tall) z.h4 J.j.nd J.c4 hw
        refine ⟨covM (covStep pl (seatsOf pl tall) s6), by have := J.mm; omega, covStep pl (seatsOf pl tall) s6, _, _, _, rfl, Wa, ⟨J', tn.2.1, addRow_nd J.rn, rfl, by have := J.mm; have := J.m8; omega, ?_⟩⟩
        obtain ⟨k, hk, e⟩ := J.go
        cases k with
        | zero => have := J.mm; omega
        | succ k =>
          refine ⟨k, by have := J.mm; omega, ?_⟩
          rw [e]
          show (if s6.wait = [] then s6 else _) = _
          rw [if_neg hw]
    · have hw : s6.wait = [] := by simpa using g
      have efin : covOf pl tall = s6 := by
        obtain ⟨k, _, e⟩ := J.go
        rw [e, covGo_end hw]
      refine ⟨_, rfl, (tall : Int), rfl, by omega, by omega, fun xl hxl => ?_⟩
      rw [Int.toNat_natCast]
      refine lcW (walk_range (lo := 0) (n := tall)) (List.range tall) (by simp) (by omega) (fun r => decide (r ∉ s6.rows)) (fun (y : Nat) v _ => v = .int ((id y : Nat) : Int)) ⟨fun _ _ _ _ _ h => h, fun _ _ _ _ _ _ _ h => h⟩ hxl (fun _ _ => trivial) ?_ ?_
      · rintro i y x Ha Hb N Gt hy ea ⟨rfl, rfl⟩ kN kY
        have hyi : i = y := by
          have := (List.getElem?_eq_some_iff.mp hy).2
          simpa using this
        subst hyi
        refine ⟨Ex.refl _, rfl, ?_⟩
        refine ⟨_, rfl, _, rfl, rd, (valV (kT s6.rows) (.inl (i : Int))), rfl, .inl ⟨_, .inl (i : Int), .inl (ea _ _ W7.rv), congrArg V.int (Int.zero_add _), rfl⟩, ?_⟩
        rw [valT]
        refine ⟨_, rfl, ?_⟩
        refine ite2 (fun g => ?_) (fun g => ?_)
        · have g' : i ∉ s6.rows := by simpa using g
          exact ⟨_, rfl, kY (decide_eq_true g') _ _ (Ex.refl _) (congrArg V.int (Int.zero_add _))⟩
        · exact kN (by simpa using g) _ (Ex.refl _)
      · intro acc Ha ea hxa hacc
        have haa := paired_is hacc
        rw [List.map_id] at haa
        subst haa
        refine ⟨_, rfl, cd, _, s6.cols.map (fun (c : Nat) => (c : Int)), rfl, .inl (ea _ _ W7.cv), kT_keys _, ?_, fun ys yl hpm hso hyl => ?_⟩
        · rw [List.length_map]
          have := (Tr.mk J.j.nd J.c4).len
          omega
        obtain ⟨C, hC, pm, so⟩ := ints_nat hpm hso
        rw [hC]
        have x8 : Ex Ha (upd Ha yl (.lst (vI C))) := Ex.new hyl
        have hy8 : upd Ha yl (.lst (vI C)) yl = some (.lst (vI C)) := upd_same
        generalize upd Ha yl (.lst (vI C)) = Hc at x8 hy8 ⊢
        refine ⟨(by show 2 ≤ sizeLine; decide), fun tq htq => ?_⟩
        have nxy : xl ≠ yl := fun q => by rw [← q, hxa] at hyl; cases hyl
        have ec := W7.ex.trans (ea.trans x8)
        refine q tq xl yl _ C _ (fresh_back ec htq) (fresh_back W7.ex hxl) (fresh_back (W7.ex.trans ea) hyl) nxy (ec.trans (Ex.new htq)) upd_same ((Ex.new htq) _ _ (x8 _ _ hxa)) ((Ex.new htq) _ _ hy8) ⟨by rw [efin], by rw [efin]; exact pm, so, ?_, ?_, ?_, ?_⟩
        · have o := cov_end S inr J.j hw
          exact ⟨o.mat, fun r c h => (o.cov r c h).imp id fun h => pm.mem_iff.mpr h, by rw [pm.length_eq]; exact o.size⟩
        · exact pm.nodup_iff.mpr J.j.nd
        · exact fun c hc => J.c4 c (pm.mem_iff.mp hc)
        · intro c hc
          obtain ⟨r, hr, _⟩ := S.shut c (J.j.seat c (pm.mem_iff.mp hc)).1
          exact ⟨r, S.mat.on c r (look_mem hr)⟩
end
end B71

namespace B71
open PySem PySem.Spec PyProof.Rows L2 Evl RZ SrtO

def spCover : Sp := fun vs H Q _ => ∃ (a : Addr) (tall wide : Nat) (rs : List Addr) (pl : Pl), vs = [.int tall, .int wide, .ref a] ∧ SqH H a (rs.map V.ref) ∧ Pts H rs pl ∧ Bd tall wide pl ∧
  ∀ (p x y : Addr) R C H', H p = none → H x = none → H y = none → x ≠ y → Ex H H' → H' p = some (.tup [.ref x, .ref y]) → H' x = some (.lst (vI R)) → H' y = some (.lst (vI C)) → Cv pl tall R C → Q (.ref p) H'
def spUnlike : Sp := fun vs H Q _ => ∃ (a : Addr) (most : Nat) (L : List Nat), vs = [.ref a, .int most] ∧ H a = some (.lst (vI L)) ∧ L.length ≤ 16 ∧ L.Nodup ∧ (∀ x ∈ L, x < most) ∧ RetV (.bl true) H Q
def spPlace2 : Sp := fun vs H Q _ => ∃ (r : Addr) (p : Nat × Nat), vs = [.ref r] ∧ Pt H r p ∧ RetV (.bl true) H Q
def spSpare : Sp := fun vs H Q _ => ∃ (a : Addr) (rs : List Addr) (L : Pl), vs = [.ref a] ∧ H a = some (.lst (rs.map V.ref)) ∧ Pts H rs L ∧ L.length ≤ 16 ∧ (L.map (·.1)).Nodup ∧ (L.map (·.2)).Nodup ∧ RetV (.bl true) H Q
theorem mergeT : ∀ (l acc : List Nat), mergeK (kT acc) (kT l) = kT (l.foldl addRow acc)
  | [], acc => rfl
  | c :: l, acc => by
    unfold mergeK
    show List.foldl _ (putK (kT acc) (.inl (c : Int)) (.bl true)) (kT l) = _
    rw [putT_any]
    exact mergeT l (addRow acc c)
theorem fold_nd : ∀ (l acc : List Nat), (acc ++ l).Nodup → l.foldl addRow acc = acc ++ l
  | [], acc, _ => by rw [List.append_nil]; rfl
  | c :: l, acc, h => by
    have hc : c ∉ acc := fun q => by
      rw [List.nodup_append] at h
      exact h.2.2 c q c (List.mem_cons_self ..) rfl
    rw [List.foldl_cons]
    have e : addRow acc c = acc ++ [c] := by unfold addRow; rw [if_neg hc]
    rw [e, fold_nd l (acc ++ [c]) (by rw [List.append_assoc]; exact h), List.append_assoc]
    rfl
theorem mergeT_nd {l : List Nat} (h : l.Nodup) : mergeK [] (kT l) = kT l := by
  have := mergeT l []
  rw [fold_nd l [] (by simpa using h)] at this
  exact this
theorem kT_len (l : List Nat) : (kT l).length = l.length := List.length_map _
theorem pairs_T {K : PySem.W.Frag} {H : Hp} {α : Type} {g : α → Nat} : ∀ {rs : List Addr} {l : List α}, Paired (fun (r : Addr) (y : α) => H r = some (.tup [.int (g y : Nat), .bl true])) rs l → Paired (fun p (kv : Key × V) => SqT K H p [kV kv.1, kv.2]) rs (kT (l.map g))
  | _, _, .nil => .nil
  | _, _, .cons h t => .cons (st_of h) (pairs_T t)
section
variable {P : Program} {w : World} {K : PySem.W.Frag} {mg : Str → Option Value} {base : Heap} {f : Addr} {fd : FuncData}
theorem sc_cover : FnScope ["tall", "wide", "places"] ["tall", "wide", "places"] (defScope (top 26)) := ⟨rfl, rfl, rfl, by decide +kernel, rfl, by decide +kernel, by decide +kernel⟩
theorem ok_cover (F : Fun K "cover" "cover" (top 26) f fd) (T : Tx mg) (C_cover_of : Cl P w K mg base "cover_of" 8 ["tall", "wide", "places"] spCoverOf) (C_want_places : Cl P w K mg base "want_places" 5 ["tall", "wide", "value"] spWantPlaces) : FnG P w K mg base 9 f fd ["tall", "wide", "places"] spCover := by
  have sc := sc_cover
  refine okG F sc (fun vs H Q E h => ?_) (fun cdv A outer s H vs Q gd0 hr h => ?_)
  · obtain ⟨a, tall, _, _, _, rfl, _⟩ := h; rfl
  have gd := deeper_guards (env := envOfC "cover" (defScope (top 26)) s.heap.objs.size f cdv) gd0
  obtain ⟨a, tall, wide, rs, pl, rfl, ha, hp, z, q⟩ := h
  refine ⟨_, (pss_one (ps_ret (pe_cl C_cover_of gd (hr.mono (by first | decide | omega)) (pa_cons (pv 0) (pa_cons (pv 1) (pa_cons (pe_cl C_want_places gd (hr.mono (by first | decide | omega)) (pa_cons (pv 0) (pa_cons (pv 1) (pa_cons (pv 2) pa_nil)))) pa_nil)))))), ?_⟩
  refine ⟨_, rfl, _, rfl, _, rfl, _, rfl, _, rfl, a, tall, wide, rs, pl, rfl, ha, hp, z, fun b H1 hb0 e1 hb1 => ?_⟩
  refine ⟨b, tall, wide, rs, pl, rfl, hb1, hp.up e1, z.sz, fun r c h => (z.inb _ h).1, fun p x y R C H2 hp0 hx0 hy0 nxy e2 h1 h2 h3 h4 => ?_⟩
  exact q p x y R C H2 (fresh_back e1 hp0) (fresh_back e1 hx0) (fresh_back e1 hy0) nxy (e1.trans e2) h1 h2 h3 h4
theorem sc_unlike_counts : FnScope ["value", "most", "number"] ["value", "most"] (defScope (top 21)) := ⟨rfl, rfl, rfl, by decide +kernel, rfl, by decide +kernel, by decide +kernel⟩
theorem ok_unlike_counts (F : Fun K "unlike_counts" "unlike_counts" (top 21) f fd) (T : Tx mg) (C_is_list : Cl P w K mg base "is_list" 1 ["value"] spList) (C_is_count : Cl P w K mg base "is_count" 2 ["value"] spCount) : FnG P w K mg base 3 f fd ["value", "most"] spUnlike := by
  have sc := sc_unlike_counts
  refine okG F sc (fun vs H Q E h => ?_) (fun cdv A outer s H vs Q gd0 hr h => ?_)
  · obtain ⟨a, most, _, rfl, _⟩ := h; rfl
  have gd := deeper_guards (env := envOfC "unlike_counts" (defScope (top 21)) s.heap.objs.size f cdv) gd0
  obtain ⟨a, most, L, rfl, ha, l16, nd, lt, q⟩ := h
  refine ⟨_, (pss_cons (ps_if (PW.pt (pw_or (pt_not (pt_val (pe_cl C_is_list gd (hr.mono (by first | decide | omega)) (pa_cons (pv 0) pa_nil)))) (pw_or1 (pt_not (pt_val (pe_callB (cr_all rfl) rfl T.b_all bt_all (pa_cons (pe_lc (own := [("number", 2)]) (g := (gName 2)) rfl sc.nd (pi_list (pv 0)) (blkOk_by (N := ["value", "most", "number"]) (sc := defScope (top 21)) (by decide +kernel)) (fun _ _ _ _ _ => (pg_name (i := 2) sc.nd rfl (Or.inl rfl))) (fun _ _ _ _ _ => pts_nil) (fun _ _ _ _ _ => (pe_and (pe_cl C_is_count gd (hr.mono (by first | decide | omega)) (pa_cons (pv 2) pa_nil)) (pe_one (pe_cmpR op_lt (pv 2) (pv 1) (nomark _)))))) pa_nil))))))) (pss_one (ps_ret pe_bl)) pss_nil) (pss_one (ps_ret (pe_cmpR op_eq (pe_callB call_lenD rfl T.b_len bt_len (pa_cons (pe_callTy (call_dictP rfl) rfl T.b_dict bt_dict (pa_cons (pe_lc (own := [("number", 2)]) (g := (gName 2)) rfl sc.nd (pi_list (pv 0)) (blkOk_by (N := ["value", "most", "number"]) (sc := defScope (top 21)) (by decide +kernel)) (fun _ _ _ _ _ => (pg_name (i := 2) sc.nd rfl (Or.inl rfl))) (fun _ _ _ _ _ => pts_nil) (fun _ _ _ _ _ => (pe_tup (pa_cons (pv 2) (pa_cons pe_bl pa_nil))))) pa_nil)) pa_nil)) (pe_callB call_len_seq rfl T.b_len bt_len (pa_cons (pv 0) pa_nil)) (nomark _))))), ?_⟩
  refine ⟨_, rfl, a, _, rfl, .inl ha, fun H1 e1 => ⟨_, rfl, ?_⟩⟩
  refine ⟨_, rfl, a, rfl, ⟨_, sq_of (e1 _ _ ha)⟩, fun D hD => ?_⟩
  refine lcW (walk_list (K := K) (a := a) (xs := vI L)) L (vI_len L) (by rw [vI_len]; omega) (fun _ => true) (fun (y : Nat) v _ => v = .bl (decide ((y : Int) < most))) Stab.bl hD (fun H4 e4 => sq_of (e4 _ _ (e1 _ _ ha))) ?_ ?_
  · rintro i y x H4 H5 N Gt hy e4 ⟨rfl, hx⟩ _ k
    unfold vI at hx
    rw [List.getElem?_map, hy] at hx
    cases hx
    refine ⟨Ex.refl _, rfl, ?_⟩
    refine ⟨_, rfl, (y : Int), rfl, fun H6 e6 => ⟨_, rfl, ?_⟩⟩
    rw [decide_eq_true (by omega : (0 : Int) ≤ (y : Int))]
    refine ⟨_, rfl, _, rfl, _, _, rfl, rfl, ?_⟩
    exact k rfl _ _ e6 rfl
  · intro acc H4 e4 hD4 hacc
    rw [filter_yes] at hacc
    have hac := paired_bl hacc
    refine ⟨D, _, rfl, sq_of (hac ▸ hD4), _, rfl, ?_⟩
    rw [all_true (fun b hb' => by obtain ⟨y, hy, rfl⟩ := List.mem_map.mp hb'; exact decide_eq_true (by have := lt y hy; omega))]
    have e04 := e1.trans e4
    refine ⟨_, rfl, a, rfl, ⟨_, sq_of (e04 _ _ ha)⟩, fun D2 hD2 => ?_⟩
    refine lcW (walk_list (K := K) (a := a) (xs := vI L)) L (vI_len L) (by rw [vI_len]; omega) (fun _ => true) (Tu fun (y : Nat) => [.int (y : Nat), .bl true]) Stab.tu hD2 (fun H5 e5 => sq_of (e5 _ _ (e04 _ _ ha))) ?_ ?_
    · rintro i y x H6 H5 N Gt hy e6 ⟨rfl, hx⟩ _ k
      unfold vI at hx
      rw [List.getElem?_map, hy] at hx
      cases hx
      refine ⟨Ex.refl _, rfl, ?_⟩
      refine ⟨_, rfl, (by show 2 ≤ sizeLine; decide), fun r hr5 => ?_⟩
      exact k rfl _ _ (Ex.new hr5) ⟨r, rfl, upd_same⟩
    · intro acc2 H6 e6 hD6 hacc2
      rw [filter_yes] at hacc2
      obtain ⟨ps, rfl, lps, hps⟩ := tu_list hacc2
      have pk := pairs_T (K := K) (g := fun y : Nat => y) hps
      refine ⟨D2, ps, _, rfl, sq_of hD6, pk, fun dd hdd => ?_⟩
      rw [show L.map (fun y : Nat => y) = L from List.map_id L, mergeT_nd nd]
      refine ⟨dd, _, rfl, upd_same, ?_⟩
      have e06 := e04.trans (e6.trans (Ex.new (o := .dK (kT L)) hdd))
      refine ⟨_, rfl, a, _, rfl, .inl (sq_of (e06 _ _ ha)), rfl, ?_⟩
      rw [kT_len, vI_len, decide_eq_true rfl]
      exact q _ e06
theorem sc_is_place2 : FnScope ["value", "number"] ["value"] (defScope (top 22)) := ⟨rfl, rfl, rfl, by decide +kernel, rfl, by decide +kernel, by decide +kernel⟩
theorem ok_is_place2 (F : Fun K "is_place" "is_place" (top 22) f fd) (T : Tx mg) (C_is_count : Cl P w K mg base "is_count" 2 ["value"] spCount) : FnG P w K mg base 3 f fd ["value"] spPlace2 := by
  have sc := sc_is_place2
  refine okG F sc (fun vs H Q E h => ?_) (fun cdv A outer s H vs Q gd0 hr h => ?_)
  · obtain ⟨r, p, rfl, _⟩ := h; rfl
  have gd := deeper_guards (env := envOfC "is_place" (defScope (top 22)) s.heap.objs.size f cdv) gd0
  obtain ⟨r, p, rfl, h1, q⟩ := h
  refine ⟨_, (pss_one (ps_ret (pe_and (pe_callB call_isi rfl T.b_isinstance bt_isinstance (pa_cons (pv 0) (pa_cons (pe_bltn (v := .ty "tuple") rfl T.b_tuple bt_tuple rfl) pa_nil))) (pe_and (pe_cmpR op_eq (pe_callB call_len_seq rfl T.b_len bt_len (pa_cons (pv 0) pa_nil)) pe_int (nomark _)) (pe_one (pe_callB (cr_all rfl) rfl T.b_all bt_all (pa_cons (pe_lc (own := [("number", 1)]) (g := (gName 1)) rfl sc.nd (pi_tup (pv 0)) (blkOk_by (N := ["value", "number"]) (sc := defScope (top 22)) (by decide +kernel)) (fun _ _ _ _ _ => (pg_name (i := 1) sc.nd rfl (Or.inl rfl))) (fun _ _ _ _ _ => pts_nil) (fun _ _ _ _ _ => (pe_cl C_is_count gd (hr.mono (by first | decide | omega)) (pa_cons (pv 1) pa_nil)))) pa_nil))))))), ?_⟩
  have h1' : H r = some (.tup (vI [p.1, p.2])) := h1
  refine ⟨_, rfl, _, _, _, _, _, rfl, .ty "tuple", .base (.tup h1), kt_tuple_tuple, _, rfl, ?_⟩
  refine ⟨_, rfl, r, _, rfl, .inr (st_of h1), rfl, _, rfl, ?_⟩
  refine ⟨_, rfl, r, rfl, ⟨_, st_of h1⟩, fun D hD => ?_⟩
  refine lcW (walk_tup (K := K) (a := r) (xs := vI [p.1, p.2])) [p.1, p.2] rfl (by show 2 ≤ 1000; decide) (fun _ => true) (fun (y : Nat) v _ => v = .bl ((fun _ => true) y)) Stab.bl hD (fun H4 e4 => st_of (e4 _ _ h1')) ?_ ?_
  · rintro i y x H4 H5 N Gt hy e4 ⟨rfl, hx⟩ _ k
    unfold vI at hx
    rw [List.getElem?_map, hy] at hx
    cases hx
    refine ⟨Ex.refl _, rfl, ?_⟩
    refine ⟨_, rfl, (y : Int), rfl, fun H6 e6 => ?_⟩
    exact k rfl _ _ e6 (by rw [decide_eq_true (by omega : (0 : Int) ≤ (y : Int))])
  · intro acc H4 e4 hD4 hacc
    rw [filter_yes] at hacc
    have hac := paired_bl hacc
    refine ⟨D, _, rfl, sq_of (hac ▸ hD4), ?_⟩
    rw [all_true (fun b hb' => by obtain ⟨y, hy, rfl⟩ := List.mem_map.mp hb'; rfl)]
    exact q _ e4
theorem sc_spare_one_another : FnScope ["places", "rows", "columns", "place"] ["places"] (defScope (top 24)) := ⟨rfl, rfl, rfl, by decide +kernel, rfl, by decide +kernel, by decide +kernel⟩
theorem ok_spare (F : Fun K "spare_one_another" "spare_one_another" (top 24) f fd) (T : Tx mg) : FnG P w K mg base 1 f fd ["places"] spSpare := by
  have sc := sc_spare_one_another
  refine okG F sc (fun vs H Q E h => ?_) (fun cdv A outer s H vs Q gd0 hr h => ?_)
  · obtain ⟨r, _, _, rfl, _⟩ := h; rfl
  have gd := deeper_guards (env := envOfC "spare_one_another" (defScope (top 24)) s.heap.objs.size f cdv) gd0
  obtain ⟨a, rs, L, rfl, ha, hp, l16, n1, n2, q⟩ := h
  have hl := hp.len
  refine ⟨_, (pss_cons (ps_par (i := 1) (j := 2) rfl sc.nd rfl rfl (by decide) rfl rfl (pa_cons (pe_callTy (call_dictP rfl) rfl T.b_dict bt_dict (pa_cons (pe_lc (own := [("place", 3)]) (g := (gName 3)) rfl sc.nd (pi_list (pv 0)) (blkOk_by (N := ["places", "rows", "columns", "place"]) (sc := defScope (top 24)) (by decide +kernel)) (fun _ _ _ _ _ => (pg_name (i := 3) sc.nd rfl (Or.inl rfl))) (fun _ _ _ _ _ => pts_nil) (fun _ _ _ _ _ => (pe_tup (pa_cons (pe_ix (show IxR _ (rIxT K) from ix_tup) (pv 3) pe_int (fun _ _ => rfl)) (pa_cons pe_bl pa_nil))))) pa_nil)) (pa_cons (pe_callTy (call_dictP rfl) rfl T.b_dict bt_dict (pa_cons (pe_lc (own := [("place", 3)]) (g := (gName 3)) rfl sc.nd (pi_list (pv 0)) (blkOk_by (N := ["places", "rows", "columns", "place"]) (sc := defScope (top 24)) (by decide +kernel)) (fun _ _ _ _ _ => (pg_name (i := 3) sc.nd rfl (Or.inl rfl))) (fun _ _ _ _ _ => pts_nil) (fun _ _ _ _ _ => (pe_tup (pa_cons (pe_ix (show IxR _ (rIxT K) from ix_tup) (pv 3) pe_int (fun _ _ => rfl)) (pa_cons pe_bl pa_nil))))) pa_nil)) pa_nil)) rfl) (pss_one (ps_ret (pe_chain op_eq op_eq (pe_callB call_lenD rfl T.b_len bt_len (pa_cons (pv 1) pa_nil)) (pe_callB call_lenD rfl T.b_len bt_len (pa_cons (pv 2) pa_nil)) (pe_callB call_len_seq rfl T.b_len bt_len (pa_cons (pv 0) pa_nil)))))), ?_⟩
  refine ⟨_, rfl, a, rfl, ⟨_, sq_of ha⟩, fun D hD => ?_⟩
  refine lcW (walk_list (K := K) (a := a) (xs := rs.map V.ref)) L (by simp [hl]) (by simp; omega) (fun _ => true) (Tu fun (y : Nat × Nat) => [.int (y.1 : Nat), .bl true]) Stab.tu hD (fun H5 e5 => sq_of (e5 _ _ ha)) ?_ ?_
  · rintro i y x H4 H5 N Gt hy e4 ⟨rfl, hx⟩ _ k
    obtain ⟨r, p, rfl, h1, h2⟩ := pts_at (hp.up e4) hx
    cases h1.symm.trans hy
    refine ⟨Ex.refl _, rfl, ?_⟩
    refine ⟨_, rfl, r, _, _, _, rfl, rfl, st_of h2, rfl, (by show 2 ≤ sizeLine; decide), fun r5 hr5 => ?_⟩
    exact k rfl _ _ (Ex.new hr5) ⟨r5, rfl, upd_same⟩
  · intro acc H4 e4 hD4 hacc
    rw [filter_yes] at hacc
    obtain ⟨ps, rfl, lps, hps⟩ := tu_list hacc
    have pk := pairs_T (K := K) (g := fun y : Nat × Nat => y.1) hps
    refine ⟨D, ps, _, rfl, sq_of hD4, pk, fun dd hdd => ?_⟩
    rw [mergeT_nd n1]
    have e5 := e4.trans (Ex.new (o := .dK (kT (L.map (·.1)))) hdd)
    have hd5 : upd H4 dd (.dK (kT (L.map (·.1)))) dd = some (.dK (kT (L.map (·.1)))) := upd_same
    generalize upd H4 dd (.dK (kT (L.map (·.1)))) = H5 at e5 hd5 ⊢
    refine ⟨_, rfl, a, rfl, ⟨_, sq_of (e5 _ _ ha)⟩, fun D2 hD2 => ?_⟩
    refine lcW (walk_list (K := K) (a := a) (xs := rs.map V.ref)) L (by simp [hl]) (by simp; omega) (fun _ => true) (Tu fun (y : Nat × Nat) => [.int (y.2 : Nat), .bl true]) Stab.tu hD2 (fun H6 e6 => sq_of (e6 _ _ (e5 _ _ ha))) ?_ ?_
    · rintro i y x H6 H7 N Gt hy e6 ⟨rfl, hx⟩ _ k
      obtain ⟨r, p, rfl, h1, h2⟩ := pts_at (hp.up (e5.trans e6)) hx
      cases h1.symm.trans hy
      refine ⟨Ex.refl _, rfl, ?_⟩
      refine ⟨_, rfl, r, _, _, _, rfl, rfl, st_of h2, rfl, (by show 2 ≤ sizeLine; decide), fun r5 hr5 => ?_⟩
      exact k rfl _ _ (Ex.new hr5) ⟨r5, rfl, upd_same⟩
    · intro acc2 H6 e6 hD6 hacc2
      rw [filter_yes] at hacc2
      obtain ⟨ps2, rfl, lps2, hps2⟩ := tu_list hacc2
      have pk2 := pairs_T (K := K) (g := fun y : Nat × Nat => y.2) hps2
      refine ⟨D2, ps2, _, rfl, sq_of hD6, pk2, fun d2 hd2 => ?_⟩
      rw [mergeT_nd n2]
      have x7 : Ex H6 (upd H6 d2 (.dK (kT (L.map (·.2))))) := Ex.new hd2
      have e7 := e5.trans (e6.trans x7)
      refine ⟨_, _, rfl, _, rfl, dd, _, rfl, x7 _ _ (e6 _ _ hd5), _, rfl, d2, _, rfl, upd_same, rfl, _, rfl, ?_⟩
      rw [kT_len, kT_len, List.length_map, List.length_map, decide_eq_true rfl]
      refine ⟨_, rfl, a, _, rfl, .inl (sq_of (e7 _ _ ha)), rfl, ?_⟩
      rw [List.length_map, hl, decide_eq_true rfl]
      exact q _ e7
end
end B71

namespace B71
open PySem PySem.Spec PyProof.Rows L2 Evl RZ SrtO

theorem flat_is : ∀ L : List Nat, (vI L).all flatV = true
  | [] => rfl
  | n :: L => by unfold vI; rw [List.map_cons, List.all_cons]; exact Bool.and_eq_true_iff.mpr ⟨rfl, flat_is L⟩
theorem in_is (r : Nat) (L : List Nat) : inV (.int (r : Int)) (vI L) = decide (r ∈ L) := by
  induction L with
  | nil => rfl
  | cons n L ih =>
    have e : inV (.int (r : Int)) (vI (n :: L)) = (eqV (.int (n : Int)) (.int (r : Int)) || inV (.int (r : Int)) (vI L)) := rfl
    rw [e, ih]
    show ((n : Int) == (r : Int) || decide (r ∈ L)) = _
    by_cases h : n = r
    · simp [h]
    · have q : ((n : Int) == (r : Int)) = false := beq_eq_false_iff_ne.mpr (by omega)
      rw [q, Bool.false_or]
      exact decide_eq_decide.mpr ⟨List.mem_cons_of_mem _, fun k => (List.mem_cons.mp k).resolve_left (Ne.symm h)⟩
def spIsRooks : Sp := fun vs H Q _ => ∃ (a v : Addr) (tall wide : Nat) (rs vr : List Addr) (pl L : Pl), vs = [.int tall, .int wide, .ref a, .ref v] ∧ SqH H a (rs.map V.ref) ∧ Pts H rs pl ∧ Bd tall wide pl ∧
  H v = some (.lst (vr.map V.ref)) ∧ Pts H vr L ∧ L.length ≤ 16 ∧ (L.map (·.1)).Nodup ∧ (L.map (·.2)).Nodup ∧ (∀ p ∈ L, p ∈ pl) ∧ RetV (.bl (decide (L.length = (seatsOf pl tall).length))) H Q
def covB (pl : Pl) (R C : List Nat) : Bool := pl.all fun p => decide (p.1 ∈ R) || decide (p.2 ∈ C)
def spIsCover : Sp := fun vs H Q _ => ∃ (a v x y : Addr) (tall wide : Nat) (rs : List Addr) (pl : Pl) (R C : List Nat), vs = [.int tall, .int wide, .ref a, .ref v] ∧ SqH H a (rs.map V.ref) ∧ Pts H rs pl ∧ Bd tall wide pl ∧
  H v = some (.tup [.ref x, .ref y]) ∧ H x = some (.lst (vI R)) ∧ H y = some (.lst (vI C)) ∧ R.Nodup ∧ C.Nodup ∧ (∀ r ∈ R, r < tall) ∧ (∀ c ∈ C, c < wide) ∧ RetV (.bl (covB pl R C && decide (R.length + C.length = (seatsOf pl tall).length))) H Q
theorem nd_lt {L : List Nat} {m : Nat} (h : L.Nodup) (lt : ∀ x ∈ L, x < m) : L.length ≤ m := by
  have := nodup_le (m := List.range m) h fun x hx => List.mem_range.mpr (lt x hx)
  simpa using this
section
variable {P : Program} {w : World} {K : PySem.W.Frag} {mg : Str → Option Value} {base : Heap} {f : Addr} {fd : FuncData}
theorem sc_is_rooks : FnScope ["tall", "wide", "places", "value", "told", "place"] ["tall", "wide", "places", "value"] (defScope (top 27)) := ⟨rfl, rfl, rfl, by decide +kernel, rfl, by decide +kernel, by decide +kernel⟩
theorem ok_is_rooks (F : Fun K "is_rooks" "is_rooks" (top 27) f fd) (T : Tx mg) (C_want_places : Cl P w K mg base "want_places" 5 ["tall", "wide", "value"] spWantPlaces) (C_is_list : Cl P w K mg base "is_list" 1 ["value"] spList) (C_is_place2 : Cl P w K mg base "is_place_boards" 3 ["value"] spPlace2) (C_spare_one_another : Cl P w K mg base "spare_one_another" 1 ["places"] spSpare) (C_rooks_of : Cl P w K mg base "rooks_of" 8 ["tall", "wide", "places"] spRooksOf) : FnG P w K mg base 9 f fd ["tall", "wide", "places", "value"] spIsRooks := by
  have sc := sc_is_rooks
  refine okG F sc (fun vs H Q E h => ?_) (fun cdv A outer s H vs Q gd0 hr h => ?_)
  · obtain ⟨r, _, _, _, _, _, _, _, rfl, _⟩ := h; rfl
  have gd := deeper_guards (env := envOfC "is_rooks" (defScope (top 27)) s.heap.objs.size f cdv) gd0
  obtain ⟨a, v, tall, wide, rs, vr, pl, L, rfl, ha, hp, hb, hv, hL, l16, n1, n2, sub, q⟩ := h
  refine ⟨_, (pss_cons (ps_set (i := 4) sc.nd rfl (Or.inr rfl) (pe_cl C_want_places gd (hr.mono (by first | decide | omega)) (pa_cons (pv 0) (pa_cons (pv 1) (pa_cons (pv 2) pa_nil))))) (pss_cons (ps_if (PW.pt (pw_or (pt_not (pt_val (pe_cl C_is_list gd (hr.mono (by first | decide | omega)) (pa_cons (pv 3) pa_nil)))) (pw_or1 (pt_not (pt_val (pe_callB (cr_all rfl) rfl T.b_all bt_all (pa_cons (pe_lc (own := [("place", 5)]) (g := (gName 5)) rfl sc.nd (pi_list (pv 3)) (blkOk_by (N := ["tall", "wide", "places", "value", "told", "place"]) (sc := defScope (top 27)) (by decide +kernel)) (fun _ _ _ _ _ => (pg_name (i := 5) sc.nd rfl (Or.inl rfl))) (fun _ _ _ _ _ => pts_nil) (fun _ _ _ _ _ => (pe_and (pe_cl C_is_place2 gd (hr.mono (by first | decide | omega)) (pa_cons (pv 5) pa_nil)) (pe_one (pe_cmpR (show OpR _ _ (rInD K) from (op_inD (u65 hr))) (pv 5) (pv 4) rfl))))) pa_nil))))))) (pss_one (ps_ret pe_bl)) pss_nil) (pss_one (ps_ret (pe_and (pe_cl C_spare_one_another gd (hr.mono (by first | decide | omega)) (pa_cons (pv 3) pa_nil)) (pe_one (pe_cmpR op_eq (pe_callB call_len_seq rfl T.b_len bt_len (pa_cons (pv 3) pa_nil)) (pe_callB call_len_seq rfl T.b_len bt_len (pa_cons (pe_cl C_rooks_of gd (hr.mono (by first | decide | omega)) (pa_cons (pv 0) (pa_cons (pv 1) (pa_cons (pv 4) pa_nil)))) pa_nil)) (nomark _)))))))), ?_⟩
  refine ⟨_, rfl, _, rfl, _, rfl, a, tall, wide, rs, pl, rfl, ha, hp, hb, fun b H1 hb0 e1 hb1 => ?_⟩
  have hp1 := hp.up e1
  refine ⟨_, rfl, v, _, rfl, .inl (e1 _ _ hv), fun H2 e2 => ⟨_, rfl, ?_⟩⟩
  have e12 := e1.trans e2
  refine ⟨_, rfl, v, rfl, ⟨_, sq_of (e12 _ _ hv)⟩, fun D hD => ?_⟩
  refine lcW (walk_list (K := K) (a := v) (xs := vr.map V.ref)) L (by simp [hL.len]) (by simp [hL.len]; omega) (fun _ => true) (fun (y : Nat × Nat) v _ => v = .bl ((fun y => pl.any fun z => decide (z = y)) y)) Stab.bl hD (fun H5 e5 => sq_of (e5 _ _ (e12 _ _ hv))) ?_ ?_
  · rintro i y x H4 H5 N Gt hy e4 ⟨rfl, hx⟩ _ k
    obtain ⟨r, p, rfl, h1, h2⟩ := pts_at (hL.up (e12.trans e4)) hx
    cases h1.symm.trans hy
    refine ⟨Ex.refl _, rfl, ?_⟩
    refine ⟨_, rfl, r, y, rfl, h2, fun H6 e6 => ⟨_, rfl, ?_⟩⟩
    have e46 := e4.trans e6
    refine ⟨_, rfl, _, rfl, _, _, dp_p (h2.up e6), dp_pl ((e2.trans e46) _ _ hb1) (hp1.up (e2.trans e46)), p_sh _, ps_sh _, ?_⟩
    refine k rfl _ _ e6 ?_
    rw [List.any_map]
    congr 2
    funext z
    exact pD_eqv z y
  · intro acc H4 e4 hD4 hacc
    rw [filter_yes] at hacc
    have hac := paired_bl hacc
    refine ⟨D, _, rfl, sq_of (hac ▸ hD4), _, rfl, ?_⟩
    rw [all_true (fun b hb' => by obtain ⟨y, hy, rfl⟩ := List.mem_map.mp hb'; exact List.any_eq_true.mpr ⟨y, sub y hy, decide_eq_true rfl⟩)]
    have e04 := e12.trans e4
    refine ⟨_, rfl, v, vr, L, rfl, e04 _ _ hv, hL.up e04, l16, n1, n2, fun H5 e5 => ⟨_, rfl, ?_⟩⟩
    have e05 := e04.trans e5
    have e15 := e2.trans (e4.trans e5)
    refine ⟨_, rfl, v, _, rfl, .inl (sq_of (e05 _ _ hv)), ?_⟩
    refine ⟨_, rfl, _, rfl, _, rfl, b, tall, wide, rs, pl, rfl, e15 _ _ hb1, hp1.up e15, hb.sz, fun p rs' M' H6 hp0 e6 h1 h2 h3 => ?_⟩
    refine ⟨p, _, rfl, .inl (sq_of h1), rfl, ?_⟩
    have e := h3.pm.length_eq
    rw [flip_len] at e
    have e2 : decide (V.int (((vr.map V.ref).length : Nat) : Int) = V.int (((rs'.map V.ref).length : Nat) : Int)) = decide (L.length = (seatsOf pl tall).length) := decide_eq_decide.mpr (by
      rw [List.length_map, List.length_map, hL.len, h2.len, e]
      constructor
      · intro h; injection h with h; omega
      · intro h; rw [h])
    rw [e2]
    exact q _ (e05.trans e6)
theorem sc_is_cover : FnScope ["tall", "wide", "places", "value", "told", "rows", "columns", "row", "column"] ["tall", "wide", "places", "value"] (defScope (top 28)) := ⟨rfl, rfl, rfl, by decide +kernel, rfl, by decide +kernel, by decide +kernel⟩
theorem ok_is_cover (F : Fun K "is_cover" "is_cover" (top 28) f fd) (T : Tx mg) (C_want_places : Cl P w K mg base "want_places" 5 ["tall", "wide", "value"] spWantPlaces) (C_unlike_counts : Cl P w K mg base "unlike_counts" 3 ["value", "most"] spUnlike) (C_rooks_of : Cl P w K mg base "rooks_of" 8 ["tall", "wide", "places"] spRooksOf) : FnG P w K mg base 9 f fd ["tall", "wide", "places", "value"] spIsCover := by
  have sc := sc_is_cover
  refine okG F sc (fun vs H Q E h => ?_) (fun cdv A outer s H vs Q gd0 hr h => ?_)
  · obtain ⟨r, _, _, _, _, _, _, _, _, _, rfl, _⟩ := h; rfl
  have gd := deeper_guards (env := envOfC "is_cover" (defScope (top 28)) s.heap.objs.size f cdv) gd0
  obtain ⟨a, v, x, y, tall, wide, rs, pl, R, C, rfl, ha, hp, hb, hv, hx, hy, nR, nC, lR, lC, q⟩ := h
  have l1 := nd_lt nR lR
  have l2 := nd_lt nC lC
  have t4 := hb.t4
  have w4 := hb.w4
  refine ⟨_, (pss_cons (ps_set (i := 4) sc.nd rfl (Or.inl rfl) (pe_cl C_want_places gd (hr.mono (by first | decide | omega)) (pa_cons (pv 0) (pa_cons (pv 1) (pa_cons (pv 2) pa_nil))))) (pss_cons (ps_if (PW.pt (pw_or (pt_not (pt_val (pe_callB call_isi rfl T.b_isinstance bt_isinstance (pa_cons (pv 3) (pa_cons (pe_bltn (v := .ty "tuple") rfl T.b_tuple bt_tuple rfl) pa_nil))))) (pw_or1 (pt_cmpR op_ne (pe_callB call_len_seq rfl T.b_len bt_len (pa_cons (pv 3) pa_nil)) pe_int (nomark _))))) (pss_one (ps_ret pe_bl)) pss_nil) (pss_cons (ps_asg (pv 3) (pg_tup rfl (pgs_cons (pg_name (i := 5) sc.nd rfl (Or.inr rfl)) (pgs_cons (pg_name (i := 6) sc.nd rfl (Or.inr rfl)) pgs_nil)))) (pss_cons (ps_if (PW.pt (pw_or (pt_not (pt_val (pe_cl C_unlike_counts gd (hr.mono (by first | decide | omega)) (pa_cons (pv 5) (pa_cons (pv 0) pa_nil))))) (pw_or1 (pt_not (pt_val (pe_cl C_unlike_counts gd (hr.mono (by first | decide | omega)) (pa_cons (pv 6) (pa_cons (pv 1) pa_nil)))))))) (pss_one (ps_ret pe_bl)) pss_nil) (pss_cons (ps_if (pt_not (pt_val (pe_callB (cr_all rfl) rfl T.b_all bt_all (pa_cons (pe_lc (own := [("row", 7), ("column", 8)]) (g := (gTup K 2 (gCons (gName 7) (gCons (gName 8) gNil)))) rfl sc.nd (pi_list (pv 4)) (blkOk_by (N := ["tall", "wide", "places", "value", "told", "rows", "columns", "row", "column"]) (sc := defScope (top 28)) (by decide +kernel)) (fun _ _ _ _ _ => (pg_tup rfl (pgs_cons (pg_name (i := 7) sc.nd rfl (Or.inl rfl)) (pgs_cons (pg_name (i := 8) sc.nd rfl (Or.inl rfl)) pgs_nil)))) (fun _ _ _ _ _ => pts_nil) (fun _ _ _ _ _ => (pe_or (pe_cmpR (show OpR _ _ (rIn K false) from op_in_seq) (pv 7) (pv 5) rfl) (pe_one (pe_cmpR (show OpR _ _ (rIn K false) from op_in_seq) (pv 8) (pv 6) rfl))))) pa_nil)))) (pss_one (ps_ret pe_bl)) pss_nil) (pss_one (ps_ret (pe_cmpR op_eq (pe_op op_add (pe_callB call_len_seq rfl T.b_len bt_len (pa_cons (pv 5) pa_nil)) (pe_callB call_len_seq rfl T.b_len bt_len (pa_cons (pv 6) pa_nil))) (pe_callB call_len_seq rfl T.b_len bt_len (pa_cons (pe_cl C_rooks_of gd (hr.mono (by first | decide | omega)) (pa_cons (pv 0) (pa_cons (pv 1) (pa_cons (pv 4) pa_nil)))) pa_nil)) (nomark _))))))))), ?_⟩
  refine ⟨_, rfl, _, rfl, _, rfl, a, tall, wide, rs, pl, rfl, ha, hp, hb, fun b H1 hb0 e1 hb1 => ?_⟩
  have hp1 := hp.up e1
  refine ⟨_, rfl, _, _, _, _, _, rfl, .ty "tuple", .base (.tup (e1 _ _ hv)), kt_tuple_tuple, _, rfl, ?_⟩
  refine ⟨_, rfl, v, _, rfl, .inr (st_of (e1 _ _ hv)), rfl, _, rfl, ?_⟩
  refine ⟨_, rfl, v, _, rfl, st_of (e1 _ _ hv), rfl, _, _, rfl, _, _, rfl, rfl, ?_⟩
  refine ⟨_, rfl, _, rfl, x, tall, R, rfl, e1 _ _ hx, by omega, nR, lR, fun H2 e2 => ⟨_, rfl, ?_⟩⟩
  have e12 := e1.trans e2
  refine ⟨_, rfl, _, rfl, y, wide, C, rfl, e12 _ _ hy, by omega, nC, lC, fun H3 e3 => ⟨_, rfl, ?_⟩⟩
  have e13 := e12.trans e3
  have hb3 := e3 _ _ (e2 _ _ hb1)
  have hp3 := hp.up e13
  have hl := hp.len
  have p16 := hb.p16
  refine ⟨_, rfl, b, rfl, ⟨_, sq_of hb3⟩, fun D hD => ?_⟩
  refine lcW (walk_list (K := K) (a := b) (xs := rs.map V.ref)) pl (by simp [hl]) (by simp [hl]; omega) (fun _ => true) (fun (z : Nat × Nat) v _ => v = .bl ((fun z => decide (z.1 ∈ R) || decide (z.2 ∈ C)) z)) Stab.bl hD (fun H5 e5 => sq_of (e5 _ _ hb3)) ?_ ?_
  · rintro i z x' H4 H5 N Gt hz e4 ⟨rfl, hx'⟩ _ k
    obtain ⟨r, p, rfl, h1, h2⟩ := pts_at (hp3.up e4) hx'
    cases h1.symm.trans hz
    refine ⟨Ex.refl _, ?_⟩
    refine ⟨r, _, rfl, st_of h2, rfl, _, _, rfl, _, _, rfl, rfl, rfl, ?_⟩
    refine ⟨_, rfl, _, rfl, x, _, rfl, .inl (sq_of ((e13.trans e4) _ _ hx)), rfl, flat_is _, _, rfl, ?_⟩
    show if (inV (.int (z.1 : Int)) (vI R)) = true then _ else _
    rw [in_is]
    refine ite2 (fun g => ?_) (fun g => ?_)
    · exact k rfl _ _ (Ex.refl _) (by show V.bl true = V.bl (decide (z.1 ∈ R) || decide (z.2 ∈ C)); rw [g]; rfl)
    · refine ⟨_, rfl, _, rfl, y, _, rfl, .inl (sq_of ((e13.trans e4) _ _ hy)), rfl, flat_is _, ?_⟩
      refine k rfl _ _ (Ex.refl _) ?_
      show V.bl (inV (.int (z.2 : Int)) (vI C)) = V.bl (decide (z.1 ∈ R) || decide (z.2 ∈ C))
      rw [in_is, Bool.eq_false_iff.mpr g, Bool.false_or]
  · intro acc H4 e4 hD4 hacc
    rw [filter_yes] at hacc
    have hac := paired_bl hacc
    refine ⟨D, _, rfl, sq_of (hac ▸ hD4), _, rfl, ?_⟩
    have ec : (pl.map fun z => decide (z.1 ∈ R) || decide (z.2 ∈ C)).all id = covB pl R C := by rw [List.all_map]; rfl
    rw [ec]
    have e14 := e13.trans e4
    cases hc : covB pl R C with
    | false =>
      rw [hc] at q
      exact q _ e14
    | true =>
      rw [hc, Bool.true_and] at q
      refine ⟨_, rfl, x, _, rfl, .inl (sq_of (e14 _ _ hx)), _, rfl, y, _, rfl, .inl (sq_of (e14 _ _ hy)), _, _, rfl, rfl, ?_⟩
      refine ⟨_, rfl, _, rfl, _, rfl, b, tall, wide, rs, pl, rfl, e4 _ _ hb3, hp3.up e4, hb.sz, fun p rs' M' H6 hp0 e6 h1 h2 h3 => ?_⟩
      refine ⟨p, _, rfl, .inl (sq_of h1), rfl, ?_⟩
      have e := h3.pm.length_eq
      rw [flip_len] at e
      have e2 : decide (V.int ((((vI R).length : Nat) : Int) + (((vI C).length : Nat) : Int)) = V.int (((rs'.map V.ref).length : Nat) : Int)) = decide (R.length + C.length = (seatsOf pl tall).length) := decide_eq_decide.mpr (by
        rw [List.length_map, vI_len, vI_len, h2.len, e]
        constructor
        · intro h; injection h with h; omega
        · intro h; rw [← h]; simp)
      rw [e2]
      exact q _ (e14.trans e6)
end
end B71

namespace B71
open PySem PySem.Spec PyProof.Rows L2 Evl RZ SrtO

def Pot (H : Hp) (p : Addr) : Prop := ∃ x y : Int, H p = some (.lst [.int x, .int y]) ∧ 0 ≤ x ∧ 0 ≤ y ∧ y < 2147483648
theorem Pot.same {H H' : Hp} {p : Addr} (h : Pot H p) (e : H' p = H p) : Pot H' p := by
  obtain ⟨x, y, h1, h2⟩ := h
  exact ⟨x, y, e.trans h1, h2⟩
theorem Pot.up {H H' : Hp} {p : Addr} (h : Pot H p) (e : Ex H H') : Pot H' p := by
  obtain ⟨x, y, h1, h2⟩ := h
  exact ⟨x, y, e _ _ h1, h2⟩
def spPot (K : PySem.W.Frag) : Sp := fun vs H Q _ => ∃ (a : Addr) (ns : List Int) (k : Nat), vs = [.ref a, .int k] ∧ SqL K H a (ns.map V.int) ∧ k ≤ 2 ∧ ∀ p H', H p = none → Ex H H' → Pot H' p → Q (.ref p) H'
def spDraw : Sp := fun vs H Q _ => ∃ (p : Addr) (m : Nat), vs = [.ref p, .int m] ∧ Pot H p ∧ 1 ≤ m ∧ m ≤ 16 ∧ ∀ (d : Nat) H', ExB p H H' → Pot H' p → d < m → Q (.int d) H'
section
variable {P : Program} {w : World} {K : PySem.W.Frag} {mg : Str → Option Value} {base : Heap} {f : Addr} {fd : FuncData}
theorem sc__law_pot : FnScope ["script", "k", "cell"] ["script", "k"] (defScope (top 30)) := ⟨rfl, rfl, rfl, by decide +kernel, rfl, by decide +kernel, by decide +kernel⟩
theorem ok_law_pot (F : Fun K "_law_pot" "_law_pot" (top 30) f fd) (T : Tx mg) : FnG P w K mg base 1 f fd ["script", "k"] (spPot K) := by
  have sc := sc__law_pot
  refine okG F sc (fun vs H Q E h => ?_) (fun cdv A outer s H vs Q gd0 hr h => ?_)
  · obtain ⟨a, ns, k, rfl, _⟩ := h; rfl
  have gd := deeper_guards (env := envOfC "_law_pot" (defScope (top 30)) s.heap.objs.size f cdv) gd0
  obtain ⟨a, ns, k, rfl, hS, hk, q⟩ := h
  have fin : ∀ c : Int, ∀ p, H p = none → ∀ H' : Hp, H' = upd H p (.lst [.int (if c - 10 ^ (18 : Int).toNat > 0 then c - 10 ^ (18 : Int).toNat else 0), .int ((c % 2147483549 * 40031 + 4021 * (k : Int) + 71) % 2147483563 + 1)]) → Q (.ref p) H' := fun c p hp H' e => by
    subst e
    refine q p _ hp (Ex.new hp) ⟨_, _, upd_same, ?_, ?_, ?_⟩
    · split <;> omega
    · omega
    · omega
  refine ⟨_, (pss_cons (ps_set (i := 2) sc.nd rfl (Or.inl rfl) (pe_ifExp (pt_cmpR op_lt (pv 1) (pe_callB call_len_seq rfl T.b_len bt_len (pa_cons (pv 0) pa_nil)) (nomark _)) (pe_callB call_abs rfl T.b_abs bt_abs (pa_cons (pe_ix ix_list (pv 0) (pv 1) (fun _ _ => rfl)) pa_nil)) (pe_op op_add (pe_op op_mul pe_int (pv 1)) pe_int))) (pss_one (ps_ret (pe_lst (pa_cons (pe_callB (call_max2 rfl) rfl T.b_max bt_max (pa_cons pe_int (pa_cons (pe_op op_sub (pv 2) (pe_op op_pow pe_int pe_int)) pa_nil))) (pa_cons (pe_op op_add (pe_op op_mod (pe_callTy call_int1 rfl T.b_int bt_int (pa_cons (pe_op op_add (pe_op op_add (pe_op op_mul (pe_op op_mod (pe_callTy call_int1 rfl T.b_int bt_int (pa_cons (pv 2) pa_nil)) pe_int) pe_int) (pe_op op_mul pe_int (pv 1))) pe_int) pa_nil)) pe_int) pe_int) pa_nil)))))), ?_⟩
  refine ⟨_, rfl, _, rfl, a, _, rfl, .inl hS, _, _, rfl, rfl, _, rfl, ?_⟩
  refine ite2 (fun g => ?_) (fun g => ?_)
  · have g' := of_decide_eq_true g
    rw [List.length_map] at g'
    have hk' : k < ns.length := by omega
    have hat : atI (ns.map V.int) ((k : Nat) : Int) = some (.int ns[k]) := atI_nat (by rw [List.getElem?_map, List.getElem?_eq_getElem hk'] <;> rfl)
    refine ⟨_, rfl, _, rfl, a, _, _, _, rfl, rfl, hS, hat, _, rfl, ?_⟩
    refine ⟨_, rfl, _, _, rfl, rfl, ⟨by decide, by decide, by decide⟩, _, _, rfl, rfl, _, _, rfl, ?_⟩
    refine ⟨_, rfl, .inl ⟨_, rfl, _, _, rfl, rfl, (by show (0 : Int) < _; decide), _, _, rfl, rfl, .inr (by decide), _, rfl, _, _, rfl, rfl, .inl (by decide), _, _, rfl, rfl, _, _, rfl, rfl,   .inl ⟨_, rfl, _, _, rfl, rfl, (by show (0 : Int) < _; decide), _, _, rfl, rfl, (by show 2 ≤ sizeLine; decide), fun p hp => ?_⟩⟩⟩
    exact fin _ p hp _ rfl
  · refine ⟨_, rfl, _, _, rfl, rfl, .inl (by decide), _, _, rfl, rfl, ?_⟩
    refine ⟨_, rfl, _, _, rfl, rfl, ⟨by decide, by decide, by decide⟩, _, _, rfl, rfl, _, _, rfl, ?_⟩
    refine ⟨_, rfl, .inl ⟨_, rfl, _, _, rfl, rfl, (by show (0 : Int) < _; decide), _, _, rfl, rfl, .inr (by decide), _, rfl, _, _, rfl, rfl, .inl (by decide), _, _, rfl, rfl, _, _, rfl, rfl,   .inl ⟨_, rfl, _, _, rfl, rfl, (by show (0 : Int) < _; decide), _, _, rfl, rfl, (by show 2 ≤ sizeLine; decide), fun p hp => ?_⟩⟩⟩
    exact fin _ p hp _ rfl
theorem sc__law_draw : FnScope ["pot", "many", "digit"] ["pot", "many"] (defScope (top 31)) := ⟨rfl, rfl, rfl, by decide +kernel, rfl, by decide +kernel, by decide +kernel⟩
theorem ok_law_draw (F : Fun K "_law_draw" "_law_draw" (top 31) f fd) (T : Tx mg) : FnG P w K mg base 1 f fd ["pot", "many"] spDraw := by
  have sc := sc__law_draw
  refine okG F sc (fun vs H Q E h => ?_) (fun cdv A outer s H vs Q gd0 hr h => ?_)
  · obtain ⟨a, k, rfl, _⟩ := h; rfl
  have gd := deeper_guards (env := envOfC "_law_draw" (defScope (top 31)) s.heap.objs.size f cdv) gd0
  obtain ⟨p, m, rfl, ⟨x, y, hp, hx, hy, hy2⟩, h1, h2, q⟩ := h
  refine ⟨_, (pss_cons (ps_if (pt_cmpR op_gt (pe_ix ix_list (pv 0) pe_int (fun _ _ => rfl)) pe_int (nomark _)) (pss_cons (ps_asg (pe_callB call_divmod rfl T.b_divmod bt_divmod (pa_cons (pe_ix ix_list (pv 0) pe_int (fun _ _ => rfl)) (pa_cons (pv 1) pa_nil))) (pg_tup rfl (pgs_cons (pg_sub (pv 0) pe_int set_list) (pgs_cons (pg_name (i := 2) sc.nd rfl (Or.inl rfl)) pgs_nil)))) (pss_one (ps_ret (pv 2)))) pss_nil) (pss_cons (ps_asg (pe_op op_mod (pe_callTy call_int1 rfl T.b_int bt_int (pa_cons (pe_op op_add (pe_op op_mul (pe_ix ix_list (pv 0) pe_int (fun _ _ => rfl)) pe_int) pe_int) pa_nil)) pe_int) (pg_sub (pv 0) pe_int set_list)) (pss_one (ps_ret (pe_op op_mod (pe_callTy call_int1 rfl T.b_int bt_int (pa_cons (pe_op op_fdiv (pe_op op_mod (pe_callTy call_int1 rfl T.b_int bt_int (pa_cons (pe_op op_mul (pe_ix ix_list (pv 0) pe_int (fun _ _ => rfl)) (pe_ix ix_list (pv 0) pe_int (fun _ _ => rfl))) pa_nil)) pe_int) pe_int) pa_nil)) (pv 1)))))), ?_⟩
  refine ⟨_, rfl, p, _, 0, .int x, rfl, rfl, sq_of hp, rfl, _, _, rfl, rfl, _, rfl, ?_⟩
  refine ite2 (fun g => ?_) (fun g => ?_)
  · have mz : (0 : Int) < (m : Int) := by omega
    refine ⟨_, rfl, p, _, 0, .int x, rfl, rfl, sq_of hp, rfl, _, rfl, _, _, rfl, ⟨mz, by omega⟩, fun t ht => ?_⟩
    have nt : t ≠ p := fun z => by rw [z, hp] at ht; cases ht
    have x1 : Ex H (upd H t (.tup [.int (x / (m : Int)), .int (x % (m : Int))])) := Ex.new ht
    refine ⟨t, _, rfl, st_of upd_same, rfl, _, _, rfl, _, rfl, p, _, 0, 0, rfl, rfl, x1 _ _ hp, rfl, _, _, rfl, rfl, ?_⟩
    refine ⟨_, rfl, ?_⟩
    have hd : x % (m : Int) = ((x % (m : Int)).toNat : Int) := (Int.toNat_of_nonneg (Int.emod_nonneg _ (by omega))).symm
    have hlt : x % (m : Int) < m := Int.emod_lt_of_pos _ mz
    rw [show ([.int x, .int y] : List V).set 0 (.int (x / (m : Int))) = [.int (x / (m : Int)), .int y] from rfl]
    have key := q (x % (m : Int)).toNat _ (ExB.put (o := .lst [.int (x / (m : Int)), .int y]) (ExB.of x1)) ⟨_, _, upd_same, Int.ediv_nonneg hx (by omega), hy, hy2⟩ (by omega)
    rw [← hd] at key
    exact key
  · refine ⟨_, rfl, p, _, 1, .int y, rfl, rfl, sq_of hp, rfl, _, _, rfl, rfl, .inr (by decide), _, _, rfl, rfl,   .inl ⟨_, rfl, _, _, rfl, rfl, (by show (0 : Int) < _; decide), _, rfl, p, _, 1, 1, rfl, rfl, hp, rfl, ?_⟩⟩
    rw [show ([.int x, .int y] : List V).set 1 (.int ((y * 40014 + 1109) % 2147483563)) = [.int x, .int ((y * 40014 + 1109) % 2147483563)] from rfl]
    have e1 : ExB p H (upd H p (.lst [.int x, .int ((y * 40014 + 1109) % 2147483563)])) := ExB.put (ExB.of (Ex.refl _))
    have hp1 : upd H p (.lst [.int x, .int ((y * 40014 + 1109) % 2147483563)]) p = some (.lst [.int x, .int ((y * 40014 + 1109) % 2147483563)]) := upd_same
    generalize upd H p (.lst [.int x, .int ((y * 40014 + 1109) % 2147483563)]) = H1 at e1 hp1 ⊢
    have y0 : 0 ≤ (y * 40014 + 1109) % 2147483563 := by omega
    have y1 : (y * 40014 + 1109) % 2147483563 < 2147483563 := by omega
    generalize (y * 40014 + 1109) % 2147483563 = y' at e1 hp1 y0 y1 ⊢
    refine ⟨_, rfl, p, _, 1, .int y', rfl, rfl, sq_of hp1, rfl, _, rfl, p, _, 1, .int y', rfl, rfl, sq_of hp1, rfl, _, _, rfl, rfl, .inl ⟨by omega, by omega⟩,   .inl ⟨_, rfl, _, _, rfl, rfl, (by show (0 : Int) < _; decide), _, _, rfl, rfl, ⟨by decide, by decide⟩, .inl ⟨_, rfl, _, rfl, _, _, rfl, rfl, by omega, ?_⟩⟩⟩
    have mz : (0 : Int) < (m : Int) := by omega
    have hlt : (y' * y' % 2147483587 / 21) % (m : Int) < m := Int.emod_lt_of_pos _ mz
    have hnn : 0 ≤ (y' * y' % 2147483587 / 21) % (m : Int) := Int.emod_nonneg _ (by omega)
    show Q (.int ((y' * y' % 2147483587 / 21) % (m : Int))) H1
    generalize (y' * y' % 2147483587 / 21) % (m : Int) = d at hlt hnn ⊢
    have hd : d = (d.toNat : Int) := (Int.toNat_of_nonneg hnn).symm
    have key := q d.toNat H1 e1 ⟨_, _, hp1, hx, y0, by omega⟩ (by omega)
    rw [← hd] at key
    exact key
end
end B71

namespace B71
open PySem PySem.Spec PyProof.Rows L2 Evl RZ SrtO

def spBoard : Sp := fun vs H Q _ => ∃ (p : Addr), vs = [.ref p, .int 4] ∧ Pot H p ∧ ∀ (t b : Addr) (tall wide : Nat) (rs : List Addr) (pl : Pl) H', ExB p H H' → Pot H' p → H t = none → H b = none → H' t = some (.tup [.int tall, .int wide, .ref b]) → H' b = some (.lst (rs.map V.ref)) → Pts H' rs pl → Bd tall wide pl → Q (.ref t) H'
def spMost (n : Nat) : Sp := fun vs H Q _ => ∃ (a u : Addr) (tall row : Nat) (rs : List Addr) (pl : Pl) (used : List Nat), vs = [.int tall, .ref a, .int row, .ref u] ∧ H a = some (.lst (rs.map V.ref)) ∧ Pts H rs pl ∧ pl.length ≤ 16 ∧ H u = some (.lst (vI used)) ∧ used.length ≤ row ∧ row ≤ tall ∧ tall ≤ 4 ∧ tall + 1 ≤ row + n ∧ RetV (.int ((mostM pl (tall - row) row used : Nat) : Int)) H Q
def Ls (H : Hp) (r : Addr) (l : List Nat) : Prop := H r = some (.lst (vI l))
theorem Ls.up {H H' : Hp} {rs : List Addr} {ls : List (List Nat)} (h : Paired (Ls H) rs ls) (e : Ex H H') : Paired (Ls H') rs ls := Paired.mapP h fun _ _ q => e _ _ q
theorem ls_at {H : Hp} : ∀ {rs : List Addr} {ls : List (List Nat)}, Paired (Ls H) rs ls → ∀ {i : Nat} {x : V}, (rs.map V.ref)[i]? = some x → ∃ r l, x = .ref r ∧ ls[i]? = some l ∧ Ls H r l
  | _, _, .nil, i, x, h => by simp at h
  | _, _, .cons (a := r) (b := p) q t, 0, x, h => ⟨r, p, by simpa using h.symm, rfl, q⟩
  | _, _, .cons q t, i + 1, x, h => by
    obtain ⟨r, p, h1, h2, h3⟩ := ls_at t (i := i) (x := x) (by simpa using h)
    exact ⟨r, p, h1, by simpa using h2, h3⟩
theorem paired_app {α β : Type} {F : α → β → Prop} : ∀ {as as' : List α} {bs bs' : List β}, Paired F as bs → Paired F as' bs' → Paired F (as ++ as') (bs ++ bs')
  | _, _, _, _, .nil, h => h
  | _, _, _, _, .cons r t, h => .cons r (paired_app t h)
theorem lots_len : ∀ n, (lots n).length = 2 ^ n
  | 0 => rfl
  | n + 1 => by
    show (lots n ++ (lots n).map fun l => l ++ [n]).length = _
    rw [List.length_append, List.length_map, lots_len n, Nat.pow_succ]
    omega
theorem lots_small : ∀ n, ∀ l ∈ lots n, l.length ≤ n
  | 0, l, h => by
    have : l = [] := by simpa [lots] using h
    rw [this]; exact Nat.le_refl _
  | n + 1, l, h => by
    rcases List.mem_append.mp (show l ∈ lots n ++ (lots n).map fun l => l ++ [n] from h) with h | h
    · have := lots_small n l h; omega
    · obtain ⟨l', h', rfl⟩ := List.mem_map.mp h
      have := lots_small n l' h'
      simp
      omega
def spLots : Sp := fun vs H Q _ => ∃ (many : Nat), vs = [.int many] ∧ many ≤ 4 ∧ ∀ p rs H', H p = none → Ex H H' → H' p = some (.lst (rs.map V.ref)) → Paired (Ls H') rs (lots many) → Q (.ref p) H'
def spFewest : Sp := fun vs H Q _ => ∃ (a : Addr) (tall : Nat) (rs : List Addr) (pl : Pl), vs = [.int tall, .ref a] ∧ H a = some (.lst (rs.map V.ref)) ∧ Pts H rs pl ∧ pl.length ≤ 16 ∧ tall ≤ 4 ∧ RetV (.int ((fewestM pl tall : Nat) : Int)) H Q
section
variable {P : Program} {w : World} {K : PySem.W.Frag} {mg : Str → Option Value} {base : Heap} {f : Addr} {fd : FuncData}
theorem sc__law_most : FnScope ["tall", "places", "row", "used", "found", "near", "column"] ["tall", "places", "row", "used"] (defScope (top 33)) := ⟨rfl, rfl, rfl, by decide +kernel, rfl, by decide +kernel, by decide +kernel⟩
theorem ok_law_most {n : Nat} (F : Fun K "_law_most" "_law_most" (top 33) f fd) (T : Tx mg) (C__law_most : Cl P w K mg base "_law_most" n ["tall", "places", "row", "used"] (spMost n)) : FnG P w K mg base (n + 1) f fd ["tall", "places", "row", "used"] (spMost (n + 1)) := by
  have sc := sc__law_most
  refine okG F sc (fun vs H Q E h => ?_) (fun cdv A outer s H vs Q gd0 hr h => ?_)
  · obtain ⟨a, u, tall, row, _, _, _, rfl, _⟩ := h; rfl
  have gd := deeper_guards (env := envOfC "_law_most" (defScope (top 33)) s.heap.objs.size f cdv) gd0
  obtain ⟨a, u, tall, row, rs, pl, used, rfl, ha, hp, p16, hu, lu, h1, h2, h3, q⟩ := h
  refine ⟨_, (pss_cons (ps_if (pt_cmpR op_eq (pv 2) (pv 0) (nomark _)) (pss_one (ps_ret pe_int)) pss_nil) (pss_cons (ps_set (i := 4) sc.nd rfl (Or.inl rfl) (pe_cl C__law_most gd (hr.mono (by first | decide | omega)) (pa_cons (pv 0) (pa_cons (pv 1) (pa_cons (pe_op op_add (pv 2) pe_int) (pa_cons (pv 3) pa_nil)))))) (pss_cons (ps_for PassesOwn.never rfl (pi_list (pv 1)) (pg_tup rfl (pgs_cons (pg_name (i := 5) sc.nd rfl (Or.inl rfl)) (pgs_cons (pg_name (i := 6) sc.nd rfl (Or.inl rfl)) pgs_nil))) (pss_one (ps_if (PW.pt (pw_and (pt_cmpR op_eq (pv 5) (pv 2) (nomark _)) (pw_and1 (pt_cmpR op_notIn_seq (pv 6) (pv 3) rfl)))) (pss_one (ps_set (i := 4) sc.nd rfl (Or.inl rfl) (pe_callB (call_max2 rfl) rfl T.b_max bt_max (pa_cons (pv 4) (pa_cons (pe_op op_add pe_int (pe_cl C__law_most gd (hr.mono (by first | decide | omega)) (pa_cons (pv 0) (pa_cons (pv 1) (pa_cons (pe_op op_add (pv 2) pe_int) (pa_cons (pe_op op_cat (pv 3) (pe_lst (pa_cons (pv 6) pa_nil))) pa_nil)))))) pa_nil))))) pss_nil))) (pss_one (ps_ret (pv 4)))))), ?_⟩
  refine ⟨_, rfl, _, rfl, rfl, _, rfl, ?_⟩
  refine ite2 (fun g => ?_) (fun g => ?_)
  · have g' : row = tall := by
      have := of_decide_eq_true g
      injection this with this
      omega
    have e0 : mostM pl (tall - row) row used = 0 := by rw [g', Nat.sub_self]; rfl
    rw [e0] at q
    exact q _ (Ex.refl _)
  · have g' : row ≠ tall := fun z => g (by rw [z]; simp)
    obtain ⟨k, hk⟩ : ∃ k, tall - row = k + 1 := ⟨tall - row - 1, by omega⟩
    have hk' : tall - (row + 1) = k := by omega
    have em : mostM pl (tall - row) row used = pl.foldl (mostTurn (mostM pl k (row + 1)) row used) (mostM pl k (row + 1) used) := by rw [hk]; rfl
    rw [em] at q
    refine ⟨_, rfl, _, rfl, _, rfl, _, _, rfl, rfl, _, rfl, a, u, tall, row + 1, rs, pl, used, rfl, ha, hp, p16, hu, by omega, by omega, h3 |> fun _ => by omega, by omega, fun H1 e1 => ?_⟩
    rw [hk']
    refine ⟨_, rfl, a, rfl, ⟨_, sq_of (e1 _ _ ha)⟩, for_list (K := K) (a := a) (xs := rs.map V.ref) (fun i σ H' => ∃ (o5 o6 : Option V), σ = [some (.int tall), some (.ref a), some (.int row), some (.ref u), some (.int (((pl.take i).foldl (mostTurn (mostM pl k (row + 1)) row used) (mostM pl k (row + 1) used) : Nat) : Int)), o5, o6] ∧ Ex H H')
      ⟨_, _, rfl, e1⟩ (fun i σ H' _ ⟨_, _, _, e⟩ => sq_of (e _ _ ha)) ?_ ?_⟩
    · rintro i x σ H2 hx ⟨o5, o6, rfl, e2⟩
      have hp2 := hp.up e2
      obtain ⟨r, ⟨kk, c⟩, rfl, hkk, hr1⟩ := pts_at hp2 hx
      have htk : pl.take (i + 1) = pl.take i ++ [(kk, c)] := by rw [List.take_add_one, hkk]; rfl
      rw [htk, List.foldl_append]
      generalize (pl.take i).foldl (mostTurn (mostM pl k (row + 1)) row used) (mostM pl k (row + 1) used) = F0
      simp only [List.foldl_cons, List.foldl_nil]
      refine ⟨r, _, rfl, st_of hr1, rfl, _, _, rfl, _, _, rfl, rfl, ?_⟩
      refine ⟨_, rfl, _, rfl, rfl, _, rfl, ?_⟩
      have skip : ¬ (kk = row ∧ c ∉ used) → mostTurn (mostM pl k (row + 1)) row used F0 (kk, c) = F0 := fun g => by unfold mostTurn; rw [if_neg g]
      refine ite2 (fun g1 => ?_) (fun g1 => ?_)
      · have g1' : kk = row := by
          have := of_decide_eq_true g1
          injection this with this
          omega
        refine ⟨_, rfl, _, rfl, u, _, rfl, .inl (sq_of (e2 _ _ hu)), rfl, flat_is _, _, rfl, ?_⟩
        show if (!inV (.int (c : Int)) (vI used)) = true then _ else _
        rw [in_is]
        refine ite2 (fun g2 => ?_) (fun g2 => ?_)
        · have g2' : c ∉ used := by simpa using g2
          have et : mostTurn (mostM pl k (row + 1)) row used F0 (kk, c) = max F0 (1 + mostM pl k (row + 1) (used ++ [c])) := by unfold mostTurn; rw [if_pos ⟨g1', g2'⟩]
          rw [et]
          refine ⟨_, rfl, _, rfl, _, rfl, _, rfl, _, _, rfl, rfl, _, rfl, _, rfl, (by show 1 ≤ sizeLine; decide), fun p3 hp3 => ?_⟩
          have x3 : Ex H2 (upd H2 p3 (.lst [.int (c : Int)])) := Ex.new hp3
          have hv3 : upd H2 p3 (.lst [.int (c : Int)]) p3 = some (.lst [.int (c : Int)]) := upd_same
          generalize upd H2 p3 (.lst [.int (c : Int)]) = H3 at x3 hv3 ⊢
          refine ⟨u, p3, _, _, rfl, rfl, x3 _ _ (e2 _ _ hu), hv3, (by rw [vI_len]; exact Nat.le_of_lt (small1000 (by show used.length + 1 ≤ 1000; omega))), fun p4 hp4 => ?_⟩
          have ev : vI used ++ [V.int (c : Int)] = vI (used ++ [c]) := by unfold vI; rw [List.map_append]; rfl
          rw [ev]
          have x4 : Ex H2 (upd H3 p4 (.lst (vI (used ++ [c])))) := x3.trans (Ex.new hp4)
          have hv4 : upd H3 p4 (.lst (vI (used ++ [c]))) p4 = some (.lst (vI (used ++ [c]))) := upd_same
          generalize upd H3 p4 (.lst (vI (used ++ [c]))) = H4 at x4 hv4 ⊢
          have e4 := e2.trans x4
          refine ⟨a, p4, tall, row + 1, rs, pl, used ++ [c], rfl, e4 _ _ ha, hp.up e4, p16, hv4, by simp; omega, by omega, by omega, by omega, fun H5 e5 => ?_⟩
          rw [hk']
          refine ⟨_, _, rfl, rfl, _, _, rfl, ?_⟩
          have emx : (if (1 : Int) + ((mostM pl k (row + 1) (used ++ [c]) : Nat) : Int) > (F0 : Int) then (1 : Int) + ((mostM pl k (row + 1) (used ++ [c]) : Nat) : Int) else (F0 : Int)) = ((max F0 (1 + mostM pl k (row + 1) (used ++ [c])) : Nat) : Int) := by
            split <;> omega
          refine ⟨some (.int (kk : Int)), some (.int (c : Int)), ?_, e4.trans e5⟩
          rw [← emx]
          rfl
        · rw [skip (fun z => g2 (by simpa using z.2))]
          exact ⟨_, _, rfl, e2⟩
      · rw [skip (fun z => g1 (by rw [z.1]; simp))]
        exact ⟨_, _, rfl, e2⟩
    · rintro σ H2 ⟨o5, o6, rfl, e2⟩
      rw [List.take_of_length_le (by rw [List.length_map, hp.len]; exact Nat.le_refl _)]
      exact ⟨_, rfl, q _ e2⟩
theorem most_all (F : Fun K "_law_most" "_law_most" (top 33) f fd) (T : Tx mg) (b : Binds K fd ["tall", "places", "row", "used"] []) (m : mg "_law_most" = some (.ref f)) : ∀ n, Cl P w K mg base "_law_most" n ["tall", "places", "row", "used"] (spMost n)
  | 0 => by
    have no : ∀ vs H Q E, ¬ spMost 0 vs H Q E := fun vs H Q E h => by
      obtain ⟨a, u, tall, row, rs, pl, used, rfl, _, _, _, _, _, h1, h2, h3, _⟩ := h
      omega
    exact ⟨f, fd, ⟨fun vs H Q E h => absurd h (no vs H Q E), fun A outer s H args us vs Q _ _ _ _ _ h => absurd h (no vs H Q _)⟩, b, F.kp, m⟩
  | n + 1 => ⟨f, fd, ok_law_most F T (most_all F T b m n), b, F.kp, m⟩
end
end B71

namespace B71
open PySem PySem.Spec PyProof.Rows L2 Evl RZ SrtO

section
variable {P : Program} {w : World} {K : PySem.W.Frag} {mg : Str → Option Value} {base : Heap} {f : Addr} {fd : FuncData}
theorem sc__law_lots : FnScope ["many", "found", "at", "lot"] ["many"] (defScope (top 34)) := ⟨rfl, rfl, rfl, by decide +kernel, rfl, by decide +kernel, by decide +kernel⟩
theorem ok_law_lots (F : Fun K "_law_lots" "_law_lots" (top 34) f fd) (T : Tx mg) : FnG P w K mg base 1 f fd ["many"] spLots := by
  have sc := sc__law_lots
  refine okG F sc (fun vs H Q E h => ?_) (fun cdv A outer s H vs Q gd0 hr h => ?_)
  · obtain ⟨a, rfl, _⟩ := h; rfl
  have gd := deeper_guards (env := envOfC "_law_lots" (defScope (top 34)) s.heap.objs.size f cdv) gd0
  obtain ⟨many, rfl, m4, q⟩ := h
  refine ⟨_, (pss_cons (ps_set (i := 1) sc.nd rfl (Or.inl rfl) (pe_lst (pa_cons (pe_lst pa_nil) pa_nil))) (pss_cons (ps_for PassesOwn.never rfl (pi_range1 rfl T.b_range (pa_cons (pv 0) pa_nil)) (pg_name (i := 2) sc.nd rfl (Or.inr rfl)) (pss_one (ps_set (i := 1) sc.nd rfl (Or.inl rfl) (pe_op op_cat (pv 1) (pe_lc (own := [("lot", 3)]) (g := (gName 3)) rfl sc.nd (pi_list (pv 1)) (blkOk_by (N := ["many", "found", "at", "lot"]) (sc := defScope (top 34)) (by decide +kernel)) (fun _ _ _ _ _ => (pg_name (i := 3) sc.nd rfl (Or.inl rfl))) (fun _ _ _ _ _ => pts_nil) (fun _ _ _ _ _ => (pe_op op_cat (pv 3) (pe_lst (pa_cons (pv 2) pa_nil))))))))) (pss_one (ps_ret (pv 1))))), ?_⟩
  refine ⟨Nat.zero_le _, fun p0 hp0 => ⟨(by show 1 ≤ sizeLine; decide), fun q0 hq0 => ?_⟩⟩
  have x1 : Ex H (upd H p0 (.lst [])) := Ex.new hp0
  have nqp : p0 ≠ q0 := fun z => by rw [← z, upd_same] at hq0; cases hq0
  refine ⟨_, rfl, (many : Int), rfl, by omega, by omega, ?_⟩
  rw [Int.toNat_natCast]
  refine for_range (fun i σ H' => ∃ (fa : Addr) (rs : List Addr) (o2 o3 : Option V), σ = [some (.int many), some (.ref fa), o2, o3] ∧ Ex H H' ∧ H fa = none ∧ H' fa = some (.lst (rs.map V.ref)) ∧ Paired (Ls H') rs (lots i))
    ⟨q0, [p0], _, _, rfl, x1.trans (Ex.new hq0), fresh_back x1 hq0, upd_same, .cons (by show upd _ q0 _ p0 = _; rw [upd_ne nqp, upd_same]; rfl) .nil⟩ ?_ ?_
  · rintro i σ H1 hi ⟨fa, rs, o2, o3, rfl, e1, hf0, hfa, hls⟩
    have lrs : rs.length = 2 ^ i := by rw [Paired.length hls, lots_len]
    have l16 : 2 ^ i ≤ 16 := Nat.pow_le_pow_right (n := 2) (by decide) (by omega : i ≤ 4)
    refine ⟨_, rfl, _, rfl, fa, rfl, ⟨_, sq_of hfa⟩, fun D hD => ?_⟩
    refine lc_list (K := K) (a := fa) (xs := rs.map V.ref) (fun j H' => Ex H1 H' ∧ ∃ rs2 : List Addr, H' D = some (.lst (rs2.map V.ref)) ∧ Paired (fun (r : Addr) (l : List Nat) => r ≠ D ∧ Ls H' r l) rs2 (((lots i).take j).map fun l => l ++ [i]))
      ⟨Ex.new hD, [], upd_same, .nil⟩ (fun j H' _ h => sq_of (h.1 _ _ hfa)) ?_ ?_
    · rintro j x H2 hx ⟨e2, rs2, hD2, hp2⟩
      obtain ⟨r, l, rfl, hl, hr1⟩ := ls_at (Ls.up hls e2) hx
      have hj : j < (lots i).length := (List.getElem?_eq_some_iff.mp hl).1
      have hll := lots_small i l (List.mem_of_getElem? hl)
      have htk : (lots i).take (j + 1) = (lots i).take j ++ [l] := by rw [List.take_add_one, hl]; rfl
      refine ⟨rfl, ?_⟩
      refine ⟨_, rfl, _, rfl, (by show 1 ≤ sizeLine; decide), fun p3 hp3 => ?_⟩
      have x3 : Ex H2 (upd H2 p3 (.lst [.int (0 + (i : Int))])) := Ex.new hp3
      have hv3 : upd H2 p3 (.lst [.int (0 + (i : Int))]) p3 = some (.lst [.int (0 + (i : Int))]) := upd_same
      refine ⟨r, p3, _, _, rfl, rfl, x3 _ _ hr1, hv3, (by rw [vI_len]; exact Nat.le_of_lt (small1000 (by show l.length + 1 ≤ 1000; omega))), fun p4 hp4 => ?_⟩
      generalize upd H2 p3 (.lst [.int (0 + (i : Int))]) = H3 at x3 hv3 hp4 ⊢
      have ev : vI l ++ [V.int (0 + (i : Int))] = vI (l ++ [i]) := by rw [Int.zero_add]; unfold vI; rw [List.map_append]; rfl
      rw [ev]
      have x4 : Ex H2 (upd H3 p4 (.lst (vI (l ++ [i])))) := x3.trans (Ex.new hp4)
      have hv4 : upd H3 p4 (.lst (vI (l ++ [i]))) p4 = some (.lst (vI (l ++ [i]))) := upd_same
      have n4 : p4 ≠ D := fun z => by have := x3 _ _ hD2; rw [← z, hp4] at this; cases this
      generalize upd H3 p4 (.lst (vI (l ++ [i]))) = H4 at x4 hv4 ⊢
      have lr2 : rs2.length ≤ 16 := by
        have := Paired.length hp2
        rw [List.length_map, List.length_take] at this
        have := lots_len i
        omega
      refine ⟨rs2.map V.ref, x4 _ _ hD2, (by rw [List.length_map]; exact small1000 (by omega)), (e2.trans x4).mut hD, rs2 ++ [p4], by rw [List.map_append]; exact upd_same, ?_⟩
      rw [htk, List.map_append]
      refine paired_snoc (Paired.mapP hp2 fun r l h => ⟨h.1, ?_⟩) ⟨n4, ?_⟩
      · show upd H4 D _ r = _
        rw [upd_ne h.1]; exact x4 _ _ h.2
      · show upd H4 D _ p4 = _
        rw [upd_ne n4]; exact hv4
    · rintro H2 ⟨e2, rs2, hD2, hp2⟩
      rw [List.length_map, Paired.length hls, List.take_length] at hp2
      have lr2 : rs2.length = 2 ^ i := by rw [Paired.length hp2, List.length_map, lots_len]
      refine ⟨fa, D, _, _, rfl, rfl, e2 _ _ hfa, hD2, (by rw [List.length_map, List.length_map]; exact Nat.le_of_lt (small1000 (by omega))), fun p5 hp5 => ?_⟩
      have x5 : Ex H1 (upd H2 p5 (.lst (rs.map V.ref ++ rs2.map V.ref))) := e2.trans (Ex.new hp5)
      refine ⟨p5, rs ++ rs2, _, _, rfl, e1.trans x5, fresh_back (e1.trans e2) hp5, by rw [List.map_append]; exact upd_same, ?_⟩
      show Paired _ _ (lots i ++ (lots i).map fun l => l ++ [i])
      exact paired_app (Ls.up hls x5) (Paired.mapP hp2 fun r l h => (Ex.new hp5) _ _ h.2)
  · rintro σ H1 ⟨fa, rs, o2, o3, rfl, e1, hf0, hfa, hls⟩
    exact ⟨_, rfl, q _ _ _ hf0 e1 hfa hls⟩
theorem sc__law_fewest : FnScope ["tall", "places", "found", "rows", "columns", "row", "column"] ["tall", "places"] (defScope (top 35)) := ⟨rfl, rfl, rfl, by decide +kernel, rfl, by decide +kernel, by decide +kernel⟩
theorem ok_law_fewest (F : Fun K "_law_fewest" "_law_fewest" (top 35) f fd) (T : Tx mg) (C__law_lots : Cl P w K mg base "_law_lots" 1 ["many"] spLots) : FnG P w K mg base 2 f fd ["tall", "places"] spFewest := by
  have sc := sc__law_fewest
  refine okG F sc (fun vs H Q E h => ?_) (fun cdv A outer s H vs Q gd0 hr h => ?_)
  · obtain ⟨a, tall, _, _, rfl, _⟩ := h; rfl
  have gd := deeper_guards (env := envOfC "_law_fewest" (defScope (top 35)) s.heap.objs.size f cdv) gd0
  obtain ⟨a, tall, rs, pl, rfl, ha, hp, p16, t4, q⟩ := h
  have hl := hp.len
  refine ⟨_, (pss_cons (ps_set (i := 2) sc.nd rfl (Or.inl rfl) pe_int) (pss_cons (ps_for PassesOwn.never rfl (pi_list (pe_cl C__law_lots gd (hr.mono (by first | decide | omega)) (pa_cons (pv 0) pa_nil))) (pg_name (i := 3) sc.nd rfl (Or.inr rfl)) (pss_cons (ps_set (i := 4) sc.nd rfl (Or.inl rfl) (pe_callTy (call_dictP rfl) rfl T.b_dict bt_dict (pa_cons (pe_lc (own := [("row", 5), ("column", 6)]) (g := (gTup K 2 (gCons (gName 5) (gCons (gName 6) gNil)))) rfl sc.nd (pi_list (pv 1)) (blkOk_by (N := ["tall", "places", "found", "rows", "columns", "row", "column"]) (sc := defScope (top 35)) (by decide +kernel)) (fun _ _ _ _ _ => (pg_tup rfl (pgs_cons (pg_name (i := 5) sc.nd rfl (Or.inl rfl)) (pgs_cons (pg_name (i := 6) sc.nd rfl (Or.inl rfl)) pgs_nil)))) (fun _ _ _ _ _ => (pts_one (pt_cmpR (show OpR _ _ (rIn K true) from op_notIn_seq) (pv 5) (pv 3) rfl))) (fun _ _ _ _ _ => (pe_tup (pa_cons (pv 6) (pa_cons pe_bl pa_nil))))) pa_nil))) (pss_one (ps_set (i := 2) sc.nd rfl (Or.inl rfl) (pe_callB (call_min2 rfl) rfl T.b_min bt_min (pa_cons (pv 2) (pa_cons (pe_op op_add (pe_callB call_len_seq rfl T.b_len bt_len (pa_cons (pv 3) pa_nil)) (pe_callB call_lenD rfl T.b_len bt_len (pa_cons (pv 4) pa_nil))) pa_nil))))))) (pss_one (ps_ret (pv 2))))), ?_⟩
  refine ⟨_, rfl, tall, rfl, t4, fun la lrs H1 hl0 e1 hla hls => ?_⟩
  refine ⟨la, rfl, ⟨_, sq_of hla⟩, for_list (K := K) (a := la) (xs := lrs.map V.ref) (fun i σ H' => ∃ (o3 o4 o5 o6 : Option V), σ = [some (.int tall), some (.ref a), some (.int ((((lots tall).take i).foldl (fun f rows => min f (rows.length + (offCols pl rows).length)) 99 : Nat) : Int)), o3, o4, o5, o6] ∧ Ex H1 H')
    ⟨_, _, _, _, rfl, Ex.refl _⟩ (fun i σ H' _ ⟨_, _, _, _, _, e⟩ => sq_of (e _ _ hla)) ?_ ?_⟩
  · rintro i x σ H2 hx ⟨o3, o4, o5, o6, rfl, e2⟩
    obtain ⟨r, l, rfl, hll, hr1⟩ := ls_at (Ls.up hls e2) hx
    have htk : (lots tall).take (i + 1) = (lots tall).take i ++ [l] := by rw [List.take_add_one, hll]; rfl
    rw [htk, List.foldl_append]
    generalize ((lots tall).take i).foldl (fun f rows => min f (rows.length + (offCols pl rows).length)) 99 = F0
    simp only [List.foldl_cons, List.foldl_nil]
    have e02 := e1.trans e2
    refine ⟨_, rfl, a, rfl, ⟨_, sq_of (e02 _ _ ha)⟩, fun D hD => ?_⟩
    refine lcW (walk_list (K := K) (a := a) (xs := rs.map V.ref)) pl (by simp [hl]) (by simp [hl]; omega) (fun p => decide (p.1 ∉ l)) (Tu fun (y : Nat × Nat) => [.int (y.2 : Nat), .bl true]) Stab.tu hD (fun H5 e5 => sq_of (e5 _ _ (e02 _ _ ha))) ?_ ?_
    · rintro j y x H4 H5 N Gt hy e4 ⟨rfl, hx⟩ kN kY
      obtain ⟨r', p, rfl, h1, h2⟩ := pts_at (hp.up (e02.trans e4)) hx
      cases h1.symm.trans hy
      refine ⟨Ex.refl _, ?_⟩
      refine ⟨r', _, rfl, st_of h2, rfl, _, _, rfl, _, _, rfl, rfl, rfl, ?_⟩
      refine ⟨_, rfl, _, rfl, r, _, rfl, .inl (sq_of (e4 _ _ hr1)), rfl, flat_is _, _, rfl, ?_⟩
      show if (!inV (.int (y.1 : Int)) (vI l)) = true then _ else _
      rw [in_is]
      refine ite2 (fun g => ?_) (fun g => ?_)
      · have g' : y.1 ∉ l := by simpa using g
        refine ⟨_, rfl, (by show 2 ≤ sizeLine; decide), fun r5 hr5 => ?_⟩
        exact kY (decide_eq_true g') _ _ (Ex.new hr5) ⟨r5, rfl, upd_same⟩
      · exact kN (by simpa using g) _ (Ex.refl _)
    · intro acc H4 e4 hD4 hacc
      obtain ⟨ps, rfl, lps, hps⟩ := tu_list hacc
      have pk := pairs_T (K := K) (g := fun y : Nat × Nat => y.2) hps
      refine ⟨D, ps, _, rfl, sq_of hD4, pk, fun dd hdd => ?_⟩
      have em : mergeK [] (kT ((pl.filter fun p => decide (p.1 ∉ l)).map fun y => y.2)) = kT (offCols pl l) := mergeT _ []
      rw [em]
      have x5 : Ex H4 (upd H4 dd (.dK (kT (offCols pl l)))) := Ex.new hdd
      have e5 := e2.trans (e4.trans x5)
      refine ⟨_, rfl, _, rfl, r, _, rfl, .inl (sq_of ((e4.trans x5) _ _ hr1)), _, rfl, dd, _, rfl, upd_same, _, _, rfl, rfl, _, _, rfl, ?_⟩
      have emn : (if (((vI l).length : Nat) : Int) + (((kT (offCols pl l)).length : Nat) : Int) < (F0 : Int) then (((vI l).length : Nat) : Int) + (((kT (offCols pl l)).length : Nat) : Int) else (F0 : Int)) = ((min F0 (l.length + (offCols pl l).length) : Nat) : Int) := by
        rw [vI_len, kT_len]
        split <;> omega
      refine ⟨some (.ref r), some (.ref dd), o5, o6, ?_, e5⟩
      rw [← emn]
      rfl
  · rintro σ H2 ⟨o3, o4, o5, o6, rfl, e2⟩
    rw [List.length_map, Paired.length hls, List.take_length]
    exact ⟨_, rfl, q _ (e1.trans e2)⟩
end
end B71

namespace B71
open PySem PySem.Spec PyProof.Rows L2 Evl RZ SrtO

theorem Pts.set {H : Hp} {b : Addr} {u o : HO} {rs : List Addr} {pl : Pl} (h : Pts H rs pl) (hb : H b = some u) (nu : ∀ xs, u ≠ .tup xs) : Pts (upd H b o) rs pl := Paired.mapP h fun r p q => by
  have q' : H r = some (.tup [.int (p.1 : Nat), .int (p.2 : Nat)]) := q
  have n : r ≠ b := fun z => by rw [z, hb] at q'; exact nu _ (Option.some.inj q')
  show upd H b o r = _
  rw [upd_ne n]
  exact q'
section
variable {P : Program} {w : World} {K : PySem.W.Frag} {mg : Str → Option Value} {base : Heap} {f : Addr} {fd : FuncData}
structure BdW (H : Hp) (p su b : Addr) (wide s1 s2 i : Nat) (rs : List Addr) (pl : Pl) (H' : Hp) : Prop where
  ex : ExB p H H'
  pot : Pot H' p
  sv : H' su = some (.tup [.int (s1 : Nat), .int (s2 : Nat)])
  bv : H' b = some (.lst (rs.map V.ref))
  pts : Pts H' rs pl
  so : pl.Pairwise lexlt
  inb : ∀ q ∈ pl, q.1 < i ∧ q.2 < wide
  has : s1 < i → (s1, s2) ∈ pl
  len : pl.length ≤ i * wide
theorem pot_ne {H : Hp} {p r : Addr} {xs : List V} (h : Pot H p) (hr : H r = some (.tup xs)) : r ≠ p := fun z => by
  obtain ⟨x, y, h1, _⟩ := h
  rw [z, h1] at hr
  cases hr
theorem Pts.pot {H H' : Hp} {p : Addr} {rs : List Addr} {pl : Pl} (h : Pts H rs pl) (hp : Pot H p) (e : ExB p H H') : Pts H' rs pl := by
  obtain ⟨x, y, h1, _⟩ := hp
  exact h.upB e h1 fun xs z => by cases z
theorem sc__law_board : FnScope ["pot", "most", "tall", "wide", "often", "sure", "places", "row", "column"] ["pot", "most"] (defScope (top 32)) := ⟨rfl, rfl, rfl, by decide +kernel, rfl, by decide +kernel, by decide +kernel⟩
theorem ok_law_board (F : Fun K "_law_board" "_law_board" (top 32) f fd) (T : Tx mg) (C__law_draw : Cl P w K mg base "_law_draw" 1 ["pot", "many"] spDraw) : FnG P w K mg base 2 f fd ["pot", "most"] spBoard := by
  have sc := sc__law_board
  refine okG F sc (fun vs H Q E h => ?_) (fun cdv A outer s H vs Q gd0 hr h => ?_)
  · obtain ⟨a, rfl, _⟩ := h; rfl
  have gd := deeper_guards (env := envOfC "_law_board" (defScope (top 32)) s.heap.objs.size f cdv) gd0
  obtain ⟨p, rfl, hpot, q⟩ := h
  refine ⟨_, (pss_cons (ps_asg (pe_tup (pa_cons (pe_op op_add pe_int (pe_cl C__law_draw gd (hr.mono (by first | decide | omega)) (pa_cons (pv 0) (pa_cons (pv 1) pa_nil)))) (pa_cons (pe_op op_add pe_int (pe_cl C__law_draw gd (hr.mono (by first | decide | omega)) (pa_cons (pv 0) (pa_cons (pv 1) pa_nil)))) (pa_cons (pe_op op_add pe_int (pe_cl C__law_draw gd (hr.mono (by first | decide | omega)) (pa_cons (pv 0) (pa_cons pe_int pa_nil)))) pa_nil)))) (pg_tup rfl (pgs_cons (pg_name (i := 2) sc.nd rfl (Or.inl rfl)) (pgs_cons (pg_name (i := 3) sc.nd rfl (Or.inl rfl)) (pgs_cons (pg_name (i := 4) sc.nd rfl (Or.inr rfl)) pgs_nil))))) (pss_cons (ps_set (i := 5) sc.nd rfl (Or.inr rfl) (pe_tup (pa_cons (pe_cl C__law_draw gd (hr.mono (by first | decide | omega)) (pa_cons (pv 0) (pa_cons (pv 2) pa_nil))) (pa_cons (pe_cl C__law_draw gd (hr.mono (by first | decide | omega)) (pa_cons (pv 0) (pa_cons (pv 3) pa_nil))) pa_nil)))) (pss_cons (ps_set (i := 6) sc.nd rfl (Or.inl rfl) (pe_lst pa_nil)) (pss_cons (ps_for PassesOwn.never rfl (pi_range1 rfl T.b_range (pa_cons (pv 2) pa_nil)) (pg_name (i := 7) sc.nd rfl (Or.inr rfl)) (pss_one (ps_expr (pe_bm PySem.F.plainAttrs_list PySem.F.slot_list_extend PySem.F.type_list_extend mt_extend (pv 6) (pa_cons (pe_lc (own := [("column", 8)]) (g := (gName 8)) rfl sc.nd (pi_range1 rfl T.b_range (pa_cons (pv 3) pa_nil)) (blkOk_by (N := ["pot", "most", "tall", "wide", "often", "sure", "places", "row", "column"]) (sc := defScope (top 32)) (by decide +kernel)) (fun _ _ _ _ _ => (pg_name (i := 8) sc.nd rfl (Or.inl rfl))) (fun _ _ _ _ _ => (pts_one (PW.pt (pw_or (pt_cmpR (show OpR _ _ (rEqD K) from (op_eqD hr.units)) (pe_tup (pa_cons (pv 7) (pa_cons (pv 8) pa_nil))) (pv 5) (nomark _)) (pw_or1 (pt_cmpR op_lt (pe_cl C__law_draw gd (hr.mono (by first | decide | omega)) (pa_cons (pv 0) (pa_cons pe_int pa_nil))) (pv 4) (nomark _))))))) (fun _ _ _ _ _ => (pe_tup (pa_cons (pv 7) (pa_cons (pv 8) pa_nil))))) pa_nil))))) (pss_one (ps_ret (pe_tup (pa_cons (pv 2) (pa_cons (pv 3) (pa_cons (pv 6) pa_nil)))))))))), ?_⟩
  refine ⟨_, rfl, _, rfl, p, 4, rfl, hpot, by decide, by decide, fun d1 H1 e1 hp1 hd1 => ?_⟩
  refine ⟨_, _, rfl, rfl, _, rfl, _, rfl, p, 4, rfl, hp1, by decide, by decide, fun d2 H2 e2 hp2 hd2 => ?_⟩
  refine ⟨_, _, rfl, rfl, _, rfl, p, 4, rfl, hp2, by decide, by decide, fun d3 H3 e3 hp3 hd3 => ?_⟩
  refine ⟨_, _, rfl, rfl, (by show 3 ≤ sizeLine; decide), fun tp htp => ?_⟩
  refine ⟨tp, _, rfl, st_of upd_same, rfl, _, _, rfl, _, _, rfl, _, _, rfl, rfl, ?_⟩
  have x4 := Ex.new (o := .tup [.int (1 + (d1 : Int)), .int (1 + (d2 : Int)), .int (1 + (d3 : Int))]) htp
  refine ⟨_, rfl, _, rfl, p, 1 + d1, rfl, hp3.up x4, by omega, by omega, fun s1 H5 e5 hp5 hs1 => ?_⟩
  refine ⟨_, rfl, _, rfl, p, 1 + d2, rfl, hp5, by omega, by omega, fun s2 H6 e6 hp6 hs2 => ?_⟩
  refine ⟨(by show 2 ≤ sizeLine; decide), fun su hsu => ?_⟩
  have x7 := Ex.new (o := .tup [.int (s1 : Int), .int (s2 : Int)]) hsu
  refine ⟨Nat.zero_le _, fun b hb => ?_⟩
  have x8 := Ex.new (o := .lst []) hb
  have e8 : ExB p H (upd (upd H6 su (.tup [.int (s1 : Int), .int (s2 : Int)])) b (.lst [])) := e1.trans (e2.trans (e3.trans ((ExB.of x4).trans (e5.trans (e6.trans (ExB.of (x7.trans x8)))))))
  have hp8 := hp6.up (x7.trans x8)
  have hs8 : upd (upd H6 su (.tup [.int (s1 : Int), .int (s2 : Int)])) b (.lst []) su = some (.tup [.int (s1 : Int), .int (s2 : Int)]) := x8 _ _ upd_same
  have hb8 : upd (upd H6 su (.tup [.int (s1 : Int), .int (s2 : Int)])) b (.lst []) b = some (.lst []) := upd_same
  have nbp : b ≠ p := fun z => by
    obtain ⟨x, y, h1, _⟩ := hp6.up x7
    rw [← z, hb] at h1; cases h1
  have hb0 : H b = none := (e1.trans (e2.trans (e3.trans ((ExB.of x4).trans (e5.trans (e6.trans (ExB.of x7))))))).fresh nbp hb
  generalize upd (upd H6 su (.tup [.int (s1 : Int), .int (s2 : Int)])) b (.lst []) = H8 at e8 hp8 hs8 hb8 ⊢
  have nsb : su ≠ b := fun z => by rw [z, hb8] at hs8; cases hs8
  refine ⟨_, rfl, ((1 + d1 : Nat) : Int), rfl, by omega, by omega, ?_⟩
  rw [Int.toNat_natCast]
  refine for_range (fun i σ H' => ∃ (rs : List Addr) (pl : Pl) (o7 : Option V), σ = [some (.ref p), some (.int 4), some (.int ((1 + d1 : Nat) : Int)), some (.int ((1 + d2 : Nat) : Int)), some (.int ((1 + d3 : Nat) : Int)), some (.ref su), some (.ref b), o7, none] ∧ BdW H p su b (1 + d2) s1 s2 i rs pl H')
    ⟨[], [], _, rfl, e8, hp8, hs8, hb8, .nil, .nil, fun q h => (nomatch h), fun h => absurd h (Nat.not_lt_zero _), Nat.zero_le _⟩ ?_ ?_
  · rintro i σ H9 hi ⟨rs, pl, o7, rfl, W⟩
    refine ⟨_, rfl, .inl ⟨rfl, _, SqL.of W.bv⟩, ?_⟩
    refine ⟨_, rfl, ((1 + d2 : Nat) : Int), rfl, by omega, by omega, fun D hD => ?_⟩
    rw [Int.toNat_natCast]
    have nDp : D ≠ p := fun z => by
      obtain ⟨x, y, h1, _⟩ := W.pot
      rw [← z, hD] at h1; cases h1
    have nDb : b ≠ D := fun z => by rw [← z, W.bv] at hD; cases hD
    refine lc_range (lo := 0) (n := 1 + d2) (fun j H' => ∃ (cs : List Nat) (rs2 : List Addr), ExB p H9 H' ∧ Pot H' p ∧ H' D = some (.lst (rs2.map V.ref)) ∧ Pts H' rs2 (cs.map fun c => (i, c)) ∧ cs.Pairwise (· < ·) ∧ (∀ c ∈ cs, c < j) ∧ (s1 = i → s2 < j → s2 ∈ cs) ∧ cs.length ≤ j)
      ⟨[], [], ExB.of (Ex.new hD), W.pot.up (Ex.new hD), upd_same, .nil, .nil, fun c h => (nomatch h), fun _ h => absurd h (Nat.not_lt_zero _), Nat.le_refl _⟩ ?_ ?_
    · rintro j Ha hj ⟨cs, rs2, ea, pa, hDa, hpa, so, lt, has, le⟩
      have j4 : j < 5 := by omega
      have keep : ∀ Hb, ExB p Ha Hb → Pot Hb p → ∀ r Hc, Hb r = none → Hc = upd Hb r (.tup [.int (0 + (i : Int)), .int (0 + (j : Int))]) → ∃ acc, Hc D = some (.lst acc) ∧ acc.length < sizeLine ∧ ∃ (cs : List Nat) (rs2 : List Addr), ExB p H9 (upd Hc D (.lst (acc ++ [.ref r]))) ∧ Pot (upd Hc D (.lst (acc ++ [.ref r]))) p ∧ upd Hc D (.lst (acc ++ [.ref r])) D = some (.lst (rs2.map V.ref)) ∧ Pts (upd Hc D (.lst (acc ++ [.ref r]))) rs2 (cs.map fun c => (i, c)) ∧ cs.Pairwise (· < ·) ∧ (∀ c ∈ cs, c < j + 1) ∧ (s1 = i → s2 < j + 1 → s2 ∈ cs) ∧ cs.length ≤ j + 1 := by
        rintro Hb eb pb r Hc hr rfl
        have xr := Ex.new (o := .tup [.int (0 + (i : Int)), .int (0 + (j : Int))]) hr
        have hDb := eb _ _ nDp hDa
        have hDc := xr _ _ hDb
        have nrD : r ≠ D := fun z => by rw [z, hDb] at hr; cases hr
        have lr : rs2.length ≤ 5 := by have := hpa.len; rw [List.length_map] at this; omega
        have pc := pb.up xr
        have hpc := (hpa.pot pa eb).up xr
        refine ⟨rs2.map V.ref, hDc, (by rw [List.length_map]; exact small1000 (by omega)), cs ++ [j], rs2 ++ [r], fun x u nx hx => ?_, pc.same (upd_ne nDp.symm), by rw [List.map_append]; exact upd_same, ?_, ?_, ?_, ?_, ?_⟩
        · rw [upd_ne (fun z => by rw [z, hD] at hx; cases hx)]
          exact xr _ _ (eb _ _ nx (ea _ _ nx hx))
        · rw [List.map_append]
          refine paired_snoc (hpc.set hDc fun xs z => by cases z) ?_
          show upd _ D _ r = _
          rw [upd_ne nrD, upd_same, Int.zero_add, Int.zero_add]
        · rw [List.pairwise_append]
          refine ⟨so, List.pairwise_singleton _ _, fun x hx y hy => ?_⟩
          have : y = j := by simpa using hy
          rw [this]
          exact lt x hx
        · intro c hc
          rcases List.mem_append.mp hc with hc | hc
          · have := lt c hc; omega
          · have : c = j := by simpa using hc
            omega
        · intro h1 h2
          by_cases h3 : s2 = j
          · simp [h3]
          · exact List.mem_append_left _ (has h1 (by omega))
        · simp; omega
      refine ⟨rfl, ?_⟩
      refine ⟨_, rfl, _, rfl, (by show 2 ≤ sizeLine; decide), fun tq htq => ?_⟩
      have xq := Ex.new (o := .tup [.int (0 + (i : Int)), .int (0 + (j : Int))]) htq
      have hq : upd Ha tq (.tup [.int (0 + (i : Int)), .int (0 + (j : Int))]) tq = some (.tup [.int (((i, j) : Nat × Nat).1 : Nat), .int (((i, j) : Nat × Nat).2 : Nat)]) := by rw [upd_same, Int.zero_add, Int.zero_add]
      have nsp : su ≠ p := pot_ne W.pot W.sv
      have hsa : upd Ha tq (.tup [.int (0 + (i : Int)), .int (0 + (j : Int))]) su = some (.tup [.int (((s1, s2) : Nat × Nat).1 : Nat), .int (((s1, s2) : Nat × Nat).2 : Nat)]) := xq _ _ (ea _ _ nsp W.sv)
      refine ⟨_, rfl, _, _, dp_p hq, dp_p hsa, p_sh _, p_sh _, _, rfl, ?_⟩
      rw [pD_eqv]
      refine ite2 (fun g => ?_) (fun g => ?_)
      · refine ⟨_, rfl, _, rfl, (by show 2 ≤ sizeLine; decide), fun r hr => ?_⟩
        exact keep _ (ExB.of xq) (pa.up xq) r _ hr rfl
      · have g' : ¬ ((i, j) : Nat × Nat) = (s1, s2) := by simpa using g
        refine ⟨_, rfl, p, 4, rfl, pa.up xq, by decide, by decide, fun d Hb eb pb hd => ⟨_, rfl, _, _, rfl, rfl, _, rfl, ?_⟩⟩
        have eab := (ExB.of xq).trans eb
        refine ite2 (fun g2 => ?_) (fun g2 => ?_)
        · refine ⟨_, rfl, _, rfl, (by show 2 ≤ sizeLine; decide), fun r hr => ?_⟩
          exact keep _ eab pb r _ hr rfl
        · refine ⟨cs, rs2, ea.trans eab, pb, eab _ _ nDp hDa, hpa.pot pa eab, so, fun c hc => by have := lt c hc; omega, fun h1 h2 => ?_, by omega⟩
          exact has h1 (by
            have : s2 ≠ j := fun z => g' (by rw [h1, z])
            omega)
    · rintro Ha ⟨cs, rs2, ea, pa, hDa, hpa, so, lt, has, le⟩
      refine ⟨b, D, _, _, rfl, rfl, ea _ _ nbp W.bv, hDa, ?_, ?_⟩
      · rw [List.length_map, List.length_map, W.pts.len, hpa.len, List.length_map]
        have h1 := W.len
        have h2 : i * (1 + d2) ≤ 4 * 4 := Nat.mul_le_mul (by omega) (by omega)
        exact Nat.le_of_lt (small1000 (by omega))
      · have nbp' := nbp
        have hba := ea _ _ nbp W.bv
        refine ⟨rs ++ rs2, pl ++ cs.map (fun c => (i, c)), _, rfl, fun x u nx hx => ?_, pa.same (upd_ne nbp.symm), ?_, by rw [List.map_append]; exact upd_same, ?_, ?_, ?_, ?_, ?_⟩
        · rw [upd_ne (fun z => by rw [z, hb0] at hx; cases hx)]
          exact ea _ _ nx (W.ex _ _ nx hx)
        · rw [upd_ne nsb]
          exact ea _ _ (pot_ne W.pot W.sv) W.sv
        · exact paired_app ((W.pts.pot W.pot ea).set hba fun xs z => by cases z) (hpa.set hba fun xs z => by cases z)
        · rw [List.pairwise_append]
          refine ⟨W.so, List.pairwise_map.mpr (so.imp fun {a b} h => .inr ⟨rfl, h⟩), fun x hx y hy => ?_⟩
          obtain ⟨c, _, rfl⟩ := List.mem_map.mp hy
          exact .inl (W.inb x hx).1
        · intro z hz
          rcases List.mem_append.mp hz with hz | hz
          · have := W.inb z hz; omega
          · obtain ⟨c, hc, rfl⟩ := List.mem_map.mp hz
            exact ⟨Nat.lt_succ_self _, lt c hc⟩
        · intro h1
          by_cases h2 : s1 = i
          · refine List.mem_append_right _ (List.mem_map.mpr ⟨s2, has h2 hs2, by rw [h2]⟩)
          · exact List.mem_append_left _ (W.has (by omega))
        · rw [List.length_append, List.length_map, Nat.succ_mul]
          have := W.len
          omega
  · rintro σ H9 ⟨rs, pl, o7, rfl, W⟩
    refine ⟨_, rfl, _, rfl, _, rfl, (by show 3 ≤ sizeLine; decide), fun t ht => ?_⟩
    have xt := Ex.new (o := .tup [.int ((1 + d1 : Nat) : Int), .int ((1 + d2 : Nat) : Int), .ref b]) ht
    have ntp : t ≠ p := fun z => by
      obtain ⟨x, y, h1, _⟩ := W.pot
      rw [← z, ht] at h1; cases h1
    have hmem := W.has hs1
    refine q t b (1 + d1) (1 + d2) rs pl _ (W.ex.trans (ExB.of xt)) (W.pot.up xt) (W.ex.fresh ntp ht) hb0 upd_same (xt _ _ W.bv) (W.pts.up xt) ⟨by omega, by omega, by omega, by omega, List.length_pos_iff.mpr (fun z => by rw [z] at hmem; cases hmem), ?_, W.so, W.inb⟩
    have h1 := W.len
    have h2 : (1 + d1) * (1 + d2) ≤ 4 * 4 := Nat.mul_le_mul (by omega) (by omega)
    omega
end
end B71

namespace B71
open PySem PySem.Spec PyProof.Rows L2 Evl RZ SrtO

/-- what is known of the rooks told -/
structure RkF (pl : Pl) (tall : Nat) (M' : Pl) : Prop where
  sub : ∀ p ∈ M', p ∈ pl
  n1 : (M'.map (·.1)).Nodup
  n2 : (M'.map (·.2)).Nodup
  len : M'.length = (seatsOf pl tall).length
  l4 : M'.length ≤ 4
theorem flip_fst (l : List (Nat × Nat)) : (flip l).map (·.1) = l.map (·.2) := by unfold flip; rw [List.map_map]; rfl
theorem flip_snd (l : List (Nat × Nat)) : (flip l).map (·.2) = l.map (·.1) := by unfold flip; rw [List.map_map]; rfl
theorem Rk.f {pl M' : Pl} {tall : Nat} (h : Rk pl tall M') (z : Sz pl tall) : RkF pl tall M' := by
  obtain ⟨D, S⟩ := seated z.h4 tall
  have hl := h.pm.length_eq
  rw [flip_len] at hl
  refine ⟨fun p hp => ?_, ?_, ?_, hl, by rw [hl]; exact mat_len z.h4 S.mat⟩
  · obtain ⟨r, c⟩ := p
    exact S.mat.on c r (mem_flip.mp (h.pm.mem_iff.mp hp))
  · refine (h.pm.map (·.1)).nodup_iff.mpr ?_
    rw [flip_fst]
    exact S.mat.rows
  · refine (h.pm.map (·.2)).nodup_iff.mpr ?_
    rw [flip_snd]
    exact S.mat.cols
def spRooksRight : Sp := fun vs H Q _ => ∃ (a v : Addr) (tall wide due : Nat) (rs vr : List Addr) (pl M' : Pl), vs = [.int tall, .int wide, .ref a, .ref v, .int due] ∧ H a = some (.lst (rs.map V.ref)) ∧ Pts H rs pl ∧ Bd tall wide pl ∧
  H v = some (.lst (vr.map V.ref)) ∧ Pts H vr M' ∧ Rk pl tall M' ∧ due = M'.length ∧ 1 ≤ due ∧ RetV (.bl true) H Q
theorem Pts.drop {H : Hp} : ∀ {rs : List Addr} {pl : Pl} (n : Nat), Pts H rs pl → Pts H (rs.drop n) (pl.drop n)
  | _, _, 0, h => h
  | _, _, n + 1, .nil => .nil
  | _, _, n + 1, .cons _ t => Pts.drop n t
section
variable {P : Program} {w : World} {K : PySem.W.Frag} {mg : Str → Option Value} {base : Heap} {f : Addr} {fd : FuncData}
theorem sc__law_rooks_right : FnScope ["tall", "wide", "places", "told", "due", "one", "row", "column"] ["tall", "wide", "places", "told", "due"] (defScope (top 36)) := ⟨rfl, rfl, rfl, by decide +kernel, rfl, by decide +kernel, by decide +kernel⟩
theorem ok_rooks_right (F : Fun K "_law_rooks_right" "_law_rooks_right" (top 36) f fd) (T : Tx mg) (C_is_rooks : Cl P w K mg base "is_rooks" 9 ["tall", "wide", "places", "value"] spIsRooks) : FnG P w K mg base 10 f fd ["tall", "wide", "places", "told", "due"] spRooksRight := by
  have sc := sc__law_rooks_right
  refine okG F sc (fun vs H Q E h => ?_) (fun cdv A outer s H vs Q gd0 hr h => ?_)
  · obtain ⟨_, _, _, _, _, _, _, _, _, rfl, _⟩ := h; rfl
  have gd := deeper_guards (env := envOfC "_law_rooks_right" (defScope (top 36)) s.heap.objs.size f cdv) gd0
  obtain ⟨a, v, tall, wide, due, rs, vr, pl, M', rfl, ha, hp, hb, hv, hM, hk, rfl, h1, q⟩ := h
  have kf := hk.f hb.sz
  have m4 := kf.l4
  have lv := hM.len
  refine ⟨_, (pss_cons (ps_if (PW.pt (pw_or (pt_not (pt_val (pe_callB call_isi rfl T.b_isinstance bt_isinstance (pa_cons (pv 3) (pa_cons (pe_bltn (v := .ty "list") rfl T.b_list bt_list rfl) pa_nil))))) (pw_or1 (pt_not (pt_val (pe_callB (cr_all rfl) rfl T.b_all bt_all (pa_cons (pe_lc (own := [("one", 5)]) (g := (gName 5)) rfl sc.nd (pi_list (pv 3)) (blkOk_by (N := ["tall", "wide", "places", "told", "due", "one", "row", "column"]) (sc := defScope (top 36)) (by decide +kernel)) (fun _ _ _ _ _ => (pg_name (i := 5) sc.nd rfl (Or.inl rfl))) (fun _ _ _ _ _ => pts_nil) (fun _ _ _ _ _ => (pe_and (pe_callB (show CallR _ _ (rIsi K) from call_isi) rfl T.b_isinstance bt_isinstance (pa_cons (pv 5) (pa_cons (pe_bltn (v := .ty "tuple") rfl T.b_tuple bt_tuple rfl) pa_nil))) (pe_one (pe_cmpR (show OpR _ _ (rInD K) from (op_inD (u65 hr))) (pv 5) (pv 2) rfl))))) pa_nil))))))) (pss_one (ps_ret pe_bl)) pss_nil) (pss_cons (ps_if (PW.pt (pw_or (pt_cmpR op_ne (pe_callB call_len_seq rfl T.b_len bt_len (pa_cons (pv 3) pa_nil)) (pv 4) (nomark _)) (pw_or (pt_cmpR (op_neD hr.units) (pv 3) (pe_callB cr_sortedPO rfl T.b_sorted bt_sorted (pa_cons (pv 3) pa_nil)) (nomark _)) (pw_or1 (pt_cmpR op_ne (pe_callB (call_reprD gd hr.units) rfl T.b_repr bt_repr (pa_cons (pv 3) pa_nil)) (pe_callB (call_reprD gd hr.units) rfl T.b_repr bt_repr (pa_cons (pe_lc (own := [("row", 6), ("column", 7)]) (g := (gTup K 2 (gCons (gName 6) (gCons (gName 7) gNil)))) rfl sc.nd (pi_list (pv 3)) (blkOk_by (N := ["tall", "wide", "places", "told", "due", "one", "row", "column"]) (sc := defScope (top 36)) (by decide +kernel)) (fun _ _ _ _ _ => (pg_tup rfl (pgs_cons (pg_name (i := 6) sc.nd rfl (Or.inl rfl)) (pgs_cons (pg_name (i := 7) sc.nd rfl (Or.inl rfl)) pgs_nil)))) (fun _ _ _ _ _ => pts_nil) (fun _ _ _ _ _ => (pe_tup (pa_cons (pe_callTy call_int1 rfl T.b_int bt_int (pa_cons (pv 6) pa_nil)) (pa_cons (pe_callTy call_int1 rfl T.b_int bt_int (pa_cons (pv 7) pa_nil)) pa_nil))))) pa_nil)) (nomark _)))))) (pss_one (ps_ret pe_bl)) pss_nil) (pss_cons (ps_if (PW.pt (pw_or (pt_cmpR op_ne (pe_callB call_lenD rfl T.b_len bt_len (pa_cons (pe_callTy (call_dictP rfl) rfl T.b_dict bt_dict (pa_cons (pe_lc (own := [("row", 6), ("column", 7)]) (g := (gTup K 2 (gCons (gName 6) (gCons (gName 7) gNil)))) rfl sc.nd (pi_list (pv 3)) (blkOk_by (N := ["tall", "wide", "places", "told", "due", "one", "row", "column"]) (sc := defScope (top 36)) (by decide +kernel)) (fun _ _ _ _ _ => (pg_tup rfl (pgs_cons (pg_name (i := 6) sc.nd rfl (Or.inl rfl)) (pgs_cons (pg_name (i := 7) sc.nd rfl (Or.inl rfl)) pgs_nil)))) (fun _ _ _ _ _ => pts_nil) (fun _ _ _ _ _ => (pe_tup (pa_cons (pv 6) (pa_cons pe_bl pa_nil))))) pa_nil)) pa_nil)) (pv 4) (nomark _)) (pw_or1 (pt_cmpR op_ne (pe_callB call_lenD rfl T.b_len bt_len (pa_cons (pe_callTy (call_dictP rfl) rfl T.b_dict bt_dict (pa_cons (pe_lc (own := [("row", 6), ("column", 7)]) (g := (gTup K 2 (gCons (gName 6) (gCons (gName 7) gNil)))) rfl sc.nd (pi_list (pv 3)) (blkOk_by (N := ["tall", "wide", "places", "told", "due", "one", "row", "column"]) (sc := defScope (top 36)) (by decide +kernel)) (fun _ _ _ _ _ => (pg_tup rfl (pgs_cons (pg_name (i := 6) sc.nd rfl (Or.inl rfl)) (pgs_cons (pg_name (i := 7) sc.nd rfl (Or.inl rfl)) pgs_nil)))) (fun _ _ _ _ _ => pts_nil) (fun _ _ _ _ _ => (pe_tup (pa_cons (pv 7) (pa_cons pe_bl pa_nil))))) pa_nil)) pa_nil)) (pv 4) (nomark _))))) (pss_one (ps_ret pe_bl)) pss_nil) (pss_one (ps_ret (pe_and (pe_cmpR op_isBl (pe_cl C_is_rooks gd (hr.mono (by first | decide | omega)) (pa_cons (pv 0) (pa_cons (pv 1) (pa_cons (pv 2) (pa_cons (pv 3) pa_nil))))) pe_bl (nomark _)) (pe_one (pe_cmpR op_isBl (pe_cl C_is_rooks gd (hr.mono (by first | decide | omega)) (pa_cons (pv 0) (pa_cons (pv 1) (pa_cons (pv 2) (pa_cons (pe_slice sl_list (pv 3) (po_some pe_int) po_none) pa_nil))))) pe_bl (nomark _))))))))), ?_⟩
  refine ⟨_, rfl, _, _, _, _, _, rfl, .ty "list", .base (.lst hv), kt_list_list, _, rfl, ?_⟩
  refine ⟨_, rfl, v, rfl, ⟨_, sq_of hv⟩, fun D hD => ?_⟩
  refine lcW (walk_list (K := K) (a := v) (xs := vr.map V.ref)) M' (by simp [lv]) (by simp [lv]; omega) (fun _ => true) (fun (y : Nat × Nat) v _ => v = .bl ((fun y => pl.any fun z => decide (z = y)) y)) Stab.bl hD (fun H5 e5 => sq_of (e5 _ _ hv)) ?_ ?_
  · rintro i y x H4 H5 N Gt hy e4 ⟨rfl, hx⟩ _ k
    obtain ⟨r, p, rfl, h1, h2⟩ := pts_at (hM.up e4) hx
    cases h1.symm.trans hy
    refine ⟨Ex.refl _, rfl, ?_⟩
    refine ⟨_, rfl, _, _, _, _, _, rfl, .ty "tuple", .base (.tup h2), kt_tuple_tuple, _, rfl, ?_⟩
    refine ⟨_, rfl, _, rfl, _, _, dp_p h2, dp_pl (e4 _ _ ha) (hp.up e4), p_sh _, ps_sh _, ?_⟩
    refine k rfl _ _ (Ex.refl _) ?_
    rw [List.any_map]
    congr 2
    funext z
    exact pD_eqv z y
  intro acc H1 e1 hD1 hacc
  rw [filter_yes] at hacc
  have hac := paired_bl hacc
  refine ⟨D, _, rfl, sq_of (hac ▸ hD1), _, rfl, ?_⟩
  rw [all_true (fun b hb' => by obtain ⟨y, hy, rfl⟩ := List.mem_map.mp hb'; exact List.any_eq_true.mpr ⟨y, kf.sub y hy, decide_eq_true rfl⟩)]
  -- len(told) != due
  refine ⟨_, rfl, v, _, rfl, .inl (sq_of (e1 _ _ hv)), _, rfl, rfl, _, rfl, ?_⟩
  have ed : (!decide (V.int (((vr.map V.ref).length : Nat) : Int) = V.int ((M'.length : Nat) : Int))) = false := by rw [List.length_map, lv, decide_eq_true rfl]; rfl
  rw [ed]
  -- told != sorted(told)
  have hM1 := hM.up e1
  refine ⟨_, rfl, _, rfl, v, _, kOf H1, rfl, sq_of (e1 _ _ hv), sort_ok hM1, fun ys p2 hsr hst hp2 => ?_⟩
  obtain ⟨rs2, M2, rfl, hM2, pm2, so2⟩ := sort_is hM1 hsr hst
  have em := srt_uniq pm2 so2 hk.so
  subst em
  have x2 := Ex.new (o := .lst (rs2.map V.ref)) hp2
  have e2 := e1.trans x2
  refine ⟨_, _, dp_pl (e2 _ _ hv) (hM.up e2), dp_pl upd_same (hM2.up x2), ps_sh _, ps_sh _, _, rfl, ?_⟩
  rw [ps_eqv, decide_eq_true rfl]
  -- repr(told) != repr([..])
  have ro : Ro (.list (M2.map pD)) := ro_list (fun p hp => by have := hb.inb p (kf.sub p hp); have := hb.t4; have := hb.w4; exact rp_p (by omega) (by omega)) (by omega)
  generalize upd H1 p2 (.lst (rs2.map V.ref)) = H2 at x2 e2 ⊢
  refine ⟨_, rfl, v, _, rfl, dp_pl (e2 _ _ hv) (hM.up e2), ro.sh, ro.nd, ro.dp, ro.ln, ?_⟩
  refine ⟨_, rfl, v, rfl, ⟨_, sq_of (e2 _ _ hv)⟩, fun D3 hD3 => ?_⟩
  refine lcW (walk_list (K := K) (a := v) (xs := vr.map V.ref)) M2 (by simp [lv]) (by simp [lv]; omega) (fun _ => true) (Tu fun (y : Nat × Nat) => [.int (y.1 : Nat), .int (y.2 : Nat)]) Stab.tu hD3 (fun H5 e5 => sq_of (e5 _ _ (e2 _ _ hv))) ?_ ?_
  · rintro i y x H4 H5 N Gt hy e4 ⟨rfl, hx⟩ _ k
    obtain ⟨r, p, rfl, h1, h2⟩ := pts_at (hM.up (e2.trans e4)) hx
    cases h1.symm.trans hy
    refine ⟨Ex.refl _, ?_⟩
    refine ⟨r, _, rfl, st_of h2, rfl, _, _, rfl, _, _, rfl, rfl, rfl, ?_⟩
    refine ⟨_, rfl, .inl ⟨_, rfl, _, rfl, .inl ⟨_, rfl, (by show 2 ≤ sizeLine; decide), fun r5 hr5 => ?_⟩⟩⟩
    exact k rfl _ _ (Ex.new hr5) ⟨r5, rfl, upd_same⟩
  intro acc3 H3 e3 hD3' hacc3
  rw [filter_yes] at hacc3
  obtain ⟨ps3, rfl, lps3, hps3⟩ := tu_list hacc3
  refine ⟨D3, _, rfl, dp_pl hD3' hps3, ro.sh, ro.nd, ro.dp, ro.ln, rfl, _, rfl, ?_⟩
  rw [decide_eq_true rfl]
  have e03 := e2.trans e3
  -- len(dict(..)) != due, twice
  refine ⟨_, rfl, v, rfl, ⟨_, sq_of (e03 _ _ hv)⟩, fun D4 hD4 => ?_⟩
  refine lcW (walk_list (K := K) (a := v) (xs := vr.map V.ref)) M2 (by simp [lv]) (by simp [lv]; omega) (fun _ => true) (Tu fun (y : Nat × Nat) => [.int (y.1 : Nat), .bl true]) Stab.tu hD4 (fun H5 e5 => sq_of (e5 _ _ (e03 _ _ hv))) ?_ ?_
  · rintro i y x H4 H5 N Gt hy e4 ⟨rfl, hx⟩ _ k
    obtain ⟨r, p, rfl, h1, h2⟩ := pts_at (hM.up (e03.trans e4)) hx
    cases h1.symm.trans hy
    refine ⟨Ex.refl _, ?_⟩
    refine ⟨r, _, rfl, st_of h2, rfl, _, _, rfl, _, _, rfl, rfl, rfl, ?_⟩
    refine ⟨_, rfl, (by show 2 ≤ sizeLine; decide), fun r5 hr5 => ?_⟩
    exact k rfl _ _ (Ex.new hr5) ⟨r5, rfl, upd_same⟩
  intro acc4 H4 e4 hD4' hacc4
  rw [filter_yes] at hacc4
  obtain ⟨ps4, rfl, lps4, hps4⟩ := tu_list hacc4
  refine ⟨D4, ps4, _, rfl, sq_of hD4', pairs_T (K := K) (g := fun y : Nat × Nat => y.1) hps4, fun dd hdd => ?_⟩
  rw [mergeT_nd kf.n1]
  have x5 := Ex.new (o := .dK (kT (M2.map fun y => y.1))) hdd
  refine ⟨dd, _, rfl, upd_same, _, rfl, rfl, _, rfl, ?_⟩
  rw [kT_len, List.length_map, decide_eq_true rfl]
  have e05 := e03.trans (e4.trans x5)
  generalize upd H4 dd (.dK (kT (M2.map fun y => y.1))) = H5 at x5 e05 ⊢
  refine ⟨_, rfl, v, rfl, ⟨_, sq_of (e05 _ _ hv)⟩, fun D6 hD6 => ?_⟩
  refine lcW (walk_list (K := K) (a := v) (xs := vr.map V.ref)) M2 (by simp [lv]) (by simp [lv]; omega) (fun _ => true) (Tu fun (y : Nat × Nat) => [.int (y.2 : Nat), .bl true]) Stab.tu hD6 (fun H5 e5 => sq_of (e5 _ _ (e05 _ _ hv))) ?_ ?_
  · rintro i y x H4 H5 N Gt hy e4 ⟨rfl, hx⟩ _ k
    obtain ⟨r, p, rfl, h1, h2⟩ := pts_at (hM.up (e05.trans e4)) hx
    cases h1.symm.trans hy
    refine ⟨Ex.refl _, ?_⟩
    refine ⟨r, _, rfl, st_of h2, rfl, _, _, rfl, _, _, rfl, rfl, rfl, ?_⟩
    refine ⟨_, rfl, (by show 2 ≤ sizeLine; decide), fun r5 hr5 => ?_⟩
    exact k rfl _ _ (Ex.new hr5) ⟨r5, rfl, upd_same⟩
  intro acc6 H6 e6 hD6' hacc6
  rw [filter_yes] at hacc6
  obtain ⟨ps6, rfl, lps6, hps6⟩ := tu_list hacc6
  refine ⟨D6, ps6, _, rfl, sq_of hD6', pairs_T (K := K) (g := fun y : Nat × Nat => y.2) hps6, fun d7 hd7 => ?_⟩
  rw [mergeT_nd kf.n2]
  have x7 := Ex.new (o := .dK (kT (M2.map fun y => y.2))) hd7
  refine ⟨d7, _, rfl, upd_same, _, rfl, rfl, _, rfl, ?_⟩
  rw [kT_len, List.length_map, decide_eq_true rfl]
  have e07 := e05.trans (e6.trans x7)
  generalize upd H6 d7 (.dK (kT (M2.map fun y => y.2))) = H7 at x7 e07 ⊢
  -- is_rooks, twice
  refine ⟨_, rfl, _, rfl, _, rfl, _, rfl, a, v, tall, wide, rs, vr, pl, M2, rfl, .inl (e07 _ _ ha), hp.up e07, hb, e07 _ _ hv, hM.up e07, by omega, kf.n1, kf.n2, kf.sub, fun H8 e8 => ?_⟩
  rw [decide_eq_true kf.len]
  refine ⟨true, true, rfl, rfl, _, rfl, ?_⟩
  have e08 := e07.trans e8
  refine ⟨_, rfl, _, rfl, _, rfl, _, rfl, _, rfl, v, _, rfl, sq_of (e08 _ _ hv), fun p9 hp9 => ?_⟩
  rw [cut1, ← List.map_drop]
  have x9 := Ex.new (o := .lst ((vr.drop 1).map V.ref)) hp9
  have e09 := e08.trans x9
  refine ⟨a, p9, tall, wide, rs, vr.drop 1, pl, M2.drop 1, rfl, .inl (e09 _ _ ha), hp.up e09, hb, upd_same, (hM.up e09).drop 1, by simp; omega, by rw [List.map_drop]; exact kf.n1.sublist (List.drop_sublist _ _), by rw [List.map_drop]; exact kf.n2.sublist (List.drop_sublist _ _), fun p hp' => kf.sub p (List.mem_of_mem_drop hp'), fun H10 e10 => ?_⟩
  rw [decide_eq_false (by rw [List.length_drop, ← kf.len]; omega)]
  exact ⟨false, false, rfl, rfl, q _ (e09.trans e10)⟩
end
end B71

namespace B71
open PySem PySem.Spec PyProof.Rows L2 Evl RZ SrtO

theorem filter_range {C : List Nat} {wide : Nat} (so : C.Pairwise (· ≤ ·)) (nd : C.Nodup) (lt : ∀ c ∈ C, c < wide) : (List.range wide).filter (fun c => decide (c ∈ C)) = C := by
  have st : ∀ {l : List Nat}, l.Pairwise (· < ·) → (l.map fun c => ((0 : Nat), c)).Pairwise fun p q => ¬ lexlt q p := fun h => List.pairwise_map.mpr (h.imp fun {a b} h => by unfold lexlt; simp; omega)
  have h1 : ((List.range wide).filter fun c => decide (c ∈ C)).Pairwise (· < ·) := List.Pairwise.sublist List.filter_sublist List.pairwise_lt_range
  have h2 : C.Pairwise (· < ·) := by
    refine (List.pairwise_and_iff.mpr ⟨so, nd⟩).imp fun {a b} h => ?_
    have := h.1
    have := h.2
    omega
  have hp : ((List.range wide).filter fun c => decide (c ∈ C)).Perm C := by
    refine (List.perm_ext_iff_of_nodup (h1.imp fun {a b} h => Nat.ne_of_lt h) nd).mpr fun x => ?_
    rw [List.mem_filter, List.mem_range]
    exact ⟨fun h => of_decide_eq_true h.2, fun h => ⟨lt x h, decide_eq_true h⟩⟩
  have e := srt_uniq (hp.map fun c => ((0 : Nat), c)) (st h1) (st h2)
  have e2 := congrArg (List.map Prod.snd) e
  rw [List.map_map, List.map_map] at e2
  have idm : ∀ l : List Nat, l.map (Prod.snd ∘ fun c => ((0 : Nat), c)) = l := fun l => (List.map_congr_left fun _ _ => rfl).trans (List.map_id l)
  rw [idm, idm] at e2
  exact e2
structure CvF (pl : Pl) (tall wide : Nat) (R C : List Nat) : Prop where
  rr : (List.range tall).filter (fun c => decide (c ∈ R)) = R
  cc : (List.range wide).filter (fun c => decide (c ∈ C)) = C
  nR : R.Nodup
  nC : C.Nodup
  lR : ∀ r ∈ R, r < tall
  lC : ∀ c ∈ C, c < wide
  size : R.length + C.length = (seatsOf pl tall).length
  cov : covB pl R C = true
theorem Cv.f {pl : Pl} {tall wide : Nat} {R C : List Nat} (h : Cv pl tall R C) (b : Bd tall wide pl) : CvF pl tall wide R C := by
  have lC : ∀ c ∈ C, c < wide := fun c hc => by
    obtain ⟨r, hr⟩ := h.use c hc
    exact (b.inb _ hr).2
  have lR : ∀ r ∈ R, r < tall := fun r hr => by
    rw [h.r] at hr
    exact List.mem_range.mp (List.mem_filter.mp hr).1
  have sR : R.Pairwise (· < ·) := by rw [h.r]; exact List.Pairwise.sublist List.filter_sublist List.pairwise_lt_range
  refine ⟨filter_range (sR.imp fun {a b} h => Nat.le_of_lt h) (sR.imp fun {a b} h => Nat.ne_of_lt h) lR, filter_range h.so h.nd lC, sR.imp fun {a b} h => Nat.ne_of_lt h, h.nd, lR, lC, h.opt.size, List.all_eq_true.mpr fun p hp => ?_⟩
  rcases h.opt.cov p.1 p.2 hp with q | q
  · simp [q]
  · simp [q]
def spCoverRight : Sp := fun vs H Q _ => ∃ (a v x y : Addr) (tall wide due : Nat) (rs : List Addr) (pl : Pl) (R C : List Nat), vs = [.int tall, .int wide, .ref a, .ref v, .int due] ∧ H a = some (.lst (rs.map V.ref)) ∧ Pts H rs pl ∧ Bd tall wide pl ∧
  H v = some (.tup [.ref x, .ref y]) ∧ H x = some (.lst (vI R)) ∧ H y = some (.lst (vI C)) ∧ Cv pl tall R C ∧ due = (seatsOf pl tall).length ∧ 1 ≤ due ∧ RetV (.bl true) H Q
section
variable {P : Program} {w : World} {K : PySem.W.Frag} {mg : Str → Option Value} {base : Heap} {f : Addr} {fd : FuncData}
theorem sc__law_cover_right : FnScope ["tall", "wide", "places", "told", "due", "rows", "columns", "less", "lines", "row", "column"] ["tall", "wide", "places", "told", "due"] (defScope (top 37)) := ⟨rfl, rfl, rfl, by decide +kernel, rfl, by decide +kernel, by decide +kernel⟩
theorem ok_cover_right (F : Fun K "_law_cover_right" "_law_cover_right" (top 37) f fd) (T : Tx mg) (C_is_cover : Cl P w K mg base "is_cover" 9 ["tall", "wide", "places", "value"] spIsCover) : FnG P w K mg base 10 f fd ["tall", "wide", "places", "told", "due"] spCoverRight := by
  have sc := sc__law_cover_right
  refine okG F sc (fun vs H Q E h => ?_) (fun cdv A outer s H vs Q gd0 hr h => ?_)
  · obtain ⟨_, _, _, _, _, _, _, _, _, _, _, rfl, _⟩ := h; rfl
  have gd := deeper_guards (env := envOfC "_law_cover_right" (defScope (top 37)) s.heap.objs.size f cdv) gd0
  obtain ⟨a, v, x, y, tall, wide, due, rs, pl, R, C, rfl, ha, hp, hb, hv, hx, hy, hk, rfl, h1, q⟩ := h
  have kf := hk.f hb
  have t4 := hb.t4
  have w4 := hb.w4
  have l1 := nd_lt kf.nR kf.lR
  have l2 := nd_lt kf.nC kf.lC
  have p16 := hb.p16
  have hl := hp.len
  refine ⟨_, (pss_cons (ps_if (PW.pt (pw_or (pt_not (pt_val (pe_callB call_isi rfl T.b_isinstance bt_isinstance (pa_cons (pv 3) (pa_cons (pe_bltn (v := .ty "tuple") rfl T.b_tuple bt_tuple rfl) pa_nil))))) (pw_or (pt_cmpR op_ne (pe_callB call_len_seq rfl T.b_len bt_len (pa_cons (pv 3) pa_nil)) pe_int (nomark _)) (pw_or1 (pt_not (pt_val (pe_callB (cr_all rfl) rfl T.b_all bt_all (pa_cons (pe_lc (own := [("lines", 8)]) (g := (gName 8)) rfl sc.nd (pi_tup (pv 3)) (blkOk_by (N := ["tall", "wide", "places", "told", "due", "rows", "columns", "less", "lines", "row", "column"]) (sc := defScope (top 37)) (by decide +kernel)) (fun _ _ _ _ _ => (pg_name (i := 8) sc.nd rfl (Or.inl rfl))) (fun _ _ _ _ _ => pts_nil) (fun _ _ _ _ _ => (pe_callB (show CallR _ _ (rIsi K) from call_isi) rfl T.b_isinstance bt_isinstance (pa_cons (pv 8) (pa_cons (pe_bltn (v := .ty "list") rfl T.b_list bt_list rfl) pa_nil))))) pa_nil)))))))) (pss_one (ps_ret pe_bl)) pss_nil) (pss_cons (ps_asg (pv 3) (pg_tup rfl (pgs_cons (pg_name (i := 5) sc.nd rfl (Or.inr rfl)) (pgs_cons (pg_name (i := 6) sc.nd rfl (Or.inr rfl)) pgs_nil)))) (pss_cons (ps_if (PW.pt (pw_or (pt_cmpR op_ne (pe_callB (call_reprD gd hr.units) rfl T.b_repr bt_repr (pa_cons (pv 5) pa_nil)) (pe_callB (call_reprD gd hr.units) rfl T.b_repr bt_repr (pa_cons (pe_lc (own := [("row", 9)]) (g := (gName 9)) rfl sc.nd (pi_range1 rfl T.b_range (pa_cons (pv 0) pa_nil)) (blkOk_by (N := ["tall", "wide", "places", "told", "due", "rows", "columns", "less", "lines", "row", "column"]) (sc := defScope (top 37)) (by decide +kernel)) (fun _ _ _ _ _ => (pg_name (i := 9) sc.nd rfl (Or.inl rfl))) (fun _ _ _ _ _ => (pts_one (pt_cmpR (show OpR _ _ (rIn K false) from op_in_seq) (pv 9) (pv 5) rfl))) (fun _ _ _ _ _ => (pv 9))) pa_nil)) (nomark _)) (pw_or1 (pt_cmpR op_ne (pe_callB (call_reprD gd hr.units) rfl T.b_repr bt_repr (pa_cons (pv 6) pa_nil)) (pe_callB (call_reprD gd hr.units) rfl T.b_repr bt_repr (pa_cons (pe_lc (own := [("column", 10)]) (g := (gName 10)) rfl sc.nd (pi_range1 rfl T.b_range (pa_cons (pv 1) pa_nil)) (blkOk_by (N := ["tall", "wide", "places", "told", "due", "rows", "columns", "less", "lines", "row", "column"]) (sc := defScope (top 37)) (by decide +kernel)) (fun _ _ _ _ _ => (pg_name (i := 10) sc.nd rfl (Or.inl rfl))) (fun _ _ _ _ _ => (pts_one (pt_cmpR (show OpR _ _ (rIn K false) from op_in_seq) (pv 10) (pv 6) rfl))) (fun _ _ _ _ _ => (pv 10))) pa_nil)) (nomark _))))) (pss_one (ps_ret pe_bl)) pss_nil) (pss_cons (ps_if (PW.pt (pw_or (pt_cmpR op_ne (pe_op op_add (pe_callB call_len_seq rfl T.b_len bt_len (pa_cons (pv 5) pa_nil)) (pe_callB call_len_seq rfl T.b_len bt_len (pa_cons (pv 6) pa_nil))) (pv 4) (nomark _)) (pw_or1 (pt_not (pt_val (pe_callB (cr_all rfl) rfl T.b_all bt_all (pa_cons (pe_lc (own := [("row", 9), ("column", 10)]) (g := (gTup K 2 (gCons (gName 9) (gCons (gName 10) gNil)))) rfl sc.nd (pi_list (pv 2)) (blkOk_by (N := ["tall", "wide", "places", "told", "due", "rows", "columns", "less", "lines", "row", "column"]) (sc := defScope (top 37)) (by decide +kernel)) (fun _ _ _ _ _ => (pg_tup rfl (pgs_cons (pg_name (i := 9) sc.nd rfl (Or.inl rfl)) (pgs_cons (pg_name (i := 10) sc.nd rfl (Or.inl rfl)) pgs_nil)))) (fun _ _ _ _ _ => pts_nil) (fun _ _ _ _ _ => (pe_or (pe_cmpR (show OpR _ _ (rIn K false) from op_in_seq) (pv 9) (pv 5) rfl) (pe_one (pe_cmpR (show OpR _ _ (rIn K false) from op_in_seq) (pv 10) (pv 6) rfl))))) pa_nil))))))) (pss_one (ps_ret pe_bl)) pss_nil) (pss_cons (ps_set (i := 7) sc.nd rfl (Or.inl rfl) (pe_ifExp (pt_cmpR (op_neD hr.units) (pv 5) (pe_lst pa_nil) (nomark _)) (pe_tup (pa_cons (pe_slice sl_list (pv 5) (po_some pe_int) po_none) (pa_cons (pv 6) pa_nil))) (pe_tup (pa_cons (pv 5) (pa_cons (pe_slice sl_list (pv 6) (po_some pe_int) po_none) pa_nil))))) (pss_one (ps_ret (pe_and (pe_cmpR op_isBl (pe_cl C_is_cover gd (hr.mono (by first | decide | omega)) (pa_cons (pv 0) (pa_cons (pv 1) (pa_cons (pv 2) (pa_cons (pv 3) pa_nil))))) pe_bl (nomark _)) (pe_one (pe_cmpR op_isBl (pe_cl C_is_cover gd (hr.mono (by first | decide | omega)) (pa_cons (pv 0) (pa_cons (pv 1) (pa_cons (pv 2) (pa_cons (pv 7) pa_nil))))) pe_bl (nomark _))))))))))), ?_⟩
  refine ⟨_, rfl, _, _, _, _, _, rfl, .ty "tuple", .base (.tup hv), kt_tuple_tuple, _, rfl, ?_⟩
  refine ⟨_, rfl, v, _, rfl, .inr (st_of hv), rfl, _, rfl, ?_⟩
  refine ⟨_, rfl, v, rfl, ⟨_, st_of hv⟩, fun D hD => ?_⟩
  refine lcW (walk_tup (K := K) (a := v) (xs := [.ref x, .ref y])) [(x, R), (y, C)] rfl (by show 2 ≤ 1000; decide) (fun _ => true) (fun (z : Addr × List Nat) v _ => v = .bl ((fun _ => true) z)) Stab.bl hD (fun H5 e5 => st_of (e5 _ _ hv)) ?_ ?_
  · rintro i z x' H4 H5 N Gt hz e4 ⟨rfl, hx'⟩ _ k
    have hz' : x' = .ref z.1 ∧ H5 z.1 = some (.lst (vI z.2)) := by
      match i, hz, hx' with
      | 0, hz, hx' => cases hz; cases hx'; exact ⟨rfl, e4 _ _ hx⟩
      | 1, hz, hx' => cases hz; cases hx'; exact ⟨rfl, e4 _ _ hy⟩
      | i + 2, hz, hx' => simp at hz
    obtain ⟨rfl, hz2⟩ := hz'
    refine ⟨Ex.refl _, rfl, ?_⟩
    refine ⟨_, rfl, _, _, _, _, _, rfl, .ty "list", .base (.lst hz2), kt_list_list, ?_⟩
    exact k rfl _ _ (Ex.refl _) rfl
  intro acc H1 e1 hD1 hacc
  rw [filter_yes] at hacc
  have hac := paired_bl hacc
  refine ⟨D, _, rfl, sq_of (hac ▸ hD1), _, rfl, ?_⟩
  refine ⟨_, rfl, v, _, rfl, st_of (e1 _ _ hv), rfl, _, _, rfl, _, _, rfl, rfl, ?_⟩
  -- repr(rows) != repr([..])
  have roR : Ro (.list (R.map iD)) := ro_list (fun r hr => rp_i (by have := kf.lR r hr; omega)) (by omega)
  have roC : Ro (.list (C.map iD)) := ro_list (fun r hr => rp_i (by have := kf.lC r hr; omega)) (by omega)
  refine ⟨_, rfl, x, _, rfl, dp_il (e1 _ _ hx), roR.sh, roR.nd, roR.dp, roR.ln, ?_⟩
  refine ⟨_, rfl, (tall : Int), rfl, by omega, by omega, fun D2 hD2 => ?_⟩
  rw [Int.toNat_natCast]
  refine lcW (walk_range (lo := 0) (n := tall)) (List.range tall) (by simp) (by omega) (fun r => decide (r ∈ R)) (fun (y : Nat) v _ => v = .int ((id y : Nat) : Int)) ⟨fun _ _ _ _ _ h => h, fun _ _ _ _ _ _ _ h => h⟩ hD2 (fun _ _ => trivial) ?_ ?_
  · rintro i z x' H4 H5 N Gt hz e4 ⟨rfl, rfl⟩ kN kY
    have hyi : i = z := by
      have := (List.getElem?_eq_some_iff.mp hz).2
      simpa using this
    subst hyi
    refine ⟨Ex.refl _, rfl, ?_⟩
    refine ⟨_, rfl, _, rfl, x, _, rfl, .inl (sq_of (e4 _ _ (e1 _ _ hx))), rfl, flat_is _, _, rfl, ?_⟩
    show if (inV (.int (0 + (i : Int))) (vI R)) = true then _ else _
    rw [Int.zero_add, in_is]
    refine ite2 (fun g => ?_) (fun g => ?_)
    · exact ⟨_, rfl, kY g _ _ (Ex.refl _) (congrArg V.int (Int.zero_add _))⟩
    · exact kN (Bool.eq_false_iff.mpr g) _ (Ex.refl _)
  intro acc2 H2 e2 hD2' hacc2
  have haa := paired_is hacc2
  rw [List.map_id, kf.rr] at haa
  subst haa
  refine ⟨D2, _, rfl, dp_il hD2', roR.sh, roR.nd, roR.dp, roR.ln, rfl, _, rfl, ?_⟩
  rw [decide_eq_true rfl]
  have e02 := e1.trans e2
  refine ⟨_, rfl, y, _, rfl, dp_il (e02 _ _ hy), roC.sh, roC.nd, roC.dp, roC.ln, ?_⟩
  refine ⟨_, rfl, (wide : Int), rfl, by omega, by omega, fun D3 hD3 => ?_⟩
  rw [Int.toNat_natCast]
  refine lcW (walk_range (lo := 0) (n := wide)) (List.range wide) (by simp) (by omega) (fun r => decide (r ∈ C)) (fun (y : Nat) v _ => v = .int ((id y : Nat) : Int)) ⟨fun _ _ _ _ _ h => h, fun _ _ _ _ _ _ _ h => h⟩ hD3 (fun _ _ => trivial) ?_ ?_
  · rintro i z x' H4 H5 N Gt hz e4 ⟨rfl, rfl⟩ kN kY
    have hyi : i = z := by
      have := (List.getElem?_eq_some_iff.mp hz).2
      simpa using this
    subst hyi
    refine ⟨Ex.refl _, rfl, ?_⟩
    refine ⟨_, rfl, _, rfl, y, _, rfl, .inl (sq_of (e4 _ _ (e02 _ _ hy))), rfl, flat_is _, _, rfl, ?_⟩
    show if (inV (.int (0 + (i : Int))) (vI C)) = true then _ else _
    rw [Int.zero_add, in_is]
    refine ite2 (fun g => ?_) (fun g => ?_)
    · exact ⟨_, rfl, kY g _ _ (Ex.refl _) (congrArg V.int (Int.zero_add _))⟩
    · exact kN (Bool.eq_false_iff.mpr g) _ (Ex.refl _)
  intro acc3 H3 e3 hD3' hacc3
  have haa3 := paired_is hacc3
  rw [List.map_id, kf.cc] at haa3
  subst haa3
  refine ⟨D3, _, rfl, dp_il hD3', roC.sh, roC.nd, roC.dp, roC.ln, rfl, _, rfl, ?_⟩
  rw [decide_eq_true rfl]
  have e03 := e02.trans e3
  -- len(rows) + len(columns) != due or not all(..)
  refine ⟨_, rfl, x, _, rfl, .inl (sq_of (e03 _ _ hx)), _, rfl, y, _, rfl, .inl (sq_of (e03 _ _ hy)), _, _, rfl, rfl, _, rfl, rfl, _, rfl, ?_⟩
  have ed : (!decide (V.int ((((vI R).length : Nat) : Int) + (((vI C).length : Nat) : Int)) = V.int (((seatsOf pl tall).length : Nat) : Int))) = false := by
    rw [vI_len, vI_len, decide_eq_true]
    · rfl
    · have := kf.size
      congr 1
      omega
  show if (!decide (V.int ((((vI R).length : Nat) : Int) + (((vI C).length : Nat) : Int)) = V.int (((seatsOf pl tall).length : Nat) : Int))) = true then _ else _
  rw [ed]
  refine ⟨_, rfl, a, rfl, ⟨_, sq_of (e03 _ _ ha)⟩, fun D4 hD4 => ?_⟩
  refine lcW (walk_list (K := K) (a := a) (xs := rs.map V.ref)) pl (by simp [hl]) (by simp [hl]; omega) (fun _ => true) (fun (z : Nat × Nat) v _ => v = .bl ((fun z => decide (z.1 ∈ R) || decide (z.2 ∈ C)) z)) Stab.bl hD4 (fun H5 e5 => sq_of (e5 _ _ (e03 _ _ ha))) ?_ ?_
  · rintro i z x' H4 H5 N Gt hz e4 ⟨rfl, hx'⟩ _ k
    obtain ⟨r, p, rfl, h1, h2⟩ := pts_at (hp.up (e03.trans e4)) hx'
    cases h1.symm.trans hz
    refine ⟨Ex.refl _, ?_⟩
    refine ⟨r, _, rfl, st_of h2, rfl, _, _, rfl, _, _, rfl, rfl, rfl, ?_⟩
    refine ⟨_, rfl, _, rfl, x, _, rfl, .inl (sq_of ((e03.trans e4) _ _ hx)), rfl, flat_is _, _, rfl, ?_⟩
    show if (inV (.int (z.1 : Int)) (vI R)) = true then _ else _
    rw [in_is]
    refine ite2 (fun g => ?_) (fun g => ?_)
    · exact k rfl _ _ (Ex.refl _) (by show V.bl true = V.bl (decide (z.1 ∈ R) || decide (z.2 ∈ C)); rw [g]; rfl)
    · refine ⟨_, rfl, _, rfl, y, _, rfl, .inl (sq_of ((e03.trans e4) _ _ hy)), rfl, flat_is _, ?_⟩
      refine k rfl _ _ (Ex.refl _) ?_
      show V.bl (inV (.int (z.2 : Int)) (vI C)) = V.bl (decide (z.1 ∈ R) || decide (z.2 ∈ C))
      rw [in_is, Bool.eq_false_iff.mpr g, Bool.false_or]
  intro acc4 H4 e4 hD4' hacc4
  rw [filter_yes] at hacc4
  have hac4 := paired_bl hacc4
  refine ⟨D4, _, rfl, sq_of (hac4 ▸ hD4'), _, rfl, ?_⟩
  have ec : (pl.map fun z => decide (z.1 ∈ R) || decide (z.2 ∈ C)).all id = true := by rw [List.all_map]; exact kf.cov
  rw [ec]
  have e04 := e03.trans e4
  -- less
  have fin1 : ∀ H5, Ex H H5 → ∀ Qc : VK, (∀ H6, Ex H5 H6 → Qc (.bl true) H6) → spIsCover [.int tall, .int wide, .ref a, .ref v] H5 Qc E0 := fun H5 e5 Qc k => by
    refine ⟨a, v, x, y, tall, wide, rs, pl, R, C, rfl, .inl (e5 _ _ ha), hp.up e5, hb, e5 _ _ hv, e5 _ _ hx, e5 _ _ hy, kf.nR, kf.nC, kf.lR, kf.lC, fun H6 e6 => ?_⟩
    rw [kf.cov, decide_eq_true kf.size]
    exact k H6 e6
  have fin2 : ∀ (H5 : Hp) (tl x' y' : Addr) (R' C' : List Nat), Ex H H5 → H5 tl = some (.tup [.ref x', .ref y']) → H5 x' = some (.lst (vI R')) → H5 y' = some (.lst (vI C')) → R'.Sublist R → C'.Sublist C → R'.length + C'.length + 1 = R.length + C.length →
      ∀ Qc : VK, (∀ H6, Ex H5 H6 → Qc (.bl false) H6) → spIsCover [.int tall, .int wide, .ref a, .ref tl] H5 Qc E0 := fun H5 tl x' y' R' C' e5 htl hx' hy' sR sC hlen Qc k => by
    refine ⟨a, tl, x', y', tall, wide, rs, pl, R', C', rfl, .inl (e5 _ _ ha), hp.up e5, hb, htl, hx', hy', kf.nR.sublist sR, kf.nC.sublist sC, fun r h => kf.lR r (sR.subset h), fun c h => kf.lC c (sC.subset h), fun H7 e7 => ?_⟩
    rw [decide_eq_false (by have := kf.size; omega), Bool.and_false]
    exact k H7 e7
  refine ⟨_, rfl, Nat.zero_le _, fun np hnp => ?_⟩
  have x5 := Ex.new (o := .lst []) hnp
  refine ⟨_, _, dp_il (x5 _ _ (e04 _ _ hx)), dp_il (l := []) upd_same, is_sh _, is_sh _, _, rfl, ?_⟩
  rw [is_eqv]
  have e05 := e04.trans x5
  generalize upd H4 np (.lst []) = H5 at x5 e05 ⊢
  refine ite2 (fun g => ?_) (fun g => ?_)
  · have hR : R ≠ [] := by simpa using g
    refine ⟨_, rfl, _, rfl, x, _, rfl, sq_of (e05 _ _ hx), fun p6 hp6 => ?_⟩
    have ecut : cutV (vI R) (some 1) none = vI (R.drop 1) := by rw [cut1]; unfold vI; rw [List.map_drop]
    rw [ecut]
    have x6 := Ex.new (o := .lst (vI (R.drop 1))) hp6
    refine ⟨_, rfl, (by show 2 ≤ sizeLine; decide), fun tl htl => ?_⟩
    have x7 := Ex.new (o := .tup [.ref p6, .ref y]) htl
    have e07 := e05.trans (x6.trans x7)
    refine ⟨_, rfl, _, rfl, _, rfl, _, rfl, fin1 _ e07 _ fun H8 e8 => ⟨true, true, rfl, rfl, _, rfl, ?_⟩⟩
    have e08 := e07.trans e8
    exact ⟨_, rfl, _, rfl, _, rfl, _, rfl, fin2 H8 tl p6 y (R.drop 1) C e08 (e8 _ _ upd_same) (e8 _ _ (x7 _ _ upd_same)) (e08 _ _ hy) (List.drop_sublist _ _) (List.Sublist.refl _) (by have := List.length_pos_iff.mpr hR; rw [List.length_drop]; omega) _ fun H9 e9 => ⟨false, false, rfl, rfl, q _ (e08.trans e9)⟩⟩
  · have hR : R = [] := by simpa using g
    have hC : 1 ≤ C.length := by have := kf.size; rw [hR] at this; simp at this; omega
    refine ⟨_, rfl, _, rfl, _, rfl, y, _, rfl, sq_of (e05 _ _ hy), fun p6 hp6 => ?_⟩
    have ecut : cutV (vI C) (some 1) none = vI (C.drop 1) := by rw [cut1]; unfold vI; rw [List.map_drop]
    rw [ecut]
    have x6 := Ex.new (o := .lst (vI (C.drop 1))) hp6
    refine ⟨(by show 2 ≤ sizeLine; decide), fun tl htl => ?_⟩
    have x7 := Ex.new (o := .tup [.ref x, .ref p6]) htl
    have e07 := e05.trans (x6.trans x7)
    refine ⟨_, rfl, _, rfl, _, rfl, _, rfl, fin1 _ e07 _ fun H8 e8 => ⟨true, true, rfl, rfl, _, rfl, ?_⟩⟩
    have e08 := e07.trans e8
    exact ⟨_, rfl, _, rfl, _, rfl, _, rfl, fin2 H8 tl x p6 R (C.drop 1) e08 (e8 _ _ upd_same) (e08 _ _ hx) (e8 _ _ (x7 _ _ upd_same)) (List.Sublist.refl _) (List.drop_sublist _ _) (by rw [List.length_drop]; omega) _ fun H9 e9 => ⟨false, false, rfl, rfl, q _ (e08.trans e9)⟩⟩
end
end B71

namespace B71
open PySem PySem.Spec PyProof.Rows L2 Evl RZ SrtO
/-! ### a call by keywords alone, three of them -/
structure ClK (P : Program) (w : World) (K : PySem.W.Frag) (mg : Str → Option Value) (base : Heap) (x : Str) (k : Nat) (ps : List Str) (sp : Sp) (k1 k2 k3 : Str) : Prop where
  ex : ∃ (f : Addr) (fd : FuncData), FnG P w K mg base k f fd ps sp ∧ (∀ (s : Shared) (u1 u2 u3 : Value), BindsTo s fd ⟨[], [(k1, u1), (k2, u2), (k3, u3)]⟩ (ps.zip [u3, u2, u1])) ∧ PySem.W.keepIn K (.ref f) = true ∧ mg x = some (.ref f)
def tClK (sp : Sp) (t : TA) : TE := fun σ H Q => t σ H fun vs H1 => ∃ a b c, vs = [a, b, c] ∧ sp [c, b, a] H1 Q E0
theorem pe_clK {X : Cx} {x : Str} {k : Nat} {ps : List Str} {sp : Sp} {k1 k2 k3 : Str} {p pos : Pos} {kws : List Keyword} {t : TA} (C : ClK X.prog X.w X.K X.mg X.base x k ps sp k1 k2 k3) (gd : X.A.guards = some []) (hr : Room k X.A) (ha : PK X kws t)
    (hg : Gl X x := by rfl) (hall : (backToKw pos (keywordEach kws X.env)).all (·.1.isSome) = true := by rfl) (hks : (backToKw pos (keywordEach kws X.env)).filterMap (·.1) = [k1, k2, k3] := by rfl) (hdb : (x == ("__debug__" : Str)) = false := by decide)
    (hpl : ((backTo pos (starEach [] X.env)).any (·.1) || (backToKw pos (keywordEach kws X.env)).any (·.1.isNone)) = false := by rfl) : PE X (.Call (.Name x p) [] kws pos) (tClK sp t) := by
  obtain ⟨f, fd, F, b, kp, m⟩ := C.ex
  refine ⟨fun pins s σ H Q I h => ?_⟩
  refine wpAny_Call_Name_kw (ld_glob I hg m ?_ hdb)
  refine PySem.W.callWith_KW0 (h₀ := X.base) I.ok.mod.kin kp hall (thn (ha.run pos pins s σ H _ I h) fun ws s1 ⟨zs, H1, I1, rz, q⟩ => ⟨I1.kIn, ?_⟩) hpl
  rw [hks]
  obtain ⟨a, b', c, rfl, q⟩ := q
  obtain ⟨u1, u2, u3, rfl, r1, r2, r3⟩ : ∃ u1 u2 u3, ws = [u1, u2, u3] ∧ RelV a u1 ∧ RelV b' u2 ∧ RelV c u3 := by
    cases rz with
    | cons p q =>
      cases q with
      | cons p' q' =>
        cases q' with
        | cons p'' q'' =>
          cases q''
          exact ⟨_, _, _, rfl, p, p', p''⟩
  refine wpAny_call (codeAny_mono (runG F gd hr (fun _ => b s1 u1 u2 u3) I1 (.cons r3 (.cons r2 (.cons r1 .nil))) q) fun r s' hq => ?_)
  cases r with
  | error e => exact hq.elim
  | ok fl =>
    cases fl with
    | ret u => exact hq
    | next => exact hq.elim
    | brk => exact hq.elim
    | cont => exact hq.elim
/-! ### the mathematics that is left -/
theorem cov_run {pl : Pl} {tall : Nat} {M : Dc} {D : List Nat} (S : Seated pl tall M D) (h4 : ∀ r c, (r, c) ∈ pl → c < 4) : ∀ (n : Nat) (s : CS), covM s ≤ n → CovInv pl tall M D s → (∀ c ∈ s.cols, c < 4) → ∃ s', CovInv pl tall M D s' ∧ s'.wait = []
  | 0, s, h, J, _ => ⟨s, J, by
    unfold covM at h
    exact List.length_eq_zero_iff.mp (by omega)⟩
  | n + 1, s, h, J, c4 => by
    by_cases hw : s.wait = []
    · exact ⟨s, J, hw⟩
    · have lt := step_m (M := M) h4 J.nd c4 hw
      have tn := turns_m (M := M) (rows := addRow s.rows (s.wait.getLastD 0)) (row := s.wait.getLastD 0) pl (s.wait.dropLast, s.cols) (fun p q => h4 p.1 p.2 q) J.nd c4
      exact cov_run S h4 n (covStep pl M s) (by omega) (step_inv S J hw) tn.2.1
theorem opt_ex {pl : Pl} {tall : Nat} (h4 : ∀ r c, (r, c) ∈ pl → c < 4) (hr : ∀ r c, (r, c) ∈ pl → r < tall) : ∃ R C, Opt pl (seatsOf pl tall) R C := by
  obtain ⟨D, S⟩ := seated h4 tall
  obtain ⟨s, J, hw⟩ := cov_run S h4 (covM _) _ (Nat.le_refl _) (cov_start S) (fun c h => (nomatch h))
  exact ⟨_, _, cov_end S hr J hw⟩
theorem most_len {pl : Pl} {tall : Nat} (h4 : ∀ r c, (r, c) ∈ pl → c < 4) (hr : ∀ r c, (r, c) ∈ pl → r < tall) : mostM pl tall 0 [] = (seatsOf pl tall).length := by
  obtain ⟨R, C, o⟩ := opt_ex h4 hr
  exact most_is o hr
theorem strict {l : Pl} (so : l.Pairwise fun p q => ¬ lexlt q p) (nd : l.Nodup) : l.Pairwise lexlt := by
  refine (List.pairwise_and_iff.mpr ⟨so, nd⟩).imp fun {a b} h => ?_
  obtain ⟨a1, a2⟩ := a
  obtain ⟨b1, b2⟩ := b
  have h1 := h.1
  have h2 := h.2
  unfold lexlt at h1 ⊢
  simp only [ne_eq, Prod.mk.injEq] at h1 h2 ⊢
  omega
theorem Bd.nd {tall wide : Nat} {pl : Pl} (b : Bd tall wide pl) : pl.Nodup := b.so.imp fun {a b} h e => by
  rw [e] at h
  unfold lexlt at h
  omega
theorem flip_nd {l : Pl} (h : l.Nodup) : (flip l).Nodup := by
  unfold flip
  refine (List.pairwise_map).mpr (h.imp fun {a b} h e => h ?_)
  obtain ⟨a1, a2⟩ := a
  obtain ⟨b1, b2⟩ := b
  simp only [Prod.mk.injEq] at e
  rw [e.1, e.2]
theorem Bd.turn {tall wide : Nat} {pl T : Pl} (b : Bd tall wide pl) (pm : T.Perm (flip pl)) (so : T.Pairwise fun p q => ¬ lexlt q p) : Bd wide tall T := by
  have hl := pm.length_eq
  rw [flip_len] at hl
  refine ⟨b.w1, b.w4, b.t1, b.t4, by rw [hl]; exact b.p1, by rw [hl]; exact b.p16, strict so (pm.nodup_iff.mpr (flip_nd b.nd)), fun p hp => ?_⟩
  obtain ⟨c, r⟩ := p
  have := b.inb _ (mem_flip.mp (pm.mem_iff.mp hp))
  exact ⟨this.2, this.1⟩
theorem turn_len {tall wide : Nat} {pl T : Pl} (b : Bd tall wide pl) (bT : Bd wide tall T) (pm : T.Perm (flip pl)) : (seatsOf T wide).length = (seatsOf pl tall).length := by
  obtain ⟨R, C, o⟩ := opt_ex b.sz.h4 fun r c h => (b.inb _ h).1
  obtain ⟨R2, C2, o2⟩ := opt_ex bT.sz.h4 fun r c h => (bT.inb _ h).1
  have ot := o.turn (pl' := T) fun r c => by rw [pm.mem_iff]; exact mem_flip
  have := ot.same o2
  rw [flip_len] at this
  exact this.symm
theorem turn_cov {pl T : Pl} {R C : List Nat} (h : covB pl R C = true) (pm : T.Perm (flip pl)) : covB T C R = true := by
  refine List.all_eq_true.mpr fun p hp => ?_
  obtain ⟨c, r⟩ := p
  have := List.all_eq_true.mp h (r, c) (mem_flip.mp (pm.mem_iff.mp hp))
  simp only [Bool.or_eq_true, decide_eq_true_eq] at this ⊢
  exact this.symm
theorem Bd.less {tall wide : Nat} {pl pl' : Pl} (b : Bd tall wide pl) (s : pl'.Sublist pl) (ne : pl' ≠ []) : Bd tall wide pl' :=
  ⟨b.t1, b.t4, b.w1, b.w4, List.length_pos_iff.mpr ne, Nat.le_trans s.length_le b.p16, b.so.sublist s, fun p hp => b.inb p (s.subset hp)⟩
theorem cv_uniq {pl : Pl} {tall : Nat} {R C R' C' : List Nat} (a : Cv pl tall R C) (b : Cv pl tall R' C') : R = R' ∧ C = C' := by
  refine ⟨a.r.trans b.r.symm, ?_⟩
  rw [← filter_range a.so a.nd a.lt, ← filter_range b.so b.nd b.lt]
  refine List.filter_congr fun x _ => decide_eq_decide.mpr ?_
  rw [a.pm.mem_iff, b.pm.mem_iff]
theorem cutTo {xs : List V} {d : Nat} (h : d ≤ xs.length) : cutV xs none (some (d : Int)) = xs.take d := by
  unfold cutV
  rw [HT.sIx_none, HT.sIx_nat, Nat.min_eq_left h, List.drop_zero, Nat.sub_zero]
theorem cutFrom {xs : List V} {d : Nat} (h : d ≤ xs.length) : cutV xs (some (d : Int)) none = xs.drop d := by
  unfold cutV
  rw [HT.sIx_none, HT.sIx_nat, Nat.min_eq_left h]
  exact List.take_of_length_le (by rw [List.length_drop]; exact Nat.le_refl _)
def cD (R C : List Nat) : PyData := .tuple [.list (R.map iD), .list (C.map iD)]
theorem cD_sh (R C : List Nat) : SeqAt.shaped (cD R C) = true := by
  have h1 := all_depth iD_depth R
  have h2 := all_depth iD_depth C
  refine sh_of ?_ ?_
  · simp only [cD, PyData.canLay0, PyData.canLayAll0, all_lay iD_lay, Bool.and_self]
  · simp only [cD, PyData.depth, PyData.depthAll]
    omega
theorem cD_eqv (R C : List Nat) : PyData.eqv (cD R C) (cD R C) = true := by
  have e : PyData.eqv (cD R C) (cD R C) = (PyData.eqv (.list (R.map iD)) (.list (R.map iD)) && (PyData.eqv (.list (C.map iD)) (.list (C.map iD)) && true)) := by simp only [cD, PyData.eqv, PyData.eqvAll]
  rw [e, is_eqv, is_eqv, decide_eq_true rfl, decide_eq_true rfl]
  rfl
theorem dp_c {K : PySem.W.Frag} {H : Hp} {v x y : Addr} {R C : List Nat} (hv : H v = some (.tup [.ref x, .ref y])) (hx : H x = some (.lst (vI R))) (hy : H y = some (.lst (vI C))) : Dp K H (.ref v) (cD R C) :=
  .tup (.inl (.inl hv)) (.cons (dp_il hx) (.cons (dp_il hy) .nil))
theorem Pts.take {H : Hp} : ∀ {rs : List Addr} {pl : Pl} (n : Nat), Pts H rs pl → Pts H (rs.take n) (pl.take n)
  | _, _, 0, h => .nil
  | _, _, n + 1, .nil => .nil
  | _, _, n + 1, .cons q t => .cons q (Pts.take n t)
end B71

namespace B71
open PySem PySem.Spec PyProof.Rows L2 Evl RZ SrtO

def spRight : Sp := fun vs H Q _ => ∃ p : Addr, vs = [.ref p] ∧ Pot H p ∧ ∀ H', ExB p H H' → Q (.bl true) H'
section
variable {P : Program} {w : World} {K : PySem.W.Frag} {mg : Str → Option Value} {base : Heap} {f : Addr} {fd : FuncData}
theorem sc__law_right : FnScope ["pot", "tall", "wide", "places", "given", "due", "shown", "one", "other", "turned", "out", "left", "fewer", "row", "column"] ["pot"] (defScope (top 38)) := ⟨rfl, rfl, rfl, by decide +kernel, rfl, by decide +kernel, by decide +kernel⟩
theorem ok_law_right (F : Fun K "_law_right" "_law_right" (top 38) f fd) (T : Tx mg) (C__law_board : Cl P w K mg base "_law_board" 2 ["pot", "most"] spBoard) (C__law_draw : Cl P w K mg base "_law_draw" 1 ["pot", "many"] spDraw) (C__law_most : Cl P w K mg base "_law_most" 5 ["tall", "places", "row", "used"] (spMost 5)) (C_rooks : Cl P w K mg base "rooks" 9 ["tall", "wide", "places"] spRooks) (C_cover : Cl P w K mg base "cover" 9 ["tall", "wide", "places"] spCover) (C__law_fewest : Cl P w K mg base "_law_fewest" 2 ["tall", "places"] spFewest) (C__law_rooks_right : Cl P w K mg base "_law_rooks_right" 10 ["tall", "wide", "places", "told", "due"] spRooksRight) (C__law_cover_right : Cl P w K mg base "_law_cover_right" 10 ["tall", "wide", "places", "told", "due"] spCoverRight)
    (CK_rooks : ClK P w K mg base "rooks" 9 ["tall", "wide", "places"] spRooks "places" "wide" "tall") (CK_cover : ClK P w K mg base "cover" 9 ["tall", "wide", "places"] spCover "places" "wide" "tall") (C_is_cover : Cl P w K mg base "is_cover" 9 ["tall", "wide", "places", "value"] spIsCover) (C_is_rooks : Cl P w K mg base "is_rooks" 9 ["tall", "wide", "places", "value"] spIsRooks) : FnG P w K mg base 11 f fd ["pot"] spRight := by
  have sc := sc__law_right
  refine okG F sc (fun vs H Q E h => ?_) (fun cdv A outer s H vs Q gd0 hr h => ?_)
  · obtain ⟨p, rfl, _⟩ := h; rfl
  have gd := deeper_guards (env := envOfC "_law_right" (defScope (top 38)) s.heap.objs.size f cdv) gd0
  obtain ⟨p, rfl, hpot, q⟩ := h
  refine ⟨_, (pss_cons (ps_asg (pe_cl C__law_board gd (hr.mono (by first | decide | omega)) (pa_cons (pv 0) (pa_cons pe_int pa_nil))) (pg_tup rfl (pgs_cons (pg_name (i := 1) sc.nd rfl (Or.inl rfl)) (pgs_cons (pg_name (i := 2) sc.nd rfl (Or.inl rfl)) (pgs_cons (pg_name (i := 3) sc.nd rfl (Or.inl rfl)) pgs_nil))))) (pss_cut (ps_set (i := 4) sc.nd rfl (Or.inl rfl) (pe_ifExp (pt_cmpR op_eq (pe_cl C__law_draw gd (hr.mono (by first | decide | omega)) (pa_cons (pv 0) (pa_cons pe_int pa_nil))) pe_int (nomark _)) (pe_callTy call_tuple_of rfl T.b_tuple bt_tuple (pa_cons (pv 3) pa_nil)) (pe_callTy call_list_of rfl T.b_list bt_list (pa_cons (pv 3) pa_nil)))) (pss_cons (ps_par (i := 5) (j := 6) rfl sc.nd rfl rfl (by decide) rfl rfl (pa_cons (pe_cl C__law_most gd (hr.mono (by first | decide | omega)) (pa_cons (pv 1) (pa_cons (pv 3) (pa_cons pe_int (pa_cons (pe_lst pa_nil) pa_nil))))) (pa_cons (pe_callB (call_reprD gd hr.units) rfl T.b_repr bt_repr (pa_cons (pv 4) pa_nil)) pa_nil)) rfl) (pss_cons (ps_par (i := 7) (j := 8) rfl sc.nd rfl rfl (by decide) rfl rfl (pa_cons (pe_cl C_rooks gd (hr.mono (by first | decide | omega)) (pa_cons (pv 1) (pa_cons (pv 2) (pa_cons (pv 4) pa_nil)))) (pa_cons (pe_cl C_cover gd (hr.mono (by first | decide | omega)) (pa_cons (pv 1) (pa_cons (pv 2) (pa_cons (pv 4) pa_nil)))) pa_nil)) rfl) (pss_cons (ps_if (PW.pt (pw_or (pt_cmpR op_ne (pv 5) (pe_cl C__law_fewest gd (hr.mono (by first | decide | omega)) (pa_cons (pv 1) (pa_cons (pv 3) pa_nil))) (nomark _)) (pw_or (pt_not (pt_val (pe_cl C__law_rooks_right gd (hr.mono (by first | decide | omega)) (pa_cons (pv 1) (pa_cons (pv 2) (pa_cons (pv 3) (pa_cons (pv 7) (pa_cons (pv 5) pa_nil)))))))) (pw_or1 (pt_not (pt_val (pe_cl C__law_cover_right gd (hr.mono (by first | decide | omega)) (pa_cons (pv 1) (pa_cons (pv 2) (pa_cons (pv 3) (pa_cons (pv 8) (pa_cons (pv 5) pa_nil)))))))))))) (pss_one (ps_ret pe_bl)) pss_nil) (pss_cons (ps_if (PW.pt (pw_or (pt_cmpR (op_neD hr.units) (pe_clK CK_rooks gd (hr.mono (by first | decide | omega)) (pk_cons (pv 4) (pk_cons (pv 2) (pk_cons (pv 1) pk_nil)))) (pv 7) (nomark _)) (pw_or (pt_cmpR (op_neD hr.units) (pe_clK CK_cover gd (hr.mono (by first | decide | omega)) (pk_cons (pv 4) (pk_cons (pv 2) (pk_cons (pv 1) pk_nil)))) (pv 8) (nomark _)) (pw_or1 (pt_cmpR op_ne (pe_callB (call_reprD gd hr.units) rfl T.b_repr bt_repr (pa_cons (pv 4) pa_nil)) (pv 6) (nomark _)))))) (pss_one (ps_ret pe_bl)) pss_nil) (pss_cons (ps_set (i := 9) sc.nd rfl (Or.inl rfl) (pe_callB cr_sortedPO rfl T.b_sorted bt_sorted (pa_cons (pe_lc (own := [("row", 13), ("column", 14)]) (g := (gTup K 2 (gCons (gName 13) (gCons (gName 14) gNil)))) rfl sc.nd (pi_list (pv 3)) (blkOk_by (N := ["pot", "tall", "wide", "places", "given", "due", "shown", "one", "other", "turned", "out", "left", "fewer", "row", "column"]) (sc := defScope (top 38)) (by decide +kernel)) (fun _ _ _ _ _ => (pg_tup rfl (pgs_cons (pg_name (i := 13) sc.nd rfl (Or.inl rfl)) (pgs_cons (pg_name (i := 14) sc.nd rfl (Or.inl rfl)) pgs_nil)))) (fun _ _ _ _ _ => pts_nil) (fun _ _ _ _ _ => (pe_tup (pa_cons (pv 14) (pa_cons (pv 13) pa_nil))))) pa_nil))) (pss_cons (ps_if (PW.pt (pw_or (pt_cmpR op_ne (pe_callB call_len_seq rfl T.b_len bt_len (pa_cons (pe_cl C_rooks gd (hr.mono (by first | decide | omega)) (pa_cons (pv 2) (pa_cons (pv 1) (pa_cons (pv 9) pa_nil)))) pa_nil)) (pv 5) (nomark _)) (pw_or1 (pt_cmpR op_notBl (pe_cl C_is_cover gd (hr.mono (by first | decide | omega)) (pa_cons (pv 2) (pa_cons (pv 1) (pa_cons (pv 9) (pa_cons (pe_tup (pa_cons (pe_ix ix_tup (pv 8) pe_int (fun _ _ => rfl)) (pa_cons (pe_ix ix_tup (pv 8) pe_int (fun _ _ => rfl)) pa_nil))) pa_nil))))) pe_bl (nomark _))))) (pss_one (ps_ret pe_bl)) pss_nil) (pss_cons (ps_if (pt_not (pt_val (pe_cl C_is_rooks gd (hr.mono (by first | decide | omega)) (pa_cons (pv 2) (pa_cons (pv 1) (pa_cons (pv 9) (pa_cons (pe_lc (own := [("row", 13), ("column", 14)]) (g := (gTup K 2 (gCons (gName 13) (gCons (gName 14) gNil)))) rfl sc.nd (pi_list (pv 7)) (blkOk_by (N := ["pot", "tall", "wide", "places", "given", "due", "shown", "one", "other", "turned", "out", "left", "fewer", "row", "column"]) (sc := defScope (top 38)) (by decide +kernel)) (fun _ _ _ _ _ => (pg_tup rfl (pgs_cons (pg_name (i := 13) sc.nd rfl (Or.inl rfl)) (pgs_cons (pg_name (i := 14) sc.nd rfl (Or.inl rfl)) pgs_nil)))) (fun _ _ _ _ _ => pts_nil) (fun _ _ _ _ _ => (pe_tup (pa_cons (pv 14) (pa_cons (pv 13) pa_nil))))) pa_nil))))))) (pss_one (ps_ret pe_bl)) pss_nil) (pss_cons (ps_set (i := 10) sc.nd rfl (Or.inl rfl) (pe_cl C__law_draw gd (hr.mono (by first | decide | omega)) (pa_cons (pv 0) (pa_cons (pe_callB call_len_seq rfl T.b_len bt_len (pa_cons (pv 3) pa_nil)) pa_nil)))) (pss_cons (ps_set (i := 11) sc.nd rfl (Or.inl rfl) (pe_op op_cat (pe_slice sl_list (pv 3) po_none (po_some (pv 10))) (pe_slice sl_list (pv 3) (po_some (pe_op op_add (pv 10) pe_int)) po_none))) (pss_cons (ps_if (pt_cmpR (op_eqD hr.units) (pv 11) (pe_lst pa_nil) (nomark _)) (pss_one (ps_ret pe_bl)) pss_nil) (pss_cons (ps_set (i := 12) sc.nd rfl (Or.inl rfl) (pe_cl C__law_most gd (hr.mono (by first | decide | omega)) (pa_cons (pv 1) (pa_cons (pv 11) (pa_cons pe_int (pa_cons (pe_lst pa_nil) pa_nil)))))) (pss_one (ps_ret (pe_and (pe_cmpR op_le (pe_op op_sub (pv 5) pe_int) (pv 12) (nomark _)) (pe_and (pe_cmpR op_le (pv 12) (pv 5) (nomark _)) (pe_one (pe_cmpR op_eq (pe_callB call_len_seq rfl T.b_len bt_len (pa_cons (pe_cl C_rooks gd (hr.mono (by first | decide | omega)) (pa_cons (pv 1) (pa_cons (pv 2) (pa_cons (pv 11) pa_nil)))) pa_nil)) (pv 12) (nomark _)))))))))))))))))))), ?_⟩
  -- tall, wide, places = _law_board(pot, 4)
  refine ⟨_, rfl, p, rfl, hpot, fun t a tall wide rs pl H1 e1 hp1 ht0 ha0 ht ha hp hb => ?_⟩
  refine ⟨t, _, rfl, st_of ht, rfl, _, _, rfl, _, _, rfl, _, _, rfl, rfl, ?_⟩
  have hl := hp.len
  have p16 := hb.p16
  have p1 := hb.p1
  have t4 := hb.t4
  have w4 := hb.w4
  have nap : a ≠ p := fun z => by
    obtain ⟨x, y, h1, _⟩ := hpot
    rw [← z, ha0] at h1; cases h1
  -- given = ..
  refine ⟨fun σ' H' => ∃ (g : Addr) (dd : PyData), σ' = [some (.ref p), some (.int tall), some (.int wide), some (.ref a), some (.ref g), none, none, none, none, none, none, none, none, none, none] ∧ ExB p H H' ∧ Pot H' p ∧ H' a = some (.lst (rs.map V.ref)) ∧ Pts H' rs pl ∧ SqH H' g (rs.map V.ref) ∧ (∀ H'', Ex H' H'' → Dp K H'' (.ref g) dd) ∧ Ro dd, ?_, ?_⟩
  refine ⟨_, rfl, p, 2, rfl, hp1, by decide, by decide, fun d0 H2 e2 hp2 hd0 => ⟨rfl, _, rfl, ?_⟩⟩
  have ha2 := e2 _ _ nap ha
  have hpt2 := hp.pot hp1 e2
  have e02 := e1.trans e2
  have rop : ∀ z ∈ pl, Rp (pD z) := fun z hz => by have := hb.inb z hz; exact rp_p (by omega) (by omega)
  refine ite2 (fun gt => ?_) (fun gt => ?_)
  · refine ⟨_, rfl, a, _, rfl, .inl ⟨sq_of ha2, fun g hg0 => ?_⟩⟩
    have x3 := Ex.new (o := .tup (rs.map V.ref)) hg0
    exact ⟨g, .tuple (pl.map pD), rfl, e02.trans (ExB.of x3), hp2.up x3, x3 _ _ ha2, hpt2.up x3, .inr upd_same, fun H' e' => dp_pt (e' _ _ upd_same) (hpt2.up (x3.trans e')), ro_tup rop (by omega)⟩
  · refine ⟨_, rfl, a, _, rfl, .inl (sq_of ha2), fun g hg0 => ?_⟩
    have x3 := Ex.new (o := .lst (rs.map V.ref)) hg0
    exact ⟨g, .list (pl.map pD), rfl, e02.trans (ExB.of x3), hp2.up x3, x3 _ _ ha2, hpt2.up x3, .inl upd_same, fun H' e' => dp_pl (e' _ _ upd_same) (hpt2.up (x3.trans e')), ro_list rop (by omega)⟩
  rintro σ H3 ⟨g, dd, rfl, e03, pot3, ha3, hp3, hg3, hdd, ro⟩
  have inr : ∀ r c, (r, c) ∈ pl → r < tall := fun r c h => (hb.inb _ h).1
  have hml := most_len (tall := tall) hb.sz.h4 inr
  -- due, shown
  refine ⟨_, rfl, _, rfl, Nat.zero_le _, fun u hu => ?_⟩
  have x4 := Ex.new (o := .lst []) hu
  refine ⟨a, u, tall, 0, rs, pl, [], rfl, x4 _ _ ha3, hp3.up x4, p16, upd_same, Nat.le_refl _, Nat.zero_le _, t4, by omega, fun H4 e4 => ?_⟩
  rw [Nat.sub_zero, hml]
  have y4 := x4.trans e4
  refine ⟨_, rfl, g, dd, rfl, hdd _ y4, ro.sh, ro.nd, ro.dp, ro.ln, _, _, rfl, ?_⟩
  -- one, other
  refine ⟨_, rfl, _, rfl, _, rfl, g, tall, wide, rs, pl, rfl, hg3.up y4, hp3.up y4, hb, fun o rs1 M1 H5 ho0 e5 ho5 hM5 hk => ?_⟩
  have y5 := y4.trans e5
  refine ⟨_, rfl, _, rfl, _, rfl, g, tall, wide, rs, pl, rfl, hg3.up y5, hp3.up y5, hb, fun c x y R C H6 hc0 hx0 hy0 nxy e6 hc hx hy hv => ⟨_, _, rfl, ?_⟩⟩
  have y6 := y5.trans e6
  have kf := hk.f hb.sz
  have cf := hv.f hb
  have n1 : 1 ≤ (seatsOf pl tall).length := by
    rw [← hv.opt.size]
    obtain ⟨z, hz⟩ := List.exists_mem_of_length_pos p1
    rcases hv.opt.cov z.1 z.2 hz with q | q
    · have := List.length_pos_of_mem q; omega
    · have := List.length_pos_of_mem q; omega
  have hfew : fewestM pl tall = (seatsOf pl tall).length := fewest_is hv.opt cf.nR hv.nd inr t4
  -- the three
  refine ⟨_, rfl, _, rfl, _, rfl, a, tall, rs, pl, rfl, y6 _ _ ha3, hp3.up y6, p16, t4, fun H7 e7 => ⟨rfl, _, rfl, ?_⟩⟩
  rw [hfew, decide_eq_true rfl]
  have y7 := y6.trans e7
  have z7 := e6.trans e7
  refine ⟨_, rfl, _, rfl, _, rfl, _, rfl, _, rfl, a, o, tall, wide, (seatsOf pl tall).length, rs, rs1, pl, M1, rfl, y7 _ _ ha3, hp3.up y7, hb, z7 _ _ ho5, hM5.up z7, hk, kf.len.symm, n1, fun H8 e8 => ⟨_, rfl, ?_⟩⟩
  have y8 := y7.trans e8
  have w8 := e7.trans e8
  refine ⟨_, rfl, _, rfl, _, rfl, _, rfl, _, rfl, a, c, x, y, tall, wide, (seatsOf pl tall).length, rs, pl, R, C, rfl, y8 _ _ ha3, hp3.up y8, hb, w8 _ _ hc, w8 _ _ hx, w8 _ _ hy, hv, rfl, n1, fun H9 e9 => ⟨_, rfl, ?_⟩⟩
  have y9 := y8.trans e9
  have w9 := w8.trans e9
  have z9 := e6.trans w9
  -- again, by keywords
  refine ⟨_, rfl, _, rfl, _, rfl, _, _, _, rfl, g, tall, wide, rs, pl, rfl, hg3.up y9, hp3.up y9, hb, fun o2 rs2 M2 H10 _ e10 ho10 hM10 hk2 => ?_⟩
  have z10 := z9.trans e10
  have em := srt_uniq (hk2.pm.trans hk.pm.symm) hk2.so hk.so
  subst em
  refine ⟨_, rfl, _, _, dp_pl ho10 hM10, dp_pl (z10 _ _ ho5) (hM5.up z10), ps_sh _, ps_sh _, _, rfl, ?_⟩
  rw [ps_eqv, decide_eq_true rfl]
  have y10 := y9.trans e10
  have w10 := w9.trans e10
  refine ⟨_, rfl, _, rfl, _, rfl, _, _, _, rfl, g, tall, wide, rs, pl, rfl, hg3.up y10, hp3.up y10, hb, fun c2 x2 y2 R2 C2 H11 _ _ _ _ e11 hc11 hx11 hy11 hv2 => ?_⟩
  obtain ⟨eR, eC⟩ := cv_uniq hv2 hv
  subst eR eC
  have y11 := y10.trans e11
  have w11 := w10.trans e11
  have z11 := z10.trans e11
  refine ⟨_, rfl, _, _, dp_c hc11 hx11 hy11, dp_c (w11 _ _ hc) (w11 _ _ hx) (w11 _ _ hy), cD_sh _ _, cD_sh _ _, _, rfl, ?_⟩
  rw [cD_eqv]
  refine ⟨_, rfl, g, dd, rfl, hdd _ y11, ro.sh, ro.nd, ro.dp, ro.ln, _, rfl, rfl, _, rfl, ?_⟩
  rw [decide_eq_true rfl]
  -- turned
  refine ⟨_, rfl, a, rfl, ⟨_, sq_of (y11 _ _ ha3)⟩, fun D hD => ?_⟩
  refine lcW (walk_list (K := K) (a := a) (xs := rs.map V.ref)) pl (by simp [hl]) (by simp [hl]; omega) (fun _ => true) (Tu fun (z : Nat × Nat) => [.int (z.2 : Nat), .int (z.1 : Nat)]) Stab.tu hD (fun Hb eb => sq_of (eb _ _ (y11 _ _ ha3))) ?_ ?_
  · rintro i z x' Ha Hb N Gt hz ea ⟨rfl, hx'⟩ _ k
    obtain ⟨r, p', rfl, h1, h2⟩ := pts_at (hp3.up (y11.trans ea)) hx'
    cases h1.symm.trans hz
    refine ⟨Ex.refl _, ?_⟩
    refine ⟨r, _, rfl, st_of h2, rfl, _, _, rfl, _, _, rfl, rfl, rfl, ?_⟩
    refine ⟨_, rfl, _, rfl, (by show 2 ≤ sizeLine; decide), fun r5 hr5 => ?_⟩
    exact k rfl _ _ (Ex.new hr5) ⟨r5, rfl, upd_same⟩
  intro acc H12 e12 hD12 hacc
  rw [filter_yes] at hacc
  obtain ⟨ps, rfl, lps, hps⟩ := tu_list hacc
  have hpF := pts_flip hps
  refine ⟨D, _, kOf H12, rfl, sq_of hD12, sort_ok hpF, fun ys tl hsr hst htl => ?_⟩
  obtain ⟨rsT, Tt, rfl, hpT, pmT, soT⟩ := sort_is hpF hsr hst
  have bT := hb.turn pmT soT
  have x13 := Ex.new (o := .lst (rsT.map V.ref)) htl
  have hT13 : upd H12 tl (.lst (rsT.map V.ref)) tl = some (.lst (rsT.map V.ref)) := upd_same
  have hpT13 := hpT.up x13
  have y13 := y11.trans (e12.trans x13)
  have w13 := w11.trans (e12.trans x13)
  have z13 := z11.trans (e12.trans x13)
  generalize upd H12 tl (.lst (rsT.map V.ref)) = H13 at x13 hT13 hpT13 y13 w13 z13 ⊢
  have lT := turn_len hb bT pmT
  -- len(rooks(wide, tall, turned)) != due
  refine ⟨_, rfl, _, rfl, _, rfl, tl, wide, tall, rsT, Tt, rfl, .inl hT13, hpT13, bT, fun o3 rs3 M3 H14 _ e14 ho14 hM14 hk3 => ?_⟩
  have l3 : (rs3.map V.ref).length = (seatsOf pl tall).length := by rw [List.length_map, hM14.len, (hk3.f bT.sz).len, lT]
  refine ⟨o3, _, rfl, .inl (sq_of ho14), _, rfl, rfl, _, rfl, ?_⟩
  rw [l3, decide_eq_true rfl]
  have y14 := y13.trans e14
  have w14 := w13.trans e14
  have z14 := z13.trans e14
  have hT14 := e14 _ _ hT13
  have hpT14 := hpT13.up e14
  refine ⟨_, rfl, _, rfl, _, rfl, _, rfl, c, _, 1, .ref y, rfl, rfl, st_of (w14 _ _ hc), rfl, _, rfl, c, _, 0, .ref x, rfl, rfl, st_of (w14 _ _ hc), rfl, (by show 2 ≤ sizeLine; decide), fun tq htq => ?_⟩
  have x15 := Ex.new (o := .tup [.ref y, .ref x]) htq
  refine ⟨tl, tq, y, x, wide, tall, rsT, Tt, C2, R2, rfl, .inl (x15 _ _ hT14), hpT14.up x15, bT, upd_same, x15 _ _ (w14 _ _ hy), x15 _ _ (w14 _ _ hx), hv.nd, cf.nR, cf.lC, cf.lR, fun H16 e16 => ?_⟩
  have sz2 : C2.length + R2.length = (seatsOf Tt wide).length := by rw [lT, ← cf.size]; omega
  rw [turn_cov cf.cov pmT, decide_eq_true sz2]
  refine ⟨true, true, rfl, rfl, _, rfl, ?_⟩
  have x16 := x15.trans e16
  have y16 := y14.trans x16
  have z16 := z14.trans x16
  have hT16 := x16 _ _ hT14
  have hpT16 := hpT14.up x16
  -- is_rooks of the turned ones
  have lr1 := hM5.len
  have l4 := kf.l4
  refine ⟨_, rfl, _, rfl, _, rfl, _, rfl, o, rfl, ⟨_, sq_of (z16 _ _ ho5)⟩, fun D2 hD2 => ?_⟩
  refine lcW (walk_list (K := K) (a := o) (xs := rs1.map V.ref)) M2 (by simp [lr1]) (by simp [lr1]; omega) (fun _ => true) (Tu fun (z : Nat × Nat) => [.int (z.2 : Nat), .int (z.1 : Nat)]) Stab.tu hD2 (fun Hb eb => sq_of (eb _ _ (z16 _ _ ho5))) ?_ ?_
  · rintro i z x' Ha Hb N Gt hz ea ⟨rfl, hx'⟩ _ k
    obtain ⟨r, p', rfl, h1, h2⟩ := pts_at (hM5.up (z16.trans ea)) hx'
    cases h1.symm.trans hz
    refine ⟨Ex.refl _, ?_⟩
    refine ⟨r, _, rfl, st_of h2, rfl, _, _, rfl, _, _, rfl, rfl, rfl, ?_⟩
    refine ⟨_, rfl, _, rfl, (by show 2 ≤ sizeLine; decide), fun r5 hr5 => ?_⟩
    exact k rfl _ _ (Ex.new hr5) ⟨r5, rfl, upd_same⟩
  intro acc2 H17 e17 hD17 hacc2
  rw [filter_yes] at hacc2
  obtain ⟨ps2, rfl, lps2, hps2⟩ := tu_list hacc2
  have hpF2 := pts_flip hps2
  refine ⟨tl, D2, wide, tall, rsT, ps2, Tt, flip M2, rfl, .inl (e17 _ _ hT16), hpT16.up e17, bT, hD17, hpF2, by rw [flip_len]; omega, by rw [flip_fst]; exact kf.n2, by rw [flip_snd]; exact kf.n1, fun z hz => ?_, fun H18 e18 => ⟨_, rfl, ?_⟩⟩
  · obtain ⟨z1, z2⟩ := z
    exact pmT.mem_iff.mpr (mem_flip.mpr (kf.sub _ (mem_flip.mp hz)))
  rw [decide_eq_true (by rw [flip_len, kf.len, lT] : (flip M2).length = (seatsOf Tt wide).length)]
  have y18 := y16.trans (e17.trans e18)
  -- out, left
  refine ⟨_, rfl, _, rfl, a, _, rfl, .inl (sq_of (y18 _ _ ha3)), p, pl.length, by rw [List.length_map, hl], pot3.up y18, p1, p16, fun d H19 e19 pot19 hd => ?_⟩
  have e0019 : ExB p H H19 := e03.trans ((ExB.of y18).trans e19)
  have ha19 := e19 _ _ nap (y18 _ _ ha3)
  have hp19 := (hp3.up y18).pot (pot3.up y18) e19
  have hld : d ≤ (rs.map V.ref).length := by rw [List.length_map, hl]; omega
  have hld1 : d + 1 ≤ (rs.map V.ref).length := by rw [List.length_map, hl]; omega
  refine ⟨_, rfl, _, rfl, _, rfl, a, _, rfl, sq_of ha19, fun pA hpA => ?_⟩
  rw [cutTo hld, ← List.map_take]
  have x20 := Ex.new (o := .lst ((rs.take d).map V.ref)) hpA
  refine ⟨_, rfl, _, rfl, _, _, rfl, rfl, _, rfl, a, _, rfl, sq_of (x20 _ _ ha19), fun pB hpB => ?_⟩
  rw [show cutV (rs.map V.ref) (some ((d : Int) + 1)) none = (rs.drop (d + 1)).map V.ref from (cutFrom (d := d + 1) hld1).trans (List.map_drop).symm]
  have x21 := Ex.new (o := .lst ((rs.drop (d + 1)).map V.ref)) hpB
  refine ⟨pA, pB, _, _, rfl, rfl, x21 _ _ upd_same, upd_same, ?_, fun pL hpL => ?_⟩
  · rw [List.length_map, List.length_map, List.length_take, List.length_drop, hl]
    exact Nat.le_of_lt (small1000 (by omega))
  rw [← List.map_append]
  have x22 := x20.trans (x21.trans (Ex.new (o := .lst ((rs.take d ++ rs.drop (d + 1)).map V.ref)) hpL))
  have hL22 : upd (upd (upd H19 pA (.lst ((rs.take d).map V.ref))) pB (.lst ((rs.drop (d + 1)).map V.ref))) pL (.lst ((rs.take d ++ rs.drop (d + 1)).map V.ref)) pL = some (.lst ((rs.take d ++ rs.drop (d + 1)).map V.ref)) := upd_same
  generalize upd (upd (upd H19 pA (.lst ((rs.take d).map V.ref))) pB (.lst ((rs.drop (d + 1)).map V.ref))) pL (.lst ((rs.take d ++ rs.drop (d + 1)).map V.ref)) = H22 at x22 hL22 ⊢
  have hpL22 : Pts H22 (rs.take d ++ rs.drop (d + 1)) (pl.take d ++ pl.drop (d + 1)) := paired_app ((hp19.up x22).take d) ((hp19.up x22).drop (d + 1))
  have sub : (pl.take d ++ pl.drop (d + 1)).Sublist pl := by
    have h1 : (pl.take d ++ pl.drop (d + 1)).Sublist (pl.take d ++ pl.drop d) := List.Sublist.append (List.Sublist.refl _) (by
      have : pl.drop (d + 1) = (pl.drop d).drop 1 := by rw [List.drop_drop]
      rw [this]
      exact List.drop_sublist _ _)
    rwa [List.take_append_drop] at h1
  have hx0 : ∀ z ∈ pl, z = pl[d] ∨ z ∈ pl.take d ++ pl.drop (d + 1) := fun z hz => by
    have e : pl = pl.take d ++ pl[d] :: pl.drop (d + 1) := by
      rw [← List.drop_eq_getElem_cons hd, List.take_append_drop]
    rw [e, List.mem_append, List.mem_cons] at hz
    rcases hz with h | h | h
    · exact .inr (List.mem_append_left _ h)
    · exact .inl h
    · exact .inr (List.mem_append_right _ h)
  generalize pl.take d ++ pl.drop (d + 1) = pl' at hpL22 sub hx0
  generalize rs.take d ++ rs.drop (d + 1) = rs' at hL22 hpL22
  have e0022 := e0019.trans (ExB.of x22)
  -- if left == []
  refine ⟨_, rfl, Nat.zero_le _, fun np hnp => ?_⟩
  have x23 := Ex.new (o := .lst []) hnp
  refine ⟨_, _, dp_pl (x23 _ _ hL22) (hpL22.up x23), dp_pl (rs := []) (l := []) upd_same .nil, ps_sh _, ps_sh _, _, rfl, ?_⟩
  rw [ps_eqv]
  have e0023 := e0022.trans (ExB.of x23)
  refine ite2 (fun ge => ?_) (fun ge => ?_)
  · exact q _ e0023
  have ne : pl' ≠ [] := by simpa using ge
  have b' := hb.less sub ne
  have hL23 := x23 _ _ hL22
  have hpL23 := hpL22.up x23
  generalize upd H22 np (.lst []) = H23 at x23 e0023 hL23 hpL23 ⊢
  -- fewer
  refine ⟨_, rfl, _, rfl, Nat.zero_le _, fun u2 hu2 => ?_⟩
  have x24 := Ex.new (o := .lst []) hu2
  refine ⟨pL, u2, tall, 0, rs', pl', [], rfl, x24 _ _ hL23, hpL23.up x24, b'.p16, upd_same, Nat.le_refl _, Nat.zero_le _, t4, by omega, fun H25 e25 => ?_⟩
  have hml' := most_len (pl := pl') (tall := tall) b'.sz.h4 fun r c h => (b'.inb _ h).1
  rw [Nat.sub_zero, hml']
  have x25 := x24.trans e25
  obtain ⟨R', C', o'⟩ := opt_ex (pl := pl') (tall := tall) b'.sz.h4 fun r c h => (b'.inb _ h).1
  have less := less_one hv.opt o' pl[d] hx0 fun z hz => sub.subset hz
  refine ⟨_, rfl, _, _, rfl, rfl, _, rfl, _, _, rfl, rfl, _, rfl, ?_⟩
  rw [decide_eq_true (by omega)]
  refine ⟨_, rfl, _, rfl, _, _, rfl, rfl, _, rfl, ?_⟩
  rw [decide_eq_true (by omega)]
  refine ⟨_, rfl, _, rfl, _, rfl, pL, tall, wide, rs', pl', rfl, .inl (x25 _ _ hL23), hpL23.up x25, b', fun o9 rs9 M9 H26 _ e26 ho26 hM26 hk9 => ?_⟩
  refine ⟨o9, _, rfl, .inl (sq_of ho26), _, rfl, rfl, ?_⟩
  rw [List.length_map, hM26.len, (hk9.f b'.sz).len, decide_eq_true rfl]
  exact q _ (e0023.trans (ExB.of (x25.trans e26)))
def spLaw (K : PySem.W.Frag) : Sp := fun vs H Q _ => ∃ (a : Addr) (ns : List Int), vs = [.ref a] ∧ SqL K H a (ns.map V.int) ∧ ns.length ≤ 63 ∧ ∀ H', Q (.bl true) H'
theorem sc_law : FnScope ["script", "k"] ["script"] (defScope (top 39)) := ⟨rfl, rfl, rfl, by decide +kernel, rfl, by decide +kernel, by decide +kernel⟩
theorem ok_law (F : Fun K "law" "law" (top 39) f fd) (T : Tx mg) (C__law_pot : Cl P w K mg base "_law_pot" 1 ["script", "k"] (spPot K)) (C__law_right : Cl P w K mg base "_law_right" 11 ["pot"] spRight) : FnG P w K mg base 12 f fd ["script"] (spLaw K) := by
  have sc := sc_law
  refine okG F sc (fun vs H Q E h => ?_) (fun cdv A outer s H vs Q gd0 hr h => ?_)
  · obtain ⟨a, ns, rfl, _⟩ := h; rfl
  have gd := deeper_guards (env := envOfC "law" (defScope (top 39)) s.heap.objs.size f cdv) gd0
  obtain ⟨a, ns, rfl, hS, h63, q⟩ := h
  refine ⟨_, (pss_one (ps_ret (pe_callB (cr_all rfl) rfl T.b_all bt_all (pa_cons (pe_lc (own := [("k", 1)]) (g := (gName 1)) rfl sc.nd (pi_range1 rfl T.b_range (pa_cons (pe_callB (call_max2 rfl) rfl T.b_max bt_max (pa_cons pe_int (pa_cons (pe_callB (call_min2 rfl) rfl T.b_min bt_min (pa_cons pe_int (pa_cons (pe_callB call_len_seq rfl T.b_len bt_len (pa_cons (pv 0) pa_nil)) pa_nil))) pa_nil))) pa_nil)) (blkOk_by (N := ["script", "k"]) (sc := defScope (top 39)) (by decide +kernel)) (fun _ _ _ _ _ => (pg_name (i := 1) sc.nd rfl (Or.inl rfl))) (fun _ _ _ _ _ => pts_nil) (fun _ _ _ _ _ => (pe_cl C__law_right gd (hr.mono (by first | decide | omega)) (pa_cons (pe_cl C__law_pot gd (hr.mono (by first | decide | omega)) (pa_cons (pv 0) (pa_cons (pv 1) pa_nil))) pa_nil)))) pa_nil)))), ?_⟩
  refine ⟨_, rfl, a, _, rfl, .inl hS, _, _, rfl, _, _, rfl, _, rfl, ?_, ?_, fun D hD => ?_⟩
  · split <;> (try split) <;> omega
  · split <;> (try split) <;> omega
  have hn : ∃ n : Nat, n ≤ 3 ∧ (if (if (((ns.map V.int).length : Nat) : Int) < 3 then (((ns.map V.int).length : Nat) : Int) else 3) > 1 then (if (((ns.map V.int).length : Nat) : Int) < 3 then (((ns.map V.int).length : Nat) : Int) else 3) else 1).toNat = n := by
    refine ⟨_, ?_, rfl⟩
    split <;> (try split) <;> omega
  obtain ⟨n, n3, en⟩ := hn
  rw [en]
  refine lcW (walk_range (lo := 0) (n := n)) (List.range n) (by simp) (by omega) (fun _ => true) (fun (y : Nat) v _ => v = .bl ((fun _ => true) y)) Stab.bl hD (fun _ _ => trivial) ?_ ?_
  · rintro i y x H4 H5 N Gt hy e4 ⟨rfl, rfl⟩ _ k
    have hyi : i = y := by
      have := (List.getElem?_eq_some_iff.mp hy).2
      simpa using this
    subst hyi
    have hi : i < n := by
      have := (List.getElem?_eq_some_iff.mp hy).1
      simpa using this
    refine ⟨Ex.refl _, rfl, ?_⟩
    refine ⟨_, rfl, _, rfl, a, ns, i, by show [V.ref a, V.int (0 + (i : Int))] = _; rw [Int.zero_add], ex_l e4 hS, by omega, fun p H6 hp0 e6 hp6 => ?_⟩
    refine ⟨p, rfl, hp6, fun H7 e7 => ?_⟩
    refine k rfl _ _ (fun b o hb => e7 b o (fun z => ?_) (e6 b o hb)) rfl
    rw [z, hp0] at hb
    cases hb
  · intro acc H4 e4 hD4 hacc
    rw [filter_yes] at hacc
    have hac := paired_bl hacc
    refine ⟨D, _, rfl, sq_of (hac ▸ hD4), ?_⟩
    rw [all_true (fun b hb' => by obtain ⟨y, hy, rfl⟩ := List.mem_map.mp hb'; rfl)]
    exact q _
end
end B71

namespace B71
open PySem PySem.Spec PyProof.Rows L2
/-! ### from a guarded promise of the law's def to the row's walk -/
/-- a heap of which at most the script at a is known, as a frozen list that is none of the written part's -/
def Sole (K : PySem.W.Frag) (a : Addr) (H : Hp) : Prop := ∀ b, H b = none ∨ (b = a ∧ K.lookup a = none ∧ ∃ ob zs, H b = some (.frz ob (.lst zs)))
section
variable {P : Program} {w : World} {K : PySem.W.Frag} {mg mb : Str → Option Value} {k : Nat} {fa a : Addr} {fd : FuncData} {x : Str} {sp : Sp} {st : Shared} {us : List Value}
theorem law_from {H : Hp} (kin : K.In st.heap) (ng : st.heap.Ns mainGlobals mg) (nb : st.heap.Ns builtinsNs mb) (bt : ∀ y : Str, y ≠ "__name__" → mb y = bootBuiltins y) (nl : st.heap.NoLimit) (ge : st.gens = #[])
    (hs : st.heap.get? a = some { cls := .type "list", data := .seq us.toArray }) (room : Room k callerA) (FG : ∀ bs : Heap, K.In bs → bs.Ns mainGlobals mg → FnG P w K mg bs k fa fd [x] sp)
    (bd : ∀ (s : Shared) (u : Value), BindsTo s fd ⟨[u], []⟩ [(x, u)]) (sole : Sole K a H) (ok : HOk P w H st.heap) (ask : sp [.ref a] H (fun r _ => r = .bl true) E0) :
    codeAny (model P w) callerA (.call (.ref fa) ⟨[.ref a], []⟩) (fun r t => r = .ok (.ret (.bool true)) ∧ OldK st.heap t.heap ∧ t.os = st.os ∧ AllBare t.gens) st := by
  -- what is not the script is hidden from nobody
  have away : ∀ {b : Addr}, H b ≠ none → b = a ∧ K.lookup a = none := fun {b} h => (sole b).elim (fun z => absurd z h) fun z => ⟨z.1, z.2.1⟩
  have dicts : ∀ {b : Addr} {m : Str → Option Value}, st.heap.Ns b m → (hidT st.heap H).Ns b m := by
    rintro b m ⟨ob, es, ep, g1, g2, g3⟩
    refine ⟨ob, es, ep, hidT_get g1 ?_, g2, g3⟩
    refine Classical.byContradiction fun h => ?_
    obtain ⟨rfl, _⟩ := away h
    cases hs.symm.trans g1
    cases g2
  have kin' : K.In (hidT st.heap H) := fun b ob g => hidT_get (kin b ob g) (Classical.byContradiction fun h => by
    obtain ⟨rfl, h2⟩ := away h
    cases h2.symm.trans g)
  obtain ⟨mc, c1, c2⟩ := nl
  have env : Env0 P w K mg (hidT st.heap H) callerA [] st H :=
    { frames := rfl, mod := { kin := kin', glob := dicts ng, blt := ⟨mb, dicts nb, bt⟩, nolimit := ⟨mc, dicts c1, c2⟩ }, bs := fun b ob g => of_hidT g, bsz := Nat.le_of_eq (hidT_size _ _), funs := trivial, frf := fun b hb => (List.not_mem_nil hb).elim, hok := ok, bare := .of_eq ge }
  have run := (FG _ kin' (dicts ng)).go callerA [] st H ⟨[.ref a], []⟩ [.ref a] [.ref a] (fun r _ => r = .bl true) rfl room env (bd st (.ref a)) (.cons rfl .nil) ask
  refine codeAny_mono run fun r t h => ?_
  match r, h with
  | .error e, h => exact False.elim h
  | .ok .next, h => exact False.elim h
  | .ok .brk, h => exact False.elim h
  | .ok .cont, h => exact False.elim h
  | .ok (.ret u), h =>
    obtain ⟨v, G, o1, o2, un, ok', rv, hv⟩ := h
    subst hv
    cases (show u = Value.bool true from rv)
    refine ⟨rfl, OldK.of_keep fun b ob g => ?_, o1, o2⟩
    rcases sole b with z | ⟨_, _, o', zs, z⟩
    · exact un.keep b ob g z (List.not_mem_nil) (List.not_mem_nil)
    · have k1 := (ok b _ z).1
      have k2 := (ok' b _ (un.frzs b o' _ z)).1
      rw [g] at k1
      rw [k2, ← k1]
end
theorem walkG {l : PySem.W.OpenLaw} {n k : Nat} {q : Program} {loose : List Str} {XP : (Str → Option Value) → Heap → Prop} {YP : World → Heap → Prop} {d : DefRec} {K : Params → PySem.W.Frag} {sp : PySem.W.Frag → Sp} {x : Str}
    (most : l.most = some n) (small : n ≤ sizeLine) (plain : d.params.defaults = []) (room : Room k callerA) (kin : ∀ (w : World) (h : Heap), YP w h → (K w.params).In h)
    (defs : ∀ (w : World) (mg : Str → Option Value) (fa : Addr) (h : Heap), (K w.params).In h → h.Ns mainGlobals mg → mg d.name = some (.ref fa) →
      ∃ fd : FuncData, (∀ (s : Shared) (u : Value), BindsTo s fd ⟨[u], []⟩ [(x, u)]) ∧ ∀ bs : Heap, (K w.params).In bs → bs.Ns mainGlobals mg → FnG l.prog w (K w.params) mg bs k fa fd [x] (sp (K w.params)))
    (ask : ∀ (F : PySem.W.Frag) (H : Hp) (a : Addr) (ns : List Int), ns.length ≤ n → SqL F H a (ns.map V.int) → sp F [.ref a] H (fun r _ => r = .bl true) E0) : PySem.W.WalkO q loose XP YP l.row.toRowW d [] (fun f vs => PySem.call f vs) := by
  refine Att.attach_call most plain fun w s0 st mg mb fa o pm cd doc a us ns G Y ho hd hcd hmg hobj hni len gens => ?_
  have KX := kin w _ Y
  obtain ⟨fd, bd, FG⟩ := defs w mg fa _ KX G.T.g hmg
  have rv := vals_ints hni
  have lu := hni.length
  have len' : ns.length ≤ sizeLine := Nat.le_trans len small
  cases hk : (K w.params).lookup a with
  | some ob =>
    -- the script stands in the written part
    have g := KX a ob hk
    cases hobj.symm.trans g
    have sq : SqL (K w.params) (fun _ => none) a (ns.map V.int) := .inr ⟨_, us.toArray, _, hk, rfl, rfl, rfl, by rw [List.size_toArray, lu]; exact len', by simpa using rv⟩
    exact law_from (H := fun _ => none) KX G.T.g G.T.b G.T.builtins G.T.nolimit gens hobj room FG bd (fun _ => .inl rfl) (fun b u z => by cases (show (none : Option HO) = some u from z)) (ask _ _ a ns len sq)
  | none =>
    have at_a : ∀ {u : HO}, (fun b => if b = a then some (HO.frz { cls := .type "list", data := .seq us.toArray } (.lst (ns.map V.int))) else none : Hp) a = some u → u = .frz { cls := .type "list", data := .seq us.toArray } (.lst (ns.map V.int)) := fun z => by
      simp only [if_pos] at z
      exact (Option.some.inj z).symm
    refine law_from (H := fun b => if b = a then some (.frz { cls := .type "list", data := .seq us.toArray } (.lst (ns.map V.int))) else none) KX G.T.g G.T.b G.T.builtins G.T.nolimit gens hobj room FG bd (fun b => ?_) (fun b u z => ?_) (ask _ _ a ns len (.inl (.inr ⟨{ cls := .type "list", data := .seq us.toArray }, if_pos rfl⟩)))
    · by_cases e : b = a
      · exact .inr ⟨e, hk, _, _, if_pos e⟩
      · exact .inl (if_neg e)
    · by_cases e : b = a
      · subst e
        cases at_a z
        exact ⟨hobj, by rw [List.length_map]; exact len', us, _, rv, hobj⟩
      · simp only [if_neg e] at z
        cases z
end B71

namespace B71
open PySem PySem.Spec PyProof.Rows L2
/-! ### the top has written the defs -/
theorem all_mk {l : PySem.W.OpenLaw} {w : World} {K : PySem.W.Frag} {h : Heap} {mg : Str → Option Value} {fa T8 : Addr} (X : K.In h) (G : h.Ns mainGlobals mg) (hfa : mg "law" = some (.ref fa))
    {f5 : Addr} {od5 an5 : Option Addr} {sl5 : Array (Option Value)} {oc5 kV5 dc5 pm5 cd5 ct5 : Value}
    {f6 : Addr} {od6 an6 : Option Addr} {sl6 : Array (Option Value)} {oc6 kV6 dc6 pm6 cd6 ct6 : Value}
    {f7 : Addr} {od7 an7 : Option Addr} {sl7 : Array (Option Value)} {oc7 kV7 dc7 pm7 cd7 ct7 : Value}
    {f8 : Addr} {od8 an8 : Option Addr} {sl8 : Array (Option Value)} {oc8 kV8 dc8 pm8 cd8 ct8 : Value}
    {f12 : Addr} {od12 an12 : Option Addr} {sl12 : Array (Option Value)} {oc12 kV12 dc12 pm12 cd12 ct12 : Value}
    {f13 : Addr} {od13 an13 : Option Addr} {sl13 : Array (Option Value)} {oc13 kV13 dc13 pm13 cd13 ct13 : Value}
    {f15 : Addr} {od15 an15 : Option Addr} {sl15 : Array (Option Value)} {oc15 kV15 dc15 pm15 cd15 ct15 : Value}
    {f17 : Addr} {od17 an17 : Option Addr} {sl17 : Array (Option Value)} {oc17 kV17 dc17 pm17 cd17 ct17 : Value}
    {f18 : Addr} {od18 an18 : Option Addr} {sl18 : Array (Option Value)} {oc18 kV18 dc18 pm18 cd18 ct18 : Value}
    {f19 : Addr} {od19 an19 : Option Addr} {sl19 : Array (Option Value)} {oc19 kV19 dc19 pm19 cd19 ct19 : Value}
    {f20 : Addr} {od20 an20 : Option Addr} {sl20 : Array (Option Value)} {oc20 kV20 dc20 pm20 cd20 ct20 : Value}
    {f21 : Addr} {od21 an21 : Option Addr} {sl21 : Array (Option Value)} {oc21 kV21 dc21 pm21 cd21 ct21 : Value}
    {f22 : Addr} {od22 an22 : Option Addr} {sl22 : Array (Option Value)} {oc22 kV22 dc22 pm22 cd22 ct22 : Value}
    {f24 : Addr} {od24 an24 : Option Addr} {sl24 : Array (Option Value)} {oc24 kV24 dc24 pm24 cd24 ct24 : Value}
    {f25 : Addr} {od25 an25 : Option Addr} {sl25 : Array (Option Value)} {oc25 kV25 dc25 pm25 cd25 ct25 : Value}
    {f26 : Addr} {od26 an26 : Option Addr} {sl26 : Array (Option Value)} {oc26 kV26 dc26 pm26 cd26 ct26 : Value}
    {f27 : Addr} {od27 an27 : Option Addr} {sl27 : Array (Option Value)} {oc27 kV27 dc27 pm27 cd27 ct27 : Value}
    {f28 : Addr} {od28 an28 : Option Addr} {sl28 : Array (Option Value)} {oc28 kV28 dc28 pm28 cd28 ct28 : Value}
    {f30 : Addr} {od30 an30 : Option Addr} {sl30 : Array (Option Value)} {oc30 kV30 dc30 pm30 cd30 ct30 : Value}
    {f31 : Addr} {od31 an31 : Option Addr} {sl31 : Array (Option Value)} {oc31 kV31 dc31 pm31 cd31 ct31 : Value}
    {f32 : Addr} {od32 an32 : Option Addr} {sl32 : Array (Option Value)} {oc32 kV32 dc32 pm32 cd32 ct32 : Value}
    {f33 : Addr} {od33 an33 : Option Addr} {sl33 : Array (Option Value)} {oc33 kV33 dc33 pm33 cd33 ct33 : Value}
    {f34 : Addr} {od34 an34 : Option Addr} {sl34 : Array (Option Value)} {oc34 kV34 dc34 pm34 cd34 ct34 : Value}
    {f35 : Addr} {od35 an35 : Option Addr} {sl35 : Array (Option Value)} {oc35 kV35 dc35 pm35 cd35 ct35 : Value}
    {f36 : Addr} {od36 an36 : Option Addr} {sl36 : Array (Option Value)} {oc36 kV36 dc36 pm36 cd36 ct36 : Value}
    {f37 : Addr} {od37 an37 : Option Addr} {sl37 : Array (Option Value)} {oc37 kV37 dc37 pm37 cd37 ct37 : Value}
    {f38 : Addr} {od38 an38 : Option Addr} {sl38 : Array (Option Value)} {oc38 kV38 dc38 pm38 cd38 ct38 : Value}
    {f39 : Addr} {od39 an39 : Option Addr} {sl39 : Array (Option Value)} {oc39 kV39 dc39 pm39 cd39 ct39 : Value}
    {d8 : Option Addr} {n8 : Nat} {s8 : Array (Option Value)} {t4 t16 : Tok}
    (a5 : PySem.W.nsIn K mainGlobals "is_integer" = some (some (.ref f5))) (l5 : K.lookup f5 = some ⟨oc5, od5, .func (PySem.W.fnOf "is_integer" "is_integer" (defArgs (top 5)) (defBody (top 5)) (defScope (top 5)) .none kV5 dc5 pm5 an5 cd5 ct5), sl5⟩) (c5 : PySem.W.codeIn K cd5 "is_integer" = true) (k5 : PySem.W.keepIn K (.ref f5) = true)
    (a6 : PySem.W.nsIn K mainGlobals "is_count" = some (some (.ref f6))) (l6 : K.lookup f6 = some ⟨oc6, od6, .func (PySem.W.fnOf "is_count" "is_count" (defArgs (top 6)) (defBody (top 6)) (defScope (top 6)) .none kV6 dc6 pm6 an6 cd6 ct6), sl6⟩) (c6 : PySem.W.codeIn K cd6 "is_count" = true) (k6 : PySem.W.keepIn K (.ref f6) = true)
    (a7 : PySem.W.nsIn K mainGlobals "is_list" = some (some (.ref f7))) (l7 : K.lookup f7 = some ⟨oc7, od7, .func (PySem.W.fnOf "is_list" "is_list" (defArgs (top 7)) (defBody (top 7)) (defScope (top 7)) .none kV7 dc7 pm7 an7 cd7 ct7), sl7⟩) (c7 : PySem.W.codeIn K cd7 "is_list" = true) (k7 : PySem.W.keepIn K (.ref f7) = true)
    (a8 : PySem.W.nsIn K mainGlobals "want_many" = some (some (.ref f8))) (l8 : K.lookup f8 = some ⟨oc8, od8, .func (PySem.W.fnOf "want_many" "want_many" (defArgs (top 8)) (defBody (top 8)) (defScope (top 8)) (.ref T8) kV8 dc8 pm8 an8 cd8 ct8), sl8⟩) (c8 : PySem.W.codeIn K cd8 "want_many" = true) (k8 : PySem.W.keepIn K (.ref f8) = true)
    (a12 : PySem.W.nsIn K mainGlobals "want_side" = some (some (.ref f12))) (l12 : K.lookup f12 = some ⟨oc12, od12, .func (PySem.W.fnOf "want_side" "want_side" (defArgs (top 12)) (defBody (top 12)) (defScope (top 12)) .none kV12 dc12 pm12 an12 cd12 ct12), sl12⟩) (c12 : PySem.W.codeIn K cd12 "want_side" = true) (k12 : PySem.W.keepIn K (.ref f12) = true)
    (a13 : PySem.W.nsIn K mainGlobals "is_place_makers" = some (some (.ref f13))) (l13 : K.lookup f13 = some ⟨oc13, od13, .func (PySem.W.fnOf "is_place" "is_place" (defArgs (top 13)) (defBody (top 13)) (defScope (top 13)) .none kV13 dc13 pm13 an13 cd13 ct13), sl13⟩) (c13 : PySem.W.codeIn K cd13 "is_place" = true) (k13 : PySem.W.keepIn K (.ref f13) = true)
    (a15 : PySem.W.nsIn K mainGlobals "want_places" = some (some (.ref f15))) (l15 : K.lookup f15 = some ⟨oc15, od15, .func (PySem.W.fnOf "want_places" "want_places" (defArgs (top 15)) (defBody (top 15)) (defScope (top 15)) .none kV15 dc15 pm15 an15 cd15 ct15), sl15⟩) (c15 : PySem.W.codeIn K cd15 "want_places" = true) (k15 : PySem.W.keepIn K (.ref f15) = true)
    (a17 : PySem.W.nsIn K mainGlobals "free_way" = some (some (.ref f17))) (l17 : K.lookup f17 = some ⟨oc17, od17, .func (PySem.W.fnOf "free_way" "free_way" (defArgs (top 17)) (defBody (top 17)) (defScope (top 17)) .none kV17 dc17 pm17 an17 cd17 ct17), sl17⟩) (c17 : PySem.W.codeIn K cd17 "free_way" = true) (k17 : PySem.W.keepIn K (.ref f17) = true)
    (a18 : PySem.W.nsIn K mainGlobals "seats_of" = some (some (.ref f18))) (l18 : K.lookup f18 = some ⟨oc18, od18, .func (PySem.W.fnOf "seats_of" "seats_of" (defArgs (top 18)) (defBody (top 18)) (defScope (top 18)) .none kV18 dc18 pm18 an18 cd18 ct18), sl18⟩) (c18 : PySem.W.codeIn K cd18 "seats_of" = true) (k18 : PySem.W.keepIn K (.ref f18) = true)
    (a19 : PySem.W.nsIn K mainGlobals "rooks_of" = some (some (.ref f19))) (l19 : K.lookup f19 = some ⟨oc19, od19, .func (PySem.W.fnOf "rooks_of" "rooks_of" (defArgs (top 19)) (defBody (top 19)) (defScope (top 19)) .none kV19 dc19 pm19 an19 cd19 ct19), sl19⟩) (c19 : PySem.W.codeIn K cd19 "rooks_of" = true) (k19 : PySem.W.keepIn K (.ref f19) = true)
    (a20 : PySem.W.nsIn K mainGlobals "cover_of" = some (some (.ref f20))) (l20 : K.lookup f20 = some ⟨oc20, od20, .func (PySem.W.fnOf "cover_of" "cover_of" (defArgs (top 20)) (defBody (top 20)) (defScope (top 20)) .none kV20 dc20 pm20 an20 cd20 ct20), sl20⟩) (c20 : PySem.W.codeIn K cd20 "cover_of" = true) (k20 : PySem.W.keepIn K (.ref f20) = true)
    (a21 : PySem.W.nsIn K mainGlobals "unlike_counts" = some (some (.ref f21))) (l21 : K.lookup f21 = some ⟨oc21, od21, .func (PySem.W.fnOf "unlike_counts" "unlike_counts" (defArgs (top 21)) (defBody (top 21)) (defScope (top 21)) .none kV21 dc21 pm21 an21 cd21 ct21), sl21⟩) (c21 : PySem.W.codeIn K cd21 "unlike_counts" = true) (k21 : PySem.W.keepIn K (.ref f21) = true)
    (a22 : PySem.W.nsIn K mainGlobals "is_place_boards" = some (some (.ref f22))) (l22 : K.lookup f22 = some ⟨oc22, od22, .func (PySem.W.fnOf "is_place" "is_place" (defArgs (top 22)) (defBody (top 22)) (defScope (top 22)) .none kV22 dc22 pm22 an22 cd22 ct22), sl22⟩) (c22 : PySem.W.codeIn K cd22 "is_place" = true) (k22 : PySem.W.keepIn K (.ref f22) = true)
    (a24 : PySem.W.nsIn K mainGlobals "spare_one_another" = some (some (.ref f24))) (l24 : K.lookup f24 = some ⟨oc24, od24, .func (PySem.W.fnOf "spare_one_another" "spare_one_another" (defArgs (top 24)) (defBody (top 24)) (defScope (top 24)) .none kV24 dc24 pm24 an24 cd24 ct24), sl24⟩) (c24 : PySem.W.codeIn K cd24 "spare_one_another" = true) (k24 : PySem.W.keepIn K (.ref f24) = true)
    (a25 : PySem.W.nsIn K mainGlobals "rooks" = some (some (.ref f25))) (l25 : K.lookup f25 = some ⟨oc25, od25, .func (PySem.W.fnOf "rooks" "rooks" (defArgs (top 25)) (defBody (top 25)) (defScope (top 25)) .none kV25 dc25 pm25 an25 cd25 ct25), sl25⟩) (c25 : PySem.W.codeIn K cd25 "rooks" = true) (k25 : PySem.W.keepIn K (.ref f25) = true)
    (a26 : PySem.W.nsIn K mainGlobals "cover" = some (some (.ref f26))) (l26 : K.lookup f26 = some ⟨oc26, od26, .func (PySem.W.fnOf "cover" "cover" (defArgs (top 26)) (defBody (top 26)) (defScope (top 26)) .none kV26 dc26 pm26 an26 cd26 ct26), sl26⟩) (c26 : PySem.W.codeIn K cd26 "cover" = true) (k26 : PySem.W.keepIn K (.ref f26) = true)
    (a27 : PySem.W.nsIn K mainGlobals "is_rooks" = some (some (.ref f27))) (l27 : K.lookup f27 = some ⟨oc27, od27, .func (PySem.W.fnOf "is_rooks" "is_rooks" (defArgs (top 27)) (defBody (top 27)) (defScope (top 27)) .none kV27 dc27 pm27 an27 cd27 ct27), sl27⟩) (c27 : PySem.W.codeIn K cd27 "is_rooks" = true) (k27 : PySem.W.keepIn K (.ref f27) = true)
    (a28 : PySem.W.nsIn K mainGlobals "is_cover" = some (some (.ref f28))) (l28 : K.lookup f28 = some ⟨oc28, od28, .func (PySem.W.fnOf "is_cover" "is_cover" (defArgs (top 28)) (defBody (top 28)) (defScope (top 28)) .none kV28 dc28 pm28 an28 cd28 ct28), sl28⟩) (c28 : PySem.W.codeIn K cd28 "is_cover" = true) (k28 : PySem.W.keepIn K (.ref f28) = true)
    (a30 : PySem.W.nsIn K mainGlobals "_law_pot" = some (some (.ref f30))) (l30 : K.lookup f30 = some ⟨oc30, od30, .func (PySem.W.fnOf "_law_pot" "_law_pot" (defArgs (top 30)) (defBody (top 30)) (defScope (top 30)) .none kV30 dc30 pm30 an30 cd30 ct30), sl30⟩) (c30 : PySem.W.codeIn K cd30 "_law_pot" = true) (k30 : PySem.W.keepIn K (.ref f30) = true)
    (a31 : PySem.W.nsIn K mainGlobals "_law_draw" = some (some (.ref f31))) (l31 : K.lookup f31 = some ⟨oc31, od31, .func (PySem.W.fnOf "_law_draw" "_law_draw" (defArgs (top 31)) (defBody (top 31)) (defScope (top 31)) .none kV31 dc31 pm31 an31 cd31 ct31), sl31⟩) (c31 : PySem.W.codeIn K cd31 "_law_draw" = true) (k31 : PySem.W.keepIn K (.ref f31) = true)
    (a32 : PySem.W.nsIn K mainGlobals "_law_board" = some (some (.ref f32))) (l32 : K.lookup f32 = some ⟨oc32, od32, .func (PySem.W.fnOf "_law_board" "_law_board" (defArgs (top 32)) (defBody (top 32)) (defScope (top 32)) .none kV32 dc32 pm32 an32 cd32 ct32), sl32⟩) (c32 : PySem.W.codeIn K cd32 "_law_board" = true) (k32 : PySem.W.keepIn K (.ref f32) = true)
    (a33 : PySem.W.nsIn K mainGlobals "_law_most" = some (some (.ref f33))) (l33 : K.lookup f33 = some ⟨oc33, od33, .func (PySem.W.fnOf "_law_most" "_law_most" (defArgs (top 33)) (defBody (top 33)) (defScope (top 33)) .none kV33 dc33 pm33 an33 cd33 ct33), sl33⟩) (c33 : PySem.W.codeIn K cd33 "_law_most" = true) (k33 : PySem.W.keepIn K (.ref f33) = true)
    (a34 : PySem.W.nsIn K mainGlobals "_law_lots" = some (some (.ref f34))) (l34 : K.lookup f34 = some ⟨oc34, od34, .func (PySem.W.fnOf "_law_lots" "_law_lots" (defArgs (top 34)) (defBody (top 34)) (defScope (top 34)) .none kV34 dc34 pm34 an34 cd34 ct34), sl34⟩) (c34 : PySem.W.codeIn K cd34 "_law_lots" = true) (k34 : PySem.W.keepIn K (.ref f34) = true)
    (a35 : PySem.W.nsIn K mainGlobals "_law_fewest" = some (some (.ref f35))) (l35 : K.lookup f35 = some ⟨oc35, od35, .func (PySem.W.fnOf "_law_fewest" "_law_fewest" (defArgs (top 35)) (defBody (top 35)) (defScope (top 35)) .none kV35 dc35 pm35 an35 cd35 ct35), sl35⟩) (c35 : PySem.W.codeIn K cd35 "_law_fewest" = true) (k35 : PySem.W.keepIn K (.ref f35) = true)
    (a36 : PySem.W.nsIn K mainGlobals "_law_rooks_right" = some (some (.ref f36))) (l36 : K.lookup f36 = some ⟨oc36, od36, .func (PySem.W.fnOf "_law_rooks_right" "_law_rooks_right" (defArgs (top 36)) (defBody (top 36)) (defScope (top 36)) .none kV36 dc36 pm36 an36 cd36 ct36), sl36⟩) (c36 : PySem.W.codeIn K cd36 "_law_rooks_right" = true) (k36 : PySem.W.keepIn K (.ref f36) = true)
    (a37 : PySem.W.nsIn K mainGlobals "_law_cover_right" = some (some (.ref f37))) (l37 : K.lookup f37 = some ⟨oc37, od37, .func (PySem.W.fnOf "_law_cover_right" "_law_cover_right" (defArgs (top 37)) (defBody (top 37)) (defScope (top 37)) .none kV37 dc37 pm37 an37 cd37 ct37), sl37⟩) (c37 : PySem.W.codeIn K cd37 "_law_cover_right" = true) (k37 : PySem.W.keepIn K (.ref f37) = true)
    (a38 : PySem.W.nsIn K mainGlobals "_law_right" = some (some (.ref f38))) (l38 : K.lookup f38 = some ⟨oc38, od38, .func (PySem.W.fnOf "_law_right" "_law_right" (defArgs (top 38)) (defBody (top 38)) (defScope (top 38)) .none kV38 dc38 pm38 an38 cd38 ct38), sl38⟩) (c38 : PySem.W.codeIn K cd38 "_law_right" = true) (k38 : PySem.W.keepIn K (.ref f38) = true)
    (a39 : PySem.W.nsIn K mainGlobals "law" = some (some (.ref f39))) (l39 : K.lookup f39 = some ⟨oc39, od39, .func (PySem.W.fnOf "law" "law" (defArgs (top 39)) (defBody (top 39)) (defScope (top 39)) .none kV39 dc39 pm39 an39 cd39 ct39), sl39⟩) (c39 : PySem.W.codeIn K cd39 "law" = true) (k39 : PySem.W.keepIn K (.ref f39) = true)
    (l8T : K.lookup T8 = some ⟨.type "tuple", d8, .seq #[.none] n8, s8⟩)
    (g4 : PySem.W.nsIn K mainGlobals "MOST_SIDE" = some (some (.int 4 t4))) (g16 : PySem.W.nsIn K mainGlobals "MOST_TABLES" = some (some (.int 16 t16)))
    (z_len : PySem.W.nsIn K mainGlobals "len" = some none) (z_abs : PySem.W.nsIn K mainGlobals "abs" = some none) (z_max : PySem.W.nsIn K mainGlobals "max" = some none) (z_min : PySem.W.nsIn K mainGlobals "min" = some none) (z_repr : PySem.W.nsIn K mainGlobals "repr" = some none) (z_divmod : PySem.W.nsIn K mainGlobals "divmod" = some none) (z_all : PySem.W.nsIn K mainGlobals "all" = some none) (z_isinstance : PySem.W.nsIn K mainGlobals "isinstance" = some none) (z_sorted : PySem.W.nsIn K mainGlobals "sorted" = some none) (z_int : PySem.W.nsIn K mainGlobals "int" = some none) (z_bool : PySem.W.nsIn K mainGlobals "bool" = some none) (z_list : PySem.W.nsIn K mainGlobals "list" = some none) (z_tuple : PySem.W.nsIn K mainGlobals "tuple" = some none) (z_dict : PySem.W.nsIn K mainGlobals "dict" = some none) (z_range : PySem.W.nsIn K mainGlobals "range" = some none) (z_zip : PySem.W.nsIn K mainGlobals "zip" = some none) :
    ∃ fd : FuncData, (∀ (s : Shared) (v : Value), BindsTo s fd ⟨[v], []⟩ [("script", v)]) ∧ ∀ base : Heap, K.In base → base.Ns mainGlobals mg → FnG l.prog w K mg base 12 fa fd ["script"] (spLaw K) := by
  have e := hfa.symm.trans (PySem.W.mg_of X G a39)
  cases e
  have T : Tx mg := { b_len := PySem.W.mg_none_of X G z_len, b_abs := PySem.W.mg_none_of X G z_abs, b_max := PySem.W.mg_none_of X G z_max, b_min := PySem.W.mg_none_of X G z_min, b_repr := PySem.W.mg_none_of X G z_repr, b_divmod := PySem.W.mg_none_of X G z_divmod, b_all := PySem.W.mg_none_of X G z_all, b_isinstance := PySem.W.mg_none_of X G z_isinstance, b_sorted := PySem.W.mg_none_of X G z_sorted, b_int := PySem.W.mg_none_of X G z_int, b_bool := PySem.W.mg_none_of X G z_bool, b_list := PySem.W.mg_none_of X G z_list, b_tuple := PySem.W.mg_none_of X G z_tuple, b_dict := PySem.W.mg_none_of X G z_dict, b_range := PySem.W.mg_none_of X G z_range, b_zip := PySem.W.mg_none_of X G z_zip }
  have F5 := fun_mk (st := top 5) l5 c5 k5
  have b5 := F5.binds (ps := ["value"]) fun _ _ _ _ _ _ us hl => match us, hl with | [_], _ => rfl
  have F6 := fun_mk (st := top 6) l6 c6 k6
  have b6 := F6.binds (ps := ["value"]) fun _ _ _ _ _ _ us hl => match us, hl with | [_], _ => rfl
  have F7 := fun_mk (st := top 7) l7 c7 k7
  have b7 := F7.binds (ps := ["value"]) fun _ _ _ _ _ _ us hl => match us, hl with | [_], _ => rfl
  have F8 : FunD K "want_many" "want_many" (defArgs (top 8)) (defBody (top 8)) (defScope (top 8)) [.non] [] f8 _ := ⟨⟨oc8, od8, .ref T8, kV8, dc8, pm8, an8, cd8, ct8, sl8, rfl, l8, c8, .inr ⟨by simp, T8, _, [.none], n8, rfl, l8T, rfl, .cons rfl .nil⟩, .inl rfl⟩, k8⟩
  obtain ⟨ds8, v8, b8⟩ := F8.binds1 (ps := ["value", "most"]) 2 1 (by simp) rfl fun _ _ _ _ _ _ _ us its hl hi => match us, its, hl, hi with | [_, _], [_], _, _ => ⟨_, rfl, rfl⟩
  cases v8
  have F12 := fun_mk (st := top 12) l12 c12 k12
  have b12 := F12.binds (ps := ["value"]) fun _ _ _ _ _ _ us hl => match us, hl with | [_], _ => rfl
  have F13 := fun_mk (st := top 13) l13 c13 k13
  have b13 := F13.binds (ps := ["value", "tall", "wide"]) fun _ _ _ _ _ _ us hl => match us, hl with | [_, _, _], _ => rfl
  have F15 := fun_mk (st := top 15) l15 c15 k15
  have b15 := F15.binds (ps := ["tall", "wide", "value"]) fun _ _ _ _ _ _ us hl => match us, hl with | [_, _, _], _ => rfl
  have F17 := fun_mk (st := top 17) l17 c17 k17
  have b17 := F17.binds (ps := ["places", "row", "seats", "tried"]) fun _ _ _ _ _ _ us hl => match us, hl with | [_, _, _, _], _ => rfl
  have F18 := fun_mk (st := top 18) l18 c18 k18
  have b18 := F18.binds (ps := ["tall", "places"]) fun _ _ _ _ _ _ us hl => match us, hl with | [_, _], _ => rfl
  have F19 := fun_mk (st := top 19) l19 c19 k19
  have b19 := F19.binds (ps := ["tall", "wide", "places"]) fun _ _ _ _ _ _ us hl => match us, hl with | [_, _, _], _ => rfl
  have F20 := fun_mk (st := top 20) l20 c20 k20
  have b20 := F20.binds (ps := ["tall", "wide", "places"]) fun _ _ _ _ _ _ us hl => match us, hl with | [_, _, _], _ => rfl
  have F21 := fun_mk (st := top 21) l21 c21 k21
  have b21 := F21.binds (ps := ["value", "most"]) fun _ _ _ _ _ _ us hl => match us, hl with | [_, _], _ => rfl
  have F22 := fun_mk (st := top 22) l22 c22 k22
  have b22 := F22.binds (ps := ["value"]) fun _ _ _ _ _ _ us hl => match us, hl with | [_], _ => rfl
  have F24 := fun_mk (st := top 24) l24 c24 k24
  have b24 := F24.binds (ps := ["places"]) fun _ _ _ _ _ _ us hl => match us, hl with | [_], _ => rfl
  have F25 := fun_mk (st := top 25) l25 c25 k25
  have b25 := F25.binds (ps := ["tall", "wide", "places"]) fun _ _ _ _ _ _ us hl => match us, hl with | [_, _, _], _ => rfl
  have F26 := fun_mk (st := top 26) l26 c26 k26
  have b26 := F26.binds (ps := ["tall", "wide", "places"]) fun _ _ _ _ _ _ us hl => match us, hl with | [_, _, _], _ => rfl
  have F27 := fun_mk (st := top 27) l27 c27 k27
  have b27 := F27.binds (ps := ["tall", "wide", "places", "value"]) fun _ _ _ _ _ _ us hl => match us, hl with | [_, _, _, _], _ => rfl
  have F28 := fun_mk (st := top 28) l28 c28 k28
  have b28 := F28.binds (ps := ["tall", "wide", "places", "value"]) fun _ _ _ _ _ _ us hl => match us, hl with | [_, _, _, _], _ => rfl
  have F30 := fun_mk (st := top 30) l30 c30 k30
  have b30 := F30.binds (ps := ["script", "k"]) fun _ _ _ _ _ _ us hl => match us, hl with | [_, _], _ => rfl
  have F31 := fun_mk (st := top 31) l31 c31 k31
  have b31 := F31.binds (ps := ["pot", "many"]) fun _ _ _ _ _ _ us hl => match us, hl with | [_, _], _ => rfl
  have F32 := fun_mk (st := top 32) l32 c32 k32
  have b32 := F32.binds (ps := ["pot", "most"]) fun _ _ _ _ _ _ us hl => match us, hl with | [_, _], _ => rfl
  have F33 := fun_mk (st := top 33) l33 c33 k33
  have b33 := F33.binds (ps := ["tall", "places", "row", "used"]) fun _ _ _ _ _ _ us hl => match us, hl with | [_, _, _, _], _ => rfl
  have F34 := fun_mk (st := top 34) l34 c34 k34
  have b34 := F34.binds (ps := ["many"]) fun _ _ _ _ _ _ us hl => match us, hl with | [_], _ => rfl
  have F35 := fun_mk (st := top 35) l35 c35 k35
  have b35 := F35.binds (ps := ["tall", "places"]) fun _ _ _ _ _ _ us hl => match us, hl with | [_, _], _ => rfl
  have F36 := fun_mk (st := top 36) l36 c36 k36
  have b36 := F36.binds (ps := ["tall", "wide", "places", "told", "due"]) fun _ _ _ _ _ _ us hl => match us, hl with | [_, _, _, _, _], _ => rfl
  have F37 := fun_mk (st := top 37) l37 c37 k37
  have b37 := F37.binds (ps := ["tall", "wide", "places", "told", "due"]) fun _ _ _ _ _ _ us hl => match us, hl with | [_, _, _, _, _], _ => rfl
  have F38 := fun_mk (st := top 38) l38 c38 k38
  have b38 := F38.binds (ps := ["pot"]) fun _ _ _ _ _ _ us hl => match us, hl with | [_], _ => rfl
  have F39 := fun_mk (st := top 39) l39 c39 k39
  refine ⟨PySem.W.fnOf "law" "law" (defArgs (top 39)) (defBody (top 39)) (defScope (top 39)) .none kV39 dc39 pm39 an39 cd39 ct39, fun s v => .of_eq rfl, fun base _ _ => ?_⟩
  have C_is_integer : Cl l.prog w K mg base "is_integer" 1 ["value"] spIsInt := ⟨_, _, ok_is_integer F5 T, b5, k5, PySem.W.mg_of X G a5⟩
  have C_is_count : Cl l.prog w K mg base "is_count" 2 ["value"] spCount := ⟨_, _, ok_is_count F6 T C_is_integer, b6, k6, PySem.W.mg_of X G a6⟩
  have C_is_list : Cl l.prog w K mg base "is_list" 1 ["value"] spList := ⟨_, _, ok_is_list F7 T, b7, k7, PySem.W.mg_of X G a7⟩
  have C_want_many : Cl l.prog w K mg base "want_many" 3 ["value", "most"] spWantMany := ⟨_, _, ok_want_many F8 T C_is_count, b8, k8, PySem.W.mg_of X G a8⟩
  have C_want_side : Cl l.prog w K mg base "want_side" 4 ["value"] spWantSide := ⟨_, _, ok_want_side F12 T (PySem.W.mg_of X G g4) C_want_many, b12, k12, PySem.W.mg_of X G a12⟩
  have C_is_place1 : Cl l.prog w K mg base "is_place_makers" 3 ["value", "tall", "wide"] spPlace1 := ⟨_, _, ok_is_place1 F13 T C_is_count, b13, k13, PySem.W.mg_of X G a13⟩
  have C_want_places : Cl l.prog w K mg base "want_places" 5 ["tall", "wide", "value"] spWantPlaces := ⟨_, _, ok_want_places F15 T (PySem.W.mg_of X G g16) C_want_side C_is_list C_is_place1, b15, k15, PySem.W.mg_of X G a15⟩
  have C_free_way := free_way_all (P := l.prog) (w := w) (base := base) F17 T b17 (PySem.W.mg_of X G a17) 5
  have C_seats_of : Cl l.prog w K mg base "seats_of" 7 ["tall", "places"] spSeats := ⟨_, _, ok_seats_of F18 T C_free_way, b18, k18, PySem.W.mg_of X G a18⟩
  have C_rooks_of : Cl l.prog w K mg base "rooks_of" 8 ["tall", "wide", "places"] spRooksOf := ⟨_, _, ok_rooks_of F19 T C_seats_of, b19, k19, PySem.W.mg_of X G a19⟩
  have C_cover_of : Cl l.prog w K mg base "cover_of" 8 ["tall", "wide", "places"] spCoverOf := ⟨_, _, ok_cover_of F20 T C_seats_of, b20, k20, PySem.W.mg_of X G a20⟩
  have C_unlike_counts : Cl l.prog w K mg base "unlike_counts" 3 ["value", "most"] spUnlike := ⟨_, _, ok_unlike_counts F21 T C_is_list C_is_count, b21, k21, PySem.W.mg_of X G a21⟩
  have C_is_place2 : Cl l.prog w K mg base "is_place_boards" 3 ["value"] spPlace2 := ⟨_, _, ok_is_place2 F22 T C_is_count, b22, k22, PySem.W.mg_of X G a22⟩
  have C_spare_one_another : Cl l.prog w K mg base "spare_one_another" 1 ["places"] spSpare := ⟨_, _, ok_spare F24 T, b24, k24, PySem.W.mg_of X G a24⟩
  have C_rooks : Cl l.prog w K mg base "rooks" 9 ["tall", "wide", "places"] spRooks := ⟨_, _, ok_rooks F25 T C_rooks_of C_want_places, b25, k25, PySem.W.mg_of X G a25⟩
  have CK_rooks : ClK l.prog w K mg base "rooks" 9 ["tall", "wide", "places"] spRooks "places" "wide" "tall" := ⟨_, _, ok_rooks F25 T C_rooks_of C_want_places, fun s u1 u2 u3 => .of_eq rfl, k25, PySem.W.mg_of X G a25⟩
  have C_cover : Cl l.prog w K mg base "cover" 9 ["tall", "wide", "places"] spCover := ⟨_, _, ok_cover F26 T C_cover_of C_want_places, b26, k26, PySem.W.mg_of X G a26⟩
  have CK_cover : ClK l.prog w K mg base "cover" 9 ["tall", "wide", "places"] spCover "places" "wide" "tall" := ⟨_, _, ok_cover F26 T C_cover_of C_want_places, fun s u1 u2 u3 => .of_eq rfl, k26, PySem.W.mg_of X G a26⟩
  have C_is_rooks : Cl l.prog w K mg base "is_rooks" 9 ["tall", "wide", "places", "value"] spIsRooks := ⟨_, _, ok_is_rooks F27 T C_want_places C_is_list C_is_place2 C_spare_one_another C_rooks_of, b27, k27, PySem.W.mg_of X G a27⟩
  have C_is_cover : Cl l.prog w K mg base "is_cover" 9 ["tall", "wide", "places", "value"] spIsCover := ⟨_, _, ok_is_cover F28 T C_want_places C_unlike_counts C_rooks_of, b28, k28, PySem.W.mg_of X G a28⟩
  have C__law_pot : Cl l.prog w K mg base "_law_pot" 1 ["script", "k"] (spPot K) := ⟨_, _, ok_law_pot F30 T, b30, k30, PySem.W.mg_of X G a30⟩
  have C__law_draw : Cl l.prog w K mg base "_law_draw" 1 ["pot", "many"] spDraw := ⟨_, _, ok_law_draw F31 T, b31, k31, PySem.W.mg_of X G a31⟩
  have C__law_board : Cl l.prog w K mg base "_law_board" 2 ["pot", "most"] spBoard := ⟨_, _, ok_law_board F32 T C__law_draw, b32, k32, PySem.W.mg_of X G a32⟩
  have C__law_most := most_all (P := l.prog) (w := w) (base := base) F33 T b33 (PySem.W.mg_of X G a33) 5
  have C__law_lots : Cl l.prog w K mg base "_law_lots" 1 ["many"] spLots := ⟨_, _, ok_law_lots F34 T, b34, k34, PySem.W.mg_of X G a34⟩
  have C__law_fewest : Cl l.prog w K mg base "_law_fewest" 2 ["tall", "places"] spFewest := ⟨_, _, ok_law_fewest F35 T C__law_lots, b35, k35, PySem.W.mg_of X G a35⟩
  have C__law_rooks_right : Cl l.prog w K mg base "_law_rooks_right" 10 ["tall", "wide", "places", "told", "due"] spRooksRight := ⟨_, _, ok_rooks_right F36 T C_is_rooks, b36, k36, PySem.W.mg_of X G a36⟩
  have C__law_cover_right : Cl l.prog w K mg base "_law_cover_right" 10 ["tall", "wide", "places", "told", "due"] spCoverRight := ⟨_, _, ok_cover_right F37 T C_is_cover, b37, k37, PySem.W.mg_of X G a37⟩
  have C__law_right : Cl l.prog w K mg base "_law_right" 11 ["pot"] spRight := ⟨_, _, ok_law_right F38 T C__law_board C__law_draw C__law_most C_rooks C_cover C__law_fewest C__law_rooks_right C__law_cover_right CK_rooks CK_cover C_is_cover C_is_rooks, b38, k38, PySem.W.mg_of X G a38⟩
  exact ok_law F39 T C__law_pot C__law_right
end B71

open PySem PySem.W PyProof.Rows in
set_option maxRecDepth 100000 in
set_option maxHeartbeats 0 in
theorem PySem.Challenge.cw_shrunkrooms_k71_whole_rooks_and_covers_holds : PySem.Challenge.rw_shrunkrooms_k71_whole_rooks_and_covers.Holds := by
  w_on; o_law; k_head; (case hw => w_witness2)
  k_fill
  refine B71.walkG (l := PySem.Challenge.rw_shrunkrooms_k71_whole_rooks_and_covers) (n := 63) (k := 12) (x := "script") (sp := B71.spLaw) rfl (by decide) rfl ⟨rfl, by decide, by decide⟩ (fun w h Y => PySem.W.kIn_of Y) ?F (fun _ _ a ns hl hS => ⟨a, ns, rfl, hS, hl, fun _ => rfl⟩)
  case F =>
    intro w mg fa h KX G hmg
    refine' B71.all_mk KX G hmg ?a5 ?l5 ?c5 ?k5 ?a6 ?l6 ?c6 ?k6 ?a7 ?l7 ?c7 ?k7 ?a8 ?l8 ?c8 ?k8 ?a12 ?l12 ?c12 ?k12 ?a13 ?l13 ?c13 ?k13 ?a15 ?l15 ?c15 ?k15 ?a17 ?l17 ?c17 ?k17 ?a18 ?l18 ?c18 ?k18 ?a19 ?l19 ?c19 ?k19 ?a20 ?l20 ?c20 ?k20 ?a21 ?l21 ?c21 ?k21 ?a22 ?l22 ?c22 ?k22 ?a24 ?l24 ?c24 ?k24 ?a25 ?l25 ?c25 ?k25 ?a26 ?l26 ?c26 ?k26 ?a27 ?l27 ?c27 ?k27 ?a28 ?l28 ?c28 ?k28 ?a30 ?l30 ?c30 ?k30 ?a31 ?l31 ?c31 ?k31 ?a32 ?l32 ?c32 ?k32 ?a33 ?l33 ?c33 ?k33 ?a34 ?l34 ?c34 ?k34 ?a35 ?l35 ?c35 ?k35 ?a36 ?l36 ?c36 ?k36 ?a37 ?l37 ?c37 ?k37 ?a38 ?l38 ?c38 ?k38 ?a39 ?l39 ?c39 ?k39 ?l8T ?g4 ?g16 ?z_len ?z_abs ?z_max ?z_min ?z_repr ?z_divmod ?z_all ?z_isinstance ?z_sorted ?z_int ?z_bool ?z_list ?z_tuple ?z_dict ?z_range ?z_zip
    (case a5 => k_is)
    (case l5 => k_is)
    (case c5 => k_is)
    (case k5 => k_is)
    (case a6 => k_is)
    (case l6 => k_is)
    (case c6 => k_is)
    (case k6 => k_is)
    (case a7 => k_is)
    (case l7 => k_is)
    (case c7 => k_is)
    (case k7 => k_is)
    (case a8 => k_is)
    (case l8 => k_is)
    (case c8 => k_is)
    (case k8 => k_is)
    (case a12 => k_is)
    (case l12 => k_is)
    (case c12 => k_is)
    (case k12 => k_is)
    (case a13 => k_is)
    (case l13 => k_is)
    (case c13 => k_is)
    (case k13 => k_is)
    (case a15 => k_is)
    (case l15 => k_is)
    (case c15 => k_is)
    (case k15 => k_is)
    (case a17 => k_is)
    (case l17 => k_is)
    (case c17 => k_is)
    (case k17 => k_is)
    (case a18 => k_is)
    (case l18 => k_is)
    (case c18 => k_is)
    (case k18 => k_is)
    (case a19 => k_is)
    (case l19 => k_is)
    (case c19 => k_is)
    (case k19 => k_is)
    (case a20 => k_is)
    (case l20 => k_is)
    (case c20 => k_is)
    (case k20 => k_is)
    (case a21 => k_is)
    (case l21 => k_is)
    (case c21 => k_is)
    (case k21 => k_is)
    (case a22 => k_is)
    (case l22 => k_is)
    (case c22 => k_is)
    (case k22 => k_is)
    (case a24 => k_is)
    (case l24 => k_is)
    (case c24 => k_is)
    (case k24 => k_is)
    (case a25 => k_is)
    (case l25 => k_is)
    (case c25 => k_is)
    (case k25 => k_is)
    (case a26 => k_is)
    (case l26 => k_is)
    (case c26 => k_is)
    (case k26 => k_is)
    (case a27 => k_is)
    (case l27 => k_is)
    (case c27 => k_is)
    (case k27 => k_is)
    (case a28 => k_is)
    (case l28 => k_is)
    (case c28 => k_is)
    (case k28 => k_is)
    (case a30 => k_is)
    (case l30 => k_is)
    (case c30 => k_is)
    (case k30 => k_is)
    (case a31 => k_is)
    (case l31 => k_is)
    (case c31 => k_is)
    (case k31 => k_is)
    (case a32 => k_is)
    (case l32 => k_is)
    (case c32 => k_is)
    (case k32 => k_is)
    (case a33 => k_is)
    (case l33 => k_is)
    (case c33 => k_is)
    (case k33 => k_is)
    (case a34 => k_is)
    (case l34 => k_is)
    (case c34 => k_is)
    (case k34 => k_is)
    (case a35 => k_is)
    (case l35 => k_is)
    (case c35 => k_is)
    (case k35 => k_is)
    (case a36 => k_is)
    (case l36 => k_is)
    (case c36 => k_is)
    (case k36 => k_is)
    (case a37 => k_is)
    (case l37 => k_is)
    (case c37 => k_is)
    (case k37 => k_is)
    (case a38 => k_is)
    (case l38 => k_is)
    (case c38 => k_is)
    (case k38 => k_is)
    (case a39 => k_is)
    (case l39 => k_is)
    (case c39 => k_is)
    (case k39 => k_is)
    (case l8T => k_is)
    (case g4 => k_is)
    (case g16 => k_is)
    (case z_len => k_is)
    (case z_abs => k_is)
    (case z_max => k_is)
    (case z_min => k_is)
    (case z_repr => k_is)
    (case z_divmod => k_is)
    (case z_all => k_is)
    (case z_isinstance => k_is)
    (case z_sorted => k_is)
    (case z_int => k_is)
    (case z_bool => k_is)
    (case z_list => k_is)
    (case z_tuple => k_is)
    (case z_dict => k_is)
    (case z_range => k_is)
    (case z_zip => k_is)

