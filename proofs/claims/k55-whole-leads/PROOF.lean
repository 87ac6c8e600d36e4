import PyProof.Rows.All
import Wide.All
import OpenK.AllK
import Wide.FinOn
import HandS.Base
import HandS.Call
import HandS.Words
import HandS.Dict
import PyProof.DictMoreH
import HandS.GenList
import HandS.List
import HandS.Comp
import HandS.DictComp
import HandS.Exc
import HandS.Defaults
import HandS.HeadHook1
import HandS.HeadHook2
import HandS.ForMost
import HandS.Walk
import HandS.Flow
import HandS.IsInst
import HandS.Deep
import HandS.Wide
import HandS.WideMore
import HandS.WideBits
import HandS.Conv
import HandS.TupLen
import HandS.EndBits
import KE.KStateDown
import HandS.Ends
import HandS.Head0
import HandS.Head1
import HandS.Head2
import HandS.HeadEnd
import PySem.Challenge.RW_pairorder_k55_whole_leads
set_option linter.all false
/-! Plain mathematics of the law: no program in sight. -/
namespace K55
abbrev Pr := Nat × Nat
theorem getD_out {α : Type} {l : List α} {n : Nat} (d : α) (h : l.length ≤ n) : l.getD n d = d := by
  rw [List.getD_eq_getElem?_getD, List.getElem?_eq_none h]; rfl
theorem getD_in {α : Type} {l : List α} {n : Nat} (d : α) (h : n < l.length) : l.getD n d = l[n] := by
  rw [List.getD_eq_getElem?_getD, List.getElem?_eq_getElem h]; rfl
abbrev Row := List (Option Int)
abbrev Grid := List Row
abbrev Nds := List (Pr × List (List Pr))
def cell (g : Grid) (i j : Nat) : Option Int := (g.getD i []).getD j none
def val (o : Option Int) : Int := o.getD 0
def rowSpots (i : Nat) (row : Row) : List Pr := ((List.range row.length).filter fun j => (row.getD j none).isSome).map fun j => (i, j)
def spots (g : Grid) : List Pr := (List.range g.length).flatMap fun i => rowSpots i (g.getD i [])
theorem mem_spots {g : Grid} {p : Pr} : p ∈ spots g ↔ (cell g p.1 p.2).isSome = true := by
  obtain ⟨i, j⟩ := p
  unfold spots rowSpots cell
  simp only [List.mem_flatMap, List.mem_range, List.mem_map, List.mem_filter, Prod.mk.injEq]
  constructor
  · rintro ⟨a, ha, b, ⟨hb, hs⟩, rfl, rfl⟩
    exact hs
  · intro h
    have hj : j < (g.getD i []).length := by
      apply Decidable.byContradiction
      intro hn
      rw [getD_out _ (by omega)] at h
      cases h
    have hi : i < g.length := by
      apply Decidable.byContradiction
      intro hn
      rw [getD_out _ (by omega)] at hj
      simp at hj
    exact ⟨i, hi, j, ⟨hj, h⟩, rfl, rfl⟩
theorem nodup_spots (g : Grid) : (spots g).Nodup := by
  unfold spots
  unfold List.Nodup
  rw [List.pairwise_flatMap]
  refine ⟨fun i _ => ?_, ?_⟩
  · unfold rowSpots
    rw [List.pairwise_map]
    refine List.Pairwise.imp ?_ (List.Pairwise.filter _ (List.nodup_range (n := (g.getD i []).length)))
    intro a b hab h
    exact hab (Prod.mk.inj h).2
  · refine List.Pairwise.imp ?_ (List.nodup_range (n := g.length))
    intro a b hab x hx y hy h
    unfold rowSpots at hx hy
    obtain ⟨_, _, rfl⟩ := List.mem_map.mp hx
    obtain ⟨_, _, rfl⟩ := List.mem_map.mp hy
    exact hab (Prod.mk.inj h).1
/-! needs -/
def dearer (g : Grid) (i j r s : Nat) : Bool := match cell g r s with
  | none => true
  | some z => decide (val (cell g i s) + val (cell g r j) < val (cell g i j) + z)
def cross (g : Grid) (i j r s : Nat) : Bool :=
  if r = i ∨ s = j then false else if cell g i s = none ∨ cell g r j = none then false else dearer g i j r s
def wid (g : Grid) : Nat := (g.getD 0 []).length
def crossRow (g : Grid) (i j r : Nat) (n : Nat) : List (List Pr) := (List.range n).flatMap fun s => if cross g i j r s = true then [[(i, s), (r, j)]] else []
def crossNeeds (g : Grid) (i j : Nat) (m : Nat) : List (List Pr) := (List.range m).flatMap fun r => crossRow g i j r (wid g)
def cheaper (g : Grid) (r s i j : Nat) : Bool := !decide (cell g r s = none) && decide (val (cell g r s) < val (cell g i j))
def colNeeds (g : Grid) (i j : Nat) (m : Nat) : List (List Pr) := (List.range m).flatMap fun r => if cheaper g r j i j = true then [[(r, j)]] else []
def rowNeeds (g : Grid) (i j : Nat) (n : Nat) : List (List Pr) := (List.range n).flatMap fun s => if cheaper g i s i j = true then [[(i, s)]] else []
def needsOf (g : Grid) (c w : Bool) (i j : Nat) : List (List Pr) :=
  crossNeeds g i j g.length ++ ((if c = true then colNeeds g i j g.length else []) ++ (if w = true then rowNeeds g i j (wid g) else []))
def nds (g : Grid) (c w : Bool) : Nds := (spots g).map fun p => (p, needsOf g c w p.1 p.2)
theorem nds_keys (g : Grid) (c w : Bool) : (nds g c w).map (·.1) = spots g := by
  unfold nds
  rw [List.map_map]
  exact List.map_id' _
theorem nds_length (g : Grid) (c w : Bool) : (nds g c w).length = (spots g).length := by
  unfold nds
  rw [List.length_map]
theorem mem_nds {g : Grid} {c w : Bool} {p : Pr} {own : List (List Pr)} : (p, own) ∈ nds g c w ↔ p ∈ spots g ∧ own = needsOf g c w p.1 p.2 := by
  unfold nds
  rw [List.mem_map]
  constructor
  · rintro ⟨q, hq, e⟩
    obtain ⟨rfl, rfl⟩ := Prod.mk.inj e
    exact ⟨hq, rfl⟩
  · rintro ⟨h, rfl⟩
    exact ⟨p, h, rfl⟩
def hit (placed : List Pr) (p : Pr) : Bool := decide (p ∈ placed)
def met (own : List (List Pr)) (placed : List Pr) : Bool := own.all fun need => need.any (hit placed)
theorem hit_mono {a b : List Pr} (h : ∀ p ∈ a, p ∈ b) {p : Pr} (x : hit a p = true) : hit b p = true := decide_eq_true (h p (of_decide_eq_true x))
theorem met_mono {own : List (List Pr)} {a b : List Pr} (h : ∀ p ∈ a, p ∈ b) (x : met own a = true) : met own b = true := by
  unfold met at *
  rw [List.all_eq_true] at *
  intro need hn
  obtain ⟨p, hp, hh⟩ := List.any_eq_true.mp (x need hn)
  exact List.any_eq_true.mpr ⟨p, hp, hit_mono h hh⟩
def openL (nd : Nds) (placed : List Pr) : List Pr := (nd.filter fun e => !hit placed e.1 && met e.2 placed).map (·.1)
theorem mem_openL {nd : Nds} {placed : List Pr} {q : Pr} : q ∈ openL nd placed ↔ q ∉ placed ∧ ∃ own, (q, own) ∈ nd ∧ met own placed = true := by
  unfold openL hit
  simp only [List.mem_map, List.mem_filter, Bool.and_eq_true, Bool.not_eq_true', decide_eq_false_iff_not]
  constructor
  · rintro ⟨⟨a, own⟩, ⟨h1, h2, h3⟩, rfl⟩
    exact ⟨h2, own, h1, h3⟩
  · rintro ⟨h2, own, h1, h3⟩
    exact ⟨(q, own), ⟨h1, h2, h3⟩, rfl⟩
/-- every pair stands behind what it needs -/
def RightO (nd : Nds) (one : List Pr) : Prop := ∀ k p own, one[k]? = some p → (p, own) ∈ nd → met own (one.take k) = true
structure Part (nd : Nds) (placed : List Pr) : Prop where
  nodup : placed.Nodup
  sub : ∀ p ∈ placed, p ∈ nd.map (·.1)
  ok : RightO nd placed
structure Ord (nd : Nds) (one : List Pr) : Prop extends Part nd one where
  len : one.length = nd.length
theorem sub_len : ∀ {a b : List Pr}, a.Nodup → (∀ p ∈ a, p ∈ b) → a.length ≤ b.length
  | [], b, _, _ => Nat.zero_le _
  | x :: a, b, h, s => by
    obtain ⟨h1, h2⟩ := List.nodup_cons.mp h
    have hx : x ∈ b := s x List.mem_cons_self
    have q := sub_len (a := a) (b := b.erase x) h2 fun p hp => (List.mem_erase_of_ne (fun e => h1 (by rw [← e]; exact hp))).mpr (s p (List.mem_cons_of_mem _ hp))
    rw [List.length_erase_of_mem hx] at q
    have := List.length_pos_of_mem hx
    rw [List.length_cons]
    omega
theorem sub_full {a b : List Pr} (h : a.Nodup) (s : ∀ p ∈ a, p ∈ b) (e : b.length ≤ a.length) : ∀ p ∈ b, p ∈ a := by
  intro p hp
  apply Decidable.byContradiction
  intro hn
  have q := sub_len (a := a) (b := b.erase p) h fun x hx => (List.mem_erase_of_ne (fun e => hn (by rw [← e]; exact hx))).mpr (s x hx)
  rw [List.length_erase_of_mem hp] at q
  have := List.length_pos_of_mem hp
  omega
theorem not_full {a b : List Pr} (hb : b.Nodup) (e : a.length < b.length) : ∃ p ∈ b, p ∉ a := by
  apply Decidable.byContradiction
  intro hn
  have q := sub_len (a := b) (b := a) hb fun p hp => Decidable.byContradiction fun z => hn ⟨p, hp, z⟩
  omega
def NoStuck (nd : Nds) : Prop := ∀ placed : List Pr, placed.length < nd.length → openL nd placed ≠ []
theorem part_nil (nd : Nds) : Part nd [] := ⟨List.nodup_nil, fun _ h => (by cases h), fun k p own h => (by simp at h)⟩
theorem part_snoc {nd : Nds} (hk : (nd.map (·.1)).Nodup) {placed : List Pr} {q : Pr} (P : Part nd placed) (hq : q ∈ openL nd placed) : Part nd (placed ++ [q]) := by
  obtain ⟨h1, own, h2, h3⟩ := mem_openL.mp hq
  refine ⟨?_, fun p hp => ?_, fun k p own' hp ho => ?_⟩
  · rw [List.nodup_append]
    refine ⟨P.nodup, by simp, fun a ha b hb => ?_⟩
    rw [List.mem_singleton.mp hb]
    intro e
    exact h1 (e ▸ ha)
  · rcases List.mem_append.mp hp with hp | hp
    · exact P.sub p hp
    · rw [List.mem_singleton.mp hp]
      exact List.mem_map.mpr ⟨(q, own), h2, rfl⟩
  · by_cases hl : k < placed.length
    · rw [List.getElem?_append_left hl] at hp
      rw [List.take_append_of_le_length (by omega)]
      exact P.ok k p own' hp ho
    · rw [List.getElem?_append_right (by omega)] at hp
      have e : k - placed.length = 0 := by
        apply Decidable.byContradiction
        intro z
        rw [List.getElem?_eq_none (by simp; omega)] at hp
        cases hp
      rw [e] at hp
      have ep : q = p := Option.some.inj hp
      subst ep
      have ek : k = placed.length := by omega
      subst ek
      rw [List.take_left]
      have eo : own' = own := by
        have := List.pairwise_map.mp hk
        -- two entries of the same key are one
        have u : ∀ (l : Nds), l.Pairwise (fun a b => a.1 ≠ b.1) → (q, own) ∈ l → (q, own') ∈ l → own' = own := by
          intro l
          induction l with
          | nil => intro _ z; cases z
          | cons a l ih =>
            intro hp m1 m2
            obtain ⟨g1, g2⟩ := List.pairwise_cons.mp hp
            rcases List.mem_cons.mp m1 with e1 | e1
            · rcases List.mem_cons.mp m2 with e2 | e2
              · rw [← e2] at e1
                exact (Prod.mk.inj e1).2.symm
              · exact absurd (by rw [← e1]) (g1 _ e2)
            · rcases List.mem_cons.mp m2 with e2 | e2
              · exact absurd (by rw [← e2]) (g1 _ e1)
              · exact ih g2 e1 e2
        exact u nd this h2 ho
      rw [eo]
      exact h3
theorem Ord.mem {nd : Nds} {one : List Pr} (o : Ord nd one) : ∀ p ∈ nd.map (·.1), p ∈ one := sub_full o.nodup o.sub (by rw [List.length_map, o.len]; exact Nat.le_refl _)
theorem noStuck_of_ord {nd : Nds} (hk : (nd.map (·.1)).Nodup) {one : List Pr} (o : Ord nd one) : NoStuck nd := by
  intro placed hl he
  -- the first pair of the order that is not placed
  have key : ∀ (k : Nat), k ≤ one.length → (∀ p ∈ one.take k, p ∈ placed) := by
    intro k
    induction k with
    | zero => intro _ p hp; simp at hp
    | succ k ih =>
      intro hk1 p hp
      have ih' := ih (by omega)
      have hlt : k < one.length := by omega
      rw [List.take_succ_eq_append_getElem hlt] at hp
      rcases List.mem_append.mp hp with hp | hp
      · exact ih' p hp
      · have ep := List.mem_singleton.mp hp
        apply Decidable.byContradiction
        intro hn
        have hg : one[k]? = some p := by rw [ep]; exact List.getElem?_eq_getElem hlt
        obtain ⟨⟨p', own⟩, hm, e⟩ := List.mem_map.mp (o.sub p (List.mem_of_getElem? hg))
        have e : p' = p := e
        subst e
        have hmet := met_mono ih' (o.ok k p' own hg hm)
        have : p' ∈ openL nd placed := mem_openL.mpr ⟨hn, own, hm, hmet⟩
        rw [he] at this
        cases this
  have all := key one.length (Nat.le_refl _)
  rw [List.take_length] at all
  obtain ⟨p, hp, hn⟩ := not_full hk (a := placed) (by rw [List.length_map]; exact hl)
  exact hn (all p (o.mem p hp))
theorem keys_nodup (g : Grid) (c w : Bool) : ((nds g c w).map (·.1)).Nodup := by rw [nds_keys]; exact nodup_spots g
/-- the least of a list -/
theorem least (f : Pr → Int) : ∀ l : List Pr, l ≠ [] → ∃ q ∈ l, ∀ p ∈ l, f q ≤ f p
  | [], h => absurd rfl h
  | [x], _ => ⟨x, List.mem_cons_self, fun p hp => by rw [List.mem_singleton.mp hp]; exact Int.le_refl _⟩
  | x :: y :: l, _ => by
    obtain ⟨q, hq, h⟩ := least f (y :: l) (by simp)
    by_cases e : f x ≤ f q
    · refine ⟨x, List.mem_cons_self, fun p hp => ?_⟩
      rcases List.mem_cons.mp hp with z | z
      · rw [z]; exact Int.le_refl _
      · exact Int.le_trans e (h p z)
    · refine ⟨q, List.mem_cons_of_mem _ hq, fun p hp => ?_⟩
      rcases List.mem_cons.mp hp with z | z
      · rw [z]; omega
      · exact h p z
theorem noStuck_row {g : Grid} (h1 : g.length = 1) (c w : Bool) : NoStuck (nds g c w) := by
  intro placed hl he
  have hne : (spots g).filter (fun p => !hit placed p) ≠ [] := by
    intro z
    obtain ⟨p, hp, hn⟩ := not_full (nodup_spots g) (a := placed) (by rw [← nds_length g c w]; exact hl)
    have : p ∈ (spots g).filter (fun p => !hit placed p) := List.mem_filter.mpr ⟨hp, by unfold hit; simp [hn]⟩
    rw [z] at this
    cases this
  obtain ⟨q, hq, hmin⟩ := least (fun p => val (cell g p.1 p.2)) _ hne
  obtain ⟨hqs, hqn⟩ := List.mem_filter.mp hq
  have hqn' : q ∉ placed := by
    unfold hit at hqn
    simpa using hqn
  have h0 : ∀ p ∈ spots g, p.1 = 0 := by
    intro p hp
    unfold spots at hp
    rw [h1] at hp
    obtain ⟨i, hi, hx⟩ := List.mem_flatMap.mp hp
    unfold rowSpots at hx
    obtain ⟨_, _, rfl⟩ := List.mem_map.mp hx
    have := List.mem_range.mp hi
    show i = 0
    omega
  have hq0 := h0 q hqs
  have hm : met (needsOf g c w q.1 q.2) placed = true := by
    unfold met
    rw [List.all_eq_true]
    intro need hneed
    unfold needsOf at hneed
    rw [h1] at hneed
    rcases List.mem_append.mp hneed with z | z
    · unfold crossNeeds crossRow at z
      obtain ⟨r, hr, z⟩ := List.mem_flatMap.mp z
      obtain ⟨s, hs, z⟩ := List.mem_flatMap.mp z
      have r0 : r = 0 := by have := List.mem_range.mp hr; omega
      have : cross g q.1 q.2 r s = false := by
        unfold cross
        rw [if_pos (Or.inl (by rw [hq0, r0]))]
      rw [if_neg (by rw [this]; decide)] at z
      cases z
    · rcases List.mem_append.mp z with z | z
      · cases c with
        | false => simp at z
        | true =>
          simp only [if_true] at z
          unfold colNeeds at z
          obtain ⟨r, hr, z⟩ := List.mem_flatMap.mp z
          have r0 : r = 0 := by have := List.mem_range.mp hr; omega
          have : cheaper g r q.2 q.1 q.2 = false := by
            unfold cheaper
            rw [r0, hq0]
            simp
          rw [if_neg (by rw [this]; decide)] at z
          cases z
      · cases w with
        | false => simp at z
        | true =>
          simp only [if_true] at z
          unfold rowNeeds at z
          obtain ⟨s, hs, z⟩ := List.mem_flatMap.mp z
          by_cases hc : cheaper g q.1 s q.1 q.2 = true
          · rw [if_pos hc] at z
            rw [List.mem_singleton.mp z]
            unfold cheaper at hc
            rw [Bool.and_eq_true] at hc
            obtain ⟨hc1, hc2⟩ := hc
            have hin : (q.1, s) ∈ spots g := mem_spots.mpr (by
              show (cell g q.1 s).isSome = true
              cases e : cell g q.1 s with
              | none => rw [e] at hc1; simp at hc1
              | some _ => rfl)
            have hpl : (q.1, s) ∈ placed := by
              apply Decidable.byContradiction
              intro hn
              have := hmin (q.1, s) (List.mem_filter.mpr ⟨hin, by unfold hit; simp [hn]⟩)
              have h3 := of_decide_eq_true hc2
              dsimp only at this
              omega
            simp [hit, hpl]
          · rw [if_neg hc] at z
            cases z
  have : q ∈ openL (nds g c w) placed := mem_openL.mpr ⟨hqn', _, mem_nds.mpr ⟨hqs, rfl⟩, hm⟩
  rw [he] at this
  cases this
/-! faults -/
structure NoBar (g : Grid) (c w : Bool) (bh : List Pr) (i j : Nat) : Prop where
  cr : ∀ r s, r ≠ i → s ≠ j → (r, j) ∈ bh → (i, s) ∈ bh → dearer g i j r s = false
  co : c = true → ∀ r, r ≠ i → (r, j) ∈ bh → ¬ val (cell g r j) < val (cell g i j)
  ro : w = true → ∀ s, s ≠ j → (i, s) ∈ bh → ¬ val (cell g i s) < val (cell g i j)
theorem take_not_drop {one : List Pr} (hn : one.Nodup) {k : Nat} {p : Pr} (h1 : p ∈ one.take k) (h2 : p ∈ one.drop (k + 1)) : False := by
  have e : one = one.take k ++ one.drop k := (List.take_append_drop k one).symm
  rw [e, List.nodup_append] at hn
  have h3 : p ∈ one.drop k := by
    have : one.drop (k + 1) = (one.drop k).drop 1 := by rw [List.drop_drop]
    rw [this] at h2
    exact List.mem_of_mem_drop h2
  exact hn.2.2 p h1 p h3 rfl
def Rect (g : Grid) : Prop := 1 ≤ g.length ∧ g.length ≤ 6 ∧ 1 ≤ wid g ∧ wid g ≤ 6 ∧ ∀ row ∈ g, row.length = wid g
theorem Rect.at {g : Grid} (R : Rect g) {i : Nat} (h : i < g.length) : (g.getD i []).length = wid g := by
  rw [getD_in _ h]
  exact R.2.2.2.2 _ (List.getElem_mem h)
theorem Rect.lt {g : Grid} (R : Rect g) {i j : Nat} (h : (cell g i j).isSome = true) : i < g.length ∧ j < wid g := by
  unfold cell at h
  have hi : i < g.length := by
    apply Decidable.byContradiction
    intro hn
    rw [getD_out _ (show g.length ≤ i by omega)] at h
    simp at h
  refine ⟨hi, ?_⟩
  rw [← R.at hi]
  apply Decidable.byContradiction
  intro hn
  rw [getD_out _ (show (g.getD i []).length ≤ j by omega)] at h
  cases h
theorem noBar_of_ord {g : Grid} (R : Rect g) {c w : Bool} {one : List Pr} (o : Ord (nds g c w) one) {k : Nat} {p : Pr} (hp : one[k]? = some p) : NoBar g c w (one.drop (k + 1)) p.1 p.2 := by
  obtain ⟨i, j⟩ := p
  have hin : ∀ q ∈ one.drop (k + 1), q ∈ spots g := fun q hq => by
    have := o.sub q (List.mem_of_mem_drop hq)
    rw [nds_keys] at this
    exact this
  have hps : (i, j) ∈ spots g := by
    have := o.sub (i, j) (List.mem_of_getElem? hp)
    rw [nds_keys] at this
    exact this
  have hmet := o.ok k (i, j) _ hp (mem_nds.mpr ⟨hps, rfl⟩)
  unfold met at hmet
  rw [List.all_eq_true] at hmet
  have some_of : ∀ {r s : Nat}, (r, s) ∈ spots g → cell g r s ≠ none := fun {r s} h z => by
    have h2 := mem_spots.mp h
    dsimp only at h2
    rw [z] at h2
    cases h2
  refine ⟨fun r s hr hs h1 h2 => ?_, fun hc r hr h1 hv => ?_, fun hw s hs h1 hv => ?_⟩
  · cases hd : dearer g i j r s with
    | false => rfl
    | true =>
      exfalso
      have s1 := hin _ h1
      have s2 := hin _ h2
      have hx : cross g i j r s = true := by
        unfold cross
        rw [if_neg (by intro z; rcases z with z | z; exact hr z; exact hs z), if_neg (by intro z; rcases z with z | z; exact some_of s2 z; exact some_of s1 z)]
        exact hd
      have m := R.lt (mem_spots.mp s1)
      have m2 := R.lt (mem_spots.mp s2)
      have := hmet [(i, s), (r, j)] (by
        unfold needsOf crossNeeds crossRow
        refine List.mem_append_left _ (List.mem_flatMap.mpr ⟨r, List.mem_range.mpr m.1, List.mem_flatMap.mpr ⟨s, List.mem_range.mpr m2.2, ?_⟩⟩)
        rw [if_pos hx]
        exact List.mem_singleton.mpr rfl)
      obtain ⟨q, hq, hh⟩ := List.any_eq_true.mp this
      have hq2 : q ∈ one.take k := of_decide_eq_true hh
      rcases List.mem_cons.mp hq with e | e
      · rw [e] at hq2
        exact take_not_drop o.nodup hq2 h2
      · rw [List.mem_singleton.mp e] at hq2
        exact take_not_drop o.nodup hq2 h1
  · have s1 := hin _ h1
    have m := R.lt (mem_spots.mp s1)
    have hx : cheaper g r j i j = true := by
      unfold cheaper
      rw [Bool.and_eq_true]
      exact ⟨by simp [some_of s1], decide_eq_true hv⟩
    have := hmet [(r, j)] (by
      unfold needsOf
      refine List.mem_append_right _ (List.mem_append_left _ ?_)
      rw [if_pos hc]
      unfold colNeeds
      refine List.mem_flatMap.mpr ⟨r, List.mem_range.mpr m.1, ?_⟩
      rw [if_pos hx]
      exact List.mem_singleton.mpr rfl)
    obtain ⟨q, hq, hh⟩ := List.any_eq_true.mp this
    have hq2 : q ∈ one.take k := of_decide_eq_true hh
    rw [List.mem_singleton.mp hq] at hq2
    exact take_not_drop o.nodup hq2 h1
  · have s1 := hin _ h1
    have m := R.lt (mem_spots.mp s1)
    have hx : cheaper g i s i j = true := by
      unfold cheaper
      rw [Bool.and_eq_true]
      exact ⟨by simp [some_of s1], decide_eq_true hv⟩
    have := hmet [(i, s)] (by
      unfold needsOf
      refine List.mem_append_right _ (List.mem_append_right _ ?_)
      rw [if_pos hw]
      unfold rowNeeds
      refine List.mem_flatMap.mpr ⟨s, List.mem_range.mpr m.2, ?_⟩
      rw [if_pos hx]
      exact List.mem_singleton.mpr rfl)
    obtain ⟨q, hq, hh⟩ := List.any_eq_true.mp this
    have hq2 : q ∈ one.take k := of_decide_eq_true hh
    rw [List.mem_singleton.mp hq] at hq2
    exact take_not_drop o.nodup hq2 h1
/-! leads -/
def inv (idx : Pr → Nat) : List Pr → Nat
  | [] => 0
  | x :: xs => xs.countP (fun y => decide (idx y < idx x)) + inv idx xs
def swapAt (now : List Pr) (k : Nat) : List Pr := now.take k ++ ([now.getD (k + 1) (0, 0), now.getD k (0, 0)] ++ now.drop (k + 2))
theorem split2 {now : List Pr} {k : Nat} (h : k + 2 ≤ now.length) : now = now.take k ++ ([now.getD k (0, 0), now.getD (k + 1) (0, 0)] ++ now.drop (k + 2)) := by
  have h1 : now.drop k = now.getD k (0, 0) :: now.drop (k + 1) := by
    rw [getD_in _ (show k < now.length by omega)]
    exact List.drop_eq_getElem_cons (by omega)
  have h2 : now.drop (k + 1) = now.getD (k + 1) (0, 0) :: now.drop (k + 2) := by
    rw [getD_in _ (show k + 1 < now.length by omega)]
    exact List.drop_eq_getElem_cons (by omega)
  have h3 := (List.take_append_drop k now).symm
  rw [h1, h2] at h3
  exact h3
theorem swap_perm {now : List Pr} {k : Nat} (h : k + 2 ≤ now.length) : (swapAt now k).Perm now := by
  have e := split2 h
  have p : (swapAt now k).Perm (now.take k ++ ([now.getD k (0, 0), now.getD (k + 1) (0, 0)] ++ now.drop (k + 2))) := by
    unfold swapAt
    exact List.Perm.append_left _ (List.Perm.append_right _ (List.Perm.swap _ _ _))
  rw [← e] at p
  exact p
theorem swap_length {now : List Pr} {k : Nat} (h : k + 2 ≤ now.length) : (swapAt now k).length = now.length := (swap_perm h).length_eq
theorem inv_two (idx : Pr → Nat) (x y : Pr) (b : List Pr) (h : idx y < idx x) : ∀ a : List Pr, inv idx (a ++ ([x, y] ++ b)) = inv idx (a ++ ([y, x] ++ b)) + 1
  | [] => by
    show (y :: b).countP (fun z => decide (idx z < idx x)) + (b.countP (fun z => decide (idx z < idx y)) + inv idx b) = (x :: b).countP (fun z => decide (idx z < idx y)) + (b.countP (fun z => decide (idx z < idx x)) + inv idx b) + 1
    rw [List.countP_cons, List.countP_cons, if_pos (decide_eq_true h), if_neg (by simp; omega)]
    omega
  | z :: a => by
    have ih := inv_two idx x y b h a
    show (a ++ ([x, y] ++ b)).countP (fun u => decide (idx u < idx z)) + inv idx (a ++ ([x, y] ++ b)) = (a ++ ([y, x] ++ b)).countP (fun u => decide (idx u < idx z)) + inv idx (a ++ ([y, x] ++ b)) + 1
    have e : (a ++ ([x, y] ++ b)).countP (fun u => decide (idx u < idx z)) = (a ++ ([y, x] ++ b)).countP (fun u => decide (idx u < idx z)) :=
      List.Perm.countP_eq _ (List.Perm.append_left _ (List.Perm.append_right _ (List.Perm.swap _ _ _)))
    rw [e, ih]
    omega
theorem inv_swap {idx : Pr → Nat} {now : List Pr} {k : Nat} (h : k + 2 ≤ now.length) (hx : idx (now.getD (k + 1) (0, 0)) < idx (now.getD k (0, 0))) : inv idx now = inv idx (swapAt now k) + 1 := by
  have e := split2 h
  have q := inv_two idx (now.getD k (0, 0)) (now.getD (k + 1) (0, 0)) (now.drop (k + 2)) hx (now.take k)
  rw [← e] at q
  exact q
theorem inv_zero {idx : Pr → Nat} : ∀ {l : List Pr}, l.Pairwise (fun x y => ¬ idx y < idx x) → inv idx l = 0
  | [], _ => rfl
  | x :: l, h => by
    obtain ⟨h1, h2⟩ := List.pairwise_cons.mp h
    show l.countP _ + inv idx l = 0
    rw [inv_zero h2, List.countP_eq_zero.mpr fun y hy => by simpa using h1 y hy]
theorem idxOf_at {l : List Pr} (hn : l.Nodup) {k : Nat} {p : Pr} (h : l[k]? = some p) : l.idxOf p = k := by
  obtain ⟨hk, e⟩ := List.getElem?_eq_some_iff.mp h
  rw [← e]
  exact hn.idxOf_getElem k hk
theorem inv_self {two : List Pr} (hn : two.Nodup) : inv (fun p => two.idxOf p) two = 0 := by
  refine inv_zero ?_
  rw [List.pairwise_iff_getElem]
  intro i j hi hj hij
  rw [hn.idxOf_getElem i hi, hn.idxOf_getElem j hj]
  omega
/-- what a step of a lead asks -/
def MetP (nd : Nds) (p : Pr) (placed : List Pr) : Prop := ∀ own, (p, own) ∈ nd → met own placed = true
structure Lead (nd : Nds) (one : List Pr) (told : List Nat) (now : List Pr) : Prop where
  now : told.foldl swapAt one = now
  ok : ∀ i k, told[i]? = some k → k + 2 ≤ ((told.take i).foldl swapAt one).length ∧ MetP nd (((told.take i).foldl swapAt one).getD (k + 1) (0, 0)) (((told.take i).foldl swapAt one).take k)
theorem lead_nil (nd : Nds) (one : List Pr) : Lead nd one [] one := ⟨rfl, fun i k h => by simp at h⟩
theorem lead_snoc {nd : Nds} {one told now : _} (L : Lead nd one told now) {k : Nat} (h : k + 2 ≤ now.length) (m : MetP nd (now.getD (k + 1) (0, 0)) (now.take k)) : Lead nd one (told ++ [k]) (swapAt now k) := by
  refine ⟨by rw [List.foldl_append, L.now]; rfl, fun i j hj => ?_⟩
  by_cases hl : i < told.length
  · rw [List.getElem?_append_left hl] at hj
    rw [List.take_append_of_le_length (by omega)]
    exact L.ok i j hj
  · rw [List.getElem?_append_right (by omega)] at hj
    have e : i - told.length = 0 := by
      apply Decidable.byContradiction
      intro z
      rw [List.getElem?_eq_none (by simp; omega)] at hj
      cases hj
    rw [e] at hj
    have ek : k = j := Option.some.inj hj
    subst ek
    have ei : i = told.length := by omega
    subst ei
    rw [List.take_left, L.now]
    exact ⟨h, m⟩
theorem set_swap {l : List Pr} {k : Nat} {a b : Pr} (h : k + 2 ≤ l.length) (ha : l[k]? = some a) (hb : l[k + 1]? = some b) : (l.set (k + 1) a).set k b = swapAt l k := by
  have ea : l.getD k (0, 0) = a := by rw [List.getD_eq_getElem?_getD, ha]; rfl
  have eb : l.getD (k + 1) (0, 0) = b := by rw [List.getD_eq_getElem?_getD, hb]; rfl
  unfold swapAt
  rw [ea, eb]
  apply List.ext_getElem?
  intro i
  rw [List.getElem?_set, List.getElem?_set, List.length_set]
  have hlt : (l.take k).length = k := by rw [List.length_take]; omega
  by_cases h1 : k = i
  · subst h1
    rw [if_pos rfl, if_pos (by omega), List.getElem?_append_right (by omega), hlt, Nat.sub_self]
    rfl
  · rw [if_neg h1]
    by_cases h2 : k + 1 = i
    · subst h2
      rw [if_pos rfl, if_pos (by omega), List.getElem?_append_right (by omega), hlt, show k + 1 - k = 1 by omega]
      rfl
    · rw [if_neg h2]
      by_cases h3 : i < k
      · rw [List.getElem?_append_left (by omega), List.getElem?_take_of_lt h3]
      · rw [List.getElem?_append_right (by omega), List.getElem?_append_right (by simp; omega), hlt, List.getElem?_drop]
        congr 1
        simp
        omega
/-- the outer loop's state: p pairs stand as in the other order -/
structure LedI (nd : Nds) (one two : List Pr) (p : Nat) (present : List Pr) (told : List Nat) : Prop where
  lead : Lead nd one told present
  perm : present.Perm one
  pre : present.take p = two.take p
  cnt : told.length + inv (fun q => two.idxOf q) present = inv (fun q => two.idxOf q) one
structure LedW (nd : Nds) (one two : List Pr) (p at_ : Nat) (present : List Pr) (told : List Nat) : Prop extends LedI nd one two p present told where
  le : p ≤ at_
  here : present[at_]? = two[p]?
theorem ledI_start (nd : Nds) (one two : List Pr) : LedI nd one two 0 one [] := ⟨lead_nil nd one, .refl _, by simp, by simp⟩
theorem not_in_take {l : List Pr} (hn : l.Nodup) {p k : Nat} {x : Pr} (h : l[k]? = some x) (hk : p ≤ k) : x ∉ l.take p := by
  intro hx
  obtain ⟨i, hi⟩ := List.mem_iff_getElem?.mp hx
  have hip : i < p := by
    apply Decidable.byContradiction
    intro z
    rw [List.getElem?_eq_none (by rw [List.length_take]; omega)] at hi
    cases hi
  rw [List.getElem?_take_of_lt hip] at hi
  have e1 := idxOf_at hn h
  have e2 := idxOf_at hn hi
  omega
theorem ledW_start {nd : Nds} {one two present : List Pr} {told : List Nat} {p : Nat} (h2 : two.Nodup) (h12 : one.Perm two) (L : LedI nd one two p present told) {q : Pr} (hp : two[p]? = some q) :
    LedW nd one two p (present.idxOf q) present told ∧ present.idxOf q < present.length := by
  have hpp : present.Perm two := L.perm.trans h12
  have hq : q ∈ present := hpp.mem_iff.mpr (List.mem_of_getElem? hp)
  have hlt := List.idxOf_lt_length_of_mem hq
  have hg : present[present.idxOf q]? = some q := by
    rw [List.getElem?_eq_getElem hlt, List.getElem_idxOf]
  refine ⟨⟨L, ?_, by rw [hg, hp]⟩, hlt⟩
  apply Decidable.byContradiction
  intro hn
  have hn : present.idxOf q < p := by omega
  have m : q ∈ present.take p := List.mem_iff_getElem?.mpr ⟨_, by rw [List.getElem?_take_of_lt hn]; exact hg⟩
  rw [L.pre] at m
  exact not_in_take h2 hp (Nat.le_refl _) m
theorem ledW_step {nd : Nds} {one two present : List Pr} {told : List Nat} {p k : Nat} (o2 : Ord nd two) (h12 : one.Perm two) (L : LedW nd one two p (k + 1) present told) (hk : p < k + 1) (hlt : k + 1 < present.length) {a b : Pr} (ha : present[k]? = some a) (hb : present[k + 1]? = some b) :
    LedW nd one two p k ((present.set (k + 1) a).set k b) (told ++ [k]) := by
  have h2 := o2.nodup
  have hpp : present.Perm two := L.perm.trans h12
  have hpn : present.Nodup := hpp.nodup_iff.mpr h2
  have hle : k + 2 ≤ present.length := by omega
  have ea : present.getD k (0, 0) = a := by rw [List.getD_eq_getElem?_getD, ha]; rfl
  have eb : present.getD (k + 1) (0, 0) = b := by rw [List.getD_eq_getElem?_getD, hb]; rfl
  have htp : two[p]? = some b := by rw [← L.here, hb]
  have ib : two.idxOf b = p := idxOf_at h2 htp
  have ia : p < two.idxOf a := by
    have hat : a ∈ two := hpp.mem_iff.mp (List.mem_of_getElem? ha)
    have hlt2 := List.idxOf_lt_length_of_mem hat
    have hga : two[two.idxOf a]? = some a := by rw [List.getElem?_eq_getElem hlt2, List.getElem_idxOf]
    have hkp : p ≤ k := by omega
    have hnt : a ∉ present.take p := not_in_take hpn ha hkp
    apply Decidable.byContradiction
    intro hn
    by_cases e : two.idxOf a = p
    · rw [e, htp] at hga
      have : b = a := Option.some.inj hga
      have e1 := idxOf_at hpn ha
      have e2 := idxOf_at hpn hb
      rw [this] at e2
      omega
    · refine hnt ?_
      rw [L.pre]
      exact List.mem_iff_getElem?.mpr ⟨two.idxOf a, by rw [List.getElem?_take_of_lt (show two.idxOf a < p by omega)]; exact hga⟩
  rw [set_swap hle ha hb]
  refine ⟨⟨lead_snoc L.lead hle (fun own ho => ?_), (swap_perm hle).trans L.perm, ?_, ?_⟩, by omega, ?_⟩
  · rw [eb] at ho
    refine met_mono (fun x hx => ?_) (o2.ok p b own htp ho)
    rw [← L.pre] at hx
    exact (List.take_subset_take_left present (by omega : p ≤ k)) hx
  · unfold swapAt
    rw [List.take_append_of_le_length (by rw [List.length_take]; omega), List.take_take, Nat.min_eq_left (by omega)]
    exact L.pre
  · have q := inv_swap (idx := fun q => two.idxOf q) hle (by rw [ea, eb, ib]; exact ia)
    have := L.cnt
    rw [List.length_append, List.length_singleton]
    omega
  · unfold swapAt
    rw [eb, List.getElem?_append_right (by rw [List.length_take]; omega), List.length_take, Nat.min_eq_left (by omega), Nat.sub_self, htp]
    rfl
theorem ledW_end {nd : Nds} {one two present : List Pr} {told : List Nat} {p : Nat} (h12 : one.Perm two) (hp : p < two.length) (L : LedW nd one two p p present told) : LedI nd one two (p + 1) present told := by
  have hl : present.length = two.length := (L.perm.trans h12).length_eq
  refine ⟨L.lead, L.perm, ?_, L.cnt⟩
  rw [List.take_succ, List.take_succ, L.pre, L.here]
theorem ledI_end {nd : Nds} {one two present : List Pr} {told : List Nat} (h2 : two.Nodup) (h12 : one.Perm two) (L : LedI nd one two two.length present told) : Lead nd one told two ∧ told.length = inv (fun q => two.idxOf q) one := by
  have hl : present.length = two.length := (L.perm.trans h12).length_eq
  have e : present = two := by
    have h := L.pre
    rw [List.take_length, ← hl, List.take_length] at h
    exact h
  have hc := L.cnt
  have hlead := L.lead
  rw [e] at hc hlead
  rw [inv_self h2] at hc
  exact ⟨hlead, by omega⟩
theorem lead_len {nd : Nds} {one : List Pr} {told : List Nat} {now : List Pr} (L : Lead nd one told now) : ∀ i, i ≤ told.length → ((told.take i).foldl swapAt one).Perm one
  | 0, _ => by simp
  | i + 1, h => by
    have ih := lead_len L i (by omega)
    have hlt : i < told.length := by omega
    have hk := L.ok i told[i] (List.getElem?_eq_getElem hlt)
    rw [List.take_succ_eq_append_getElem hlt, List.foldl_append]
    exact (swap_perm hk.1).trans ih
theorem ord_perm {nd : Nds} {one two : List Pr} (a : Ord nd one) (b : Ord nd two) : one.Perm two := by
  rw [List.perm_iff_count]
  intro p
  by_cases h : p ∈ one
  · have h2 : p ∈ two := b.mem p (a.sub p h)
    rw [a.nodup.count, b.nodup.count, if_pos h, if_pos h2]
  · have h2 : p ∉ two := fun z => h (a.mem p (b.sub p z))
    rw [a.nodup.count, b.nodup.count, if_neg h, if_neg h2]
end K55
set_option Elab.async false
set_option linter.all false
set_option maxRecDepth 100000
/-! Rules of our own over the hand layer: len and in of an own class, deleting a key that is a tuple. -/
namespace K55
open PySem PySem.Spec PyProof.Rows L2
/-- a callee somewhere below, its arguments known -/
theorem run_own {X : Cx} {k : Nat} {f : Addr} {fd : FuncData} {ps : List Str} {sp : Sp} {pins : List (Addr × Obj)} {σ : L2.St} {H : Hp} {s : Shared} {A : Around} {us : List Value} {vs : List V} {R : Value → Shared → Prop} {Q : VK}
    (F : FnOk X.prog X.w X.K X.mg X.base CX0 k f fd ps sp) (hb : Binds X.K fd ps []) (hr : Room k A) (hf : A.frames = X.A.frames) (I : Inv X pins σ H s) (r : Vals vs us) (h : sp vs H Q E0)
    (hR : ∀ u s', EP X pins σ Q u s' → R u s') : wpAny (model X.prog X.w) A (call (.ref f) us) R X.xe s := by
  have e0 : Env0 X.prog X.w X.K X.mg X.base A X.stack s H := by
    have e := I.env0
    exact ⟨hf.trans e.frames, e.mod, e.bs, e.bsz, e.funs, e.frf, e.hok, e.bare⟩
  have hl := F.len _ _ _ _ h
  have hb' := hb s us I.kIn (by rw [List.append_nil, ← r.length]; exact hl)
  rw [List.append_nil] at hb'
  refine wpAny_call (codeAny_mono (F.run A X.stack s H ⟨us, []⟩ us vs Q E0 hr e0 hb' r h) fun x s' hq => ?_)
  cases x with
  | error e => exact False.elim hq
  | ok fl =>
    cases fl with
    | ret w => exact hR w s' (I.after hq)
    | next => exact False.elim hq
    | brk => exact False.elim hq
    | cont => exact False.elim hq
/-- len(o) of an own class -/
def rLenO (C : Addr) (sp : Sp) : List V → Hp → VK → Prop := fun xs H Q => ∃ a dx fs, xs = [.ref a] ∧ H a = some (.ins C dx fs) ∧ sp [.ref a] H (fun v H' => ∃ n : Nat, v = .int n ∧ n < 2 ^ 62 ∧ Q (.int n) H') E0
theorem call_len_own {X : Cx} {k : Nat} {C f : Addr} {fd : FuncData} {ps : List Str} {sp : Sp} (F : FnOk X.prog X.w X.K X.mg X.base CX0 k f fd ps sp) (hb : Binds X.K fd ps []) (hm : Meth X.K C "__len__" f) (hr : Room (k + 1) X.A) :
    CallR X (.builtin "len") (rLenO C sp) := by
  intro pins s σ H xs us Q I r h
  obtain ⟨a, dx, fs, rfl, ha, q⟩ := h
  obtain ⟨u, rfl, ru⟩ := vals1 r
  cases ru
  obtain ⟨mA, J, _⟩ := ins_get I.hok ha
  obtain ⟨od, J, _⟩ := J.look
  obtain ⟨m, hF⟩ := I.fr
  refine PySem.W.len_K hF I.ok.mod.kin J hm.1 hm.2 (run_own (vs := [.ref a]) F hb hr.in1 rfl I (.cons rfl .nil) q fun u s' e => ?_)
  obtain ⟨v, H', I', rv, n, ev, hn, q'⟩ := e
  subst ev
  obtain ⟨t, rfl⟩ := rv
  exact ⟨⟨by omega, by omega⟩, .int n, H', I'.tok _, ⟨_, rfl⟩, q'⟩
/-- x in o, x not in o of an own class -/
def rInO (C : Addr) (sp : Sp) (f : Bool → Bool) : R2 := fun x y H Q => ∃ a dx fs, y = .ref a ∧ H a = some (.ins C dx fs) ∧ sp [.ref a, x] H (fun v H' => ∃ b : Bool, v = .bl b ∧ Q (.bl (f b)) H') E0
theorem op_in_own {X : Cx} {k : Nat} {C f : Addr} {fd : FuncData} {ps : List Str} {sp : Sp} (F : FnOk X.prog X.w X.K X.mg X.base CX0 k f fd ps sp) (hb : Binds X.K fd ps []) (hm : Meth X.K C "__contains__" f) (hr : Room k X.A) :
    OpR X (compareOp .In) (rInO C sp id) := by
  intro pins s σ H x y v u Q I rx ry h
  obtain ⟨a, dx, fs, rfl, ha, q⟩ := h
  cases ry
  obtain ⟨mA, J, _⟩ := ins_get I.hok ha
  obtain ⟨od, J, _⟩ := J.look
  obtain ⟨m, hF⟩ := I.fr
  refine PySem.W.in_K hF I.ok.mod.kin J hm.1 hm.2 (run_own (vs := [.ref a, x]) F hb hr rfl I (.cons rfl (.cons rx .nil)) q fun u s' e => ?_)
  obtain ⟨v, H', I', rv, b, ev, q'⟩ := e
  subst ev
  cases rv
  exact wpAny_truthy_bool ⟨.bl b, H', I', rfl, q'⟩
theorem op_notin_own {X : Cx} {k : Nat} {C f : Addr} {fd : FuncData} {ps : List Str} {sp : Sp} (F : FnOk X.prog X.w X.K X.mg X.base CX0 k f fd ps sp) (hb : Binds X.K fd ps []) (hm : Meth X.K C "__contains__" f) (hr : Room k X.A) :
    OpR X (compareOp .NotIn) (rInO C sp not) := by
  intro pins s σ H x y v u Q I rx ry h
  obtain ⟨a, dx, fs, rfl, ha, q⟩ := h
  cases ry
  obtain ⟨mA, J, _⟩ := ins_get I.hok ha
  obtain ⟨od, J, _⟩ := J.look
  obtain ⟨m, hF⟩ := I.fr
  refine PySem.W.notIn_K hF I.ok.mod.kin J hm.1 hm.2 (run_own (vs := [.ref a, x]) F hb hr rfl I (.cons rfl (.cons rx .nil)) q fun u s' e => ?_)
  obtain ⟨v, H', I', rv, b, ev, q'⟩ := e
  subst ev
  cases rv
  exact wpAny_truthy_bool ⟨.bl (!b), H', I', rfl, q'⟩
/-! del d[k], the key a tuple -/
theorem kt_drop {H : Hp} (k : List L2.Key) : ∀ {kvs : List (List L2.Key × V)} {xs : List (List L2.Key × Addr × Value)}, KT H kvs xs → KT H (dropK kvs k) (PySem.withoutH xs k)
  | _, _, .nil => .nil
  | p :: kvs, q :: xs, .cons h t => by
    have ih := kt_drop k t
    unfold dropK PySem.withoutH at *
    rw [List.filter_cons, List.filter_cons]
    by_cases e : p.1 = k
    · rw [if_neg (by simp [e]), if_neg (by simp [h.1.symm.trans e])]
      exact ih
    · rw [if_pos (by simp [e]), if_pos (by rw [← h.1]; simp [e])]
      exact .cons h ih
def sDDelT (td ty : TE) : TS := fun D σ H => td σ H fun x H1 => ty σ H1 fun y H2 => ∃ a kvs k b, x = .ref a ∧ H2 a = some (.dT kvs) ∧ y = .ref b ∧ H2 b = some (.tup (k.map kV)) ∧ (valV kvs k).isSome = true ∧ D.nx σ (upd H2 a (.dT (dropK kvs k)))
theorem ps_ddelT {X : Cx} {o i : Expr} {tpos pos : Pos} {td ty : TE} (hu : X.A.units + 1 < cLine) (ho : PE X o td) (hi : PE X i ty) : PS X (.Delete [.Subscript o i tpos] pos) (sDDelT td ty) := by
  refine ⟨fun pins s σ H D I h => ?_⟩
  refine wpAny_Delete (wpAny_deleteEach_cons (wpAny_delete_Subscript (thn (ho.run pins s σ H _ I h) fun u s1 hu1 => ?_)))
  obtain ⟨x, H1, I1, rx, q1⟩ := hu1
  refine thn (hi.run pins s1 σ H1 _ I1 q1) fun iv s2 hv => ?_
  obtain ⟨y, H2, I2, ry, a, kvs, k, b, ex, e, ey, eb, l, q2⟩ := hv
  subst ex ey
  cases rx
  cases ry
  obtain ⟨z, hd, xs, rel, dd⟩ := dt_of I2.hok e
  obtain ⟨p, hp⟩ : ∃ p, atKey xs k = some p := by
    have r := rel.val k
    cases ev : valV kvs k with
    | none => rw [ev] at l; cases l
    | some v0 =>
      rw [ev] at r
      cases ea : atKey xs k with
      | none => rw [ea] at r; exact (show False from r).elim
      | some p => exact ⟨p, rfl⟩
  refine wpAny_delItem_heap (hsz := by rw [← Paired.length rel]; exact z) (tupleKind_room_in1 hu) (key_of I2.hok eb) hd dd hp fun h' dd' hs => wpAny_deleteEach_nil ?_
  obtain ⟨q, es, ep, hq, h2, h3, h4, _, h5⟩ := dd'
  exact ⟨σ, upd H2 a (.dT (dropK kvs k)), d_write I2 (by rw [e]; exact True.intro) hs ⟨q, hq⟩ ⟨Nat.le_trans (dropK_le kvs k) z, hd, _, (kt_drop k rel).keeps fun c ys ec => (by rw [upd_ne (ne_of ec e (fun z => nomatch z))]; exact ec), q, es, ep, hq, h2, h3, h4, h5⟩, q2⟩
end K55
set_option Elab.async false
set_option linter.all false
set_option maxRecDepth 100000
set_option maxHeartbeats 1000000
/-! A generator def that hands out nothing, walked by a for. -/
namespace K55
open PySem PySem.Spec PyProof.Rows L2 GenW
/-- how its only run ends -/
def REnd0 (P : Program) (w : World) (outer : List Env) (H : Hp) (s : Shared) (Q : Hp → Prop) : GenEnd := fun _ _ r s1 =>
  ((r = .ok (.ret .none) ∨ r = .ok .next) ∧ ∃ H', s1.os = s.os ∧ AllBare s1.gens ∧ Un (frs outer) [] H H' s.heap s1.heap ∧ HOk P w H' s1.heap ∧ Q H') ∨ ∃ e, r = .error e ∧ False
/-- a generator that has not begun and will hand out nothing -/
def GMade0 (P : Program) (w : World) (k : Nat) (outer : List Env) (H : Hp) (s : Shared) (Q : Hp → Prop) (u : Value) (s' : Shared) : Prop :=
  ∃ (a : Addr) (g : Nat) (c : Code), u = .ref a ∧ s'.heap.IsGen a g ∧ s'.gens[g]? = some (.fresh c) ∧ s'.os = s.os ∧ AllBare s'.gens ∧ s'.heap.NoLimit ∧ (∀ b o, s.heap.get? b = some o → s'.heap.get? b = some o) ∧
    ∀ (A : Around) (s2 : Shared), Room k A → A.frames = some outer → (∀ b o, s'.heap.get? b = some o → s2.heap.get? b = some o) → s2.os = s.os → AllBare s2.gens →
      Seg (model P w) A (REnd0 P w outer H s Q) (fun _ _ _ _ _ => False) 0 s2 c ((model P w).den c) [] s2
abbrev SpG0 := List V → Hp → (Hp → Prop) → Prop
structure GFn0 (P : Program) (w : World) (K : PySem.W.Frag) (mg : Str → Option Value) (base : Heap) (k : Nat) (f : Addr) (fd : FuncData) (ps : List Str) (sp : SpG0) : Prop where
  len : ∀ vs H Q, sp vs H Q → vs.length = ps.length
  run : ∀ (A : Around) (outer : List Env) (s : Shared) (H : Hp) (args : Args) (us : List Value) (vs : List V) (Q : Hp → Prop), Room k A → Env0 P w K mg base A outer s H → BindsTo s fd args (ps.zip us) → Vals vs us → sp vs H Q →
    codeAny (model P w) A (.call (.ref f) args) (fun r s' => match r with | .ok (.ret u) => GMade0 P w k outer H s Q u s' | _ => False) s
theorem gfn0_of {P : Program} {w : World} {K : PySem.W.Frag} {mg : Str → Option Value} {base : Heap} {k : Nat} {f : Addr} {name qual : Str} {params : Arguments} {body : List Stmt} {scope : Scope} {dV kV doc pm cdv ct oc : Value} {an od : Option Addr}
    {osl : Array (Option Value)} {N ps : List Str} {sp : SpG0} (lk : K.lookup f = some ⟨oc, od, .func (PySem.W.fnOf name qual params body scope dV kV doc pm an cdv ct), osl⟩) (hcd : PySem.W.codeIn K cdv qual = true) (S : GScope N ps scope)
    (len : ∀ vs H Q, sp vs H Q → vs.length = ps.length)
    (hbody : ∀ (A : Around) (outer : List Env) (s : Shared) (H : Hp) (vs : List V) (Q : Hp → Prop), Room k (A.deeper (envOfC qual scope s.heap.objs.size f cdv)) → sp vs H Q →
      ∃ t, PSs (gcxOf P w K mg base N qual scope f cdv A outer s H E0 []).nox body t ∧ t { nx := fun _ H' => Q H', rt := fun v H' => v = .non ∧ Q H' } (start N vs) H) :
    GFn0 P w K mg base (k + 1) f (PySem.W.fnOf name qual params body scope dV kV doc pm an cdv ct) ps sp := by
  refine ⟨len, fun A outer s H args us vs Q hr e0 hb r hsp => ?_⟩
  have hl := len _ _ _ hsp
  have KX : K.In s.heap := e0.mod.kin.keeps fun b o e => (e0.bs b o e).1
  have lim : s.heap.NoLimit := e0.mod.nolimit.keeps fun b o e => (e0.bs b o e).1
  have hkind : ∀ y ∈ ps.zip us, scope.names.lookup y.1 = some .local ∨ (scope.names.lookup y.1 = some .cell ∧ ((cellsFrom (s.heap.objs.size + 1) scope.names []).lookup y.1).isSome = true) := by
    rintro ⟨n, v⟩ hy
    rcases S.par n (List.of_mem_zip hy).1 with q | q
    · exact .inl q
    · exact .inr ⟨q, PySem.W.cellsFrom_some _ _ _ (.inl q)⟩
  refine codeAny_call_generator hr.depth (KX _ _ lk) rfl S.co S.gen rfl (PySem.W.codeRec_of KX hcd) (hb _ _ _ _ ?_)
  refine wpAny_newFunctionEnv_cells S.kind hkind fun env he s1 x => ?_
  subst he
  have lim1 : s1.heap.NoLimit := lim.keeps x.toInCall.keep
  refine ⟨lim1, ?_⟩
  obtain ⟨h1, tk, es1, hk1⟩ := x.done
  have gen1 : s1.gens = s.gens := by rw [es1]
  have os1 : s1.os = s.os := by rw [es1]
  have main : ∀ (go : Obj) (nm qn : Value) (tk2 : Nat), go.cls = .type "generator" → go.data = .fields #[.int s1.gens.size 0, nm, qn] → go.slots = #[] → (∀ h : Heap, (h.push go).get? h.objs.size = some go) →
      GMade0 P w (k + 1) outer H s Q (.ref s1.heap.objs.size) { s1 with gens := s1.gens.push (.fresh (.func body (envOfC qual scope s.heap.objs.size f cdv))), toks := tk2, heap := s1.heap.push go } := by
    intro go nm qn tk2 c1 c2 c3 hgp
    refine ⟨s1.heap.objs.size, s1.gens.size, _, rfl, ⟨go, nm, qn, hgp _, c1, c2, c3⟩, Array.getElem?_push_size .., os1, AllBare.push (by rw [gen1]; exact e0.bare) rfl,
      lim1.keeps fun b o e => Heap.get?_push_of_some _ e, fun b o e => Heap.get?_push_of_some _ (x.toInCall.keep b o e), ?_⟩
    intro Aw s2 hrw hfr hk2 hos hba
    have e0w : Env0 P w K mg base Aw outer s H := ⟨hfr, e0.mod, e0.bs, e0.bsz, e0.funs, e0.frf, e0.hok, e0.bare⟩
    obtain ⟨t, ht, hq⟩ := hbody Aw outer s H vs Q (hrw.deeper _) hsp
    have I1 := inv_startG (E := E0) S hrw.hd e0w hl r x
    have kp2 : ∀ b o, s1.heap.get? b = some o → s2.heap.get? b = some o := fun b o e => hk2 b o (Heap.get?_push_of_some _ e)
    have I2 : Inv (gcxOf P w K mg base N qual scope f cdv Aw outer s H E0 []) [] (start N vs) H s2 :=
      I1.call' (ch := []) (hos.trans os1.symm) (Un.kept kp2) (I1.hok.kept kp2) hba fun b z => by simp at z
    refine seg_func (seg_wrap ?_)
    rw [over_func]
    have z := ht.nox.run [] s2 (start N vs) H _ I2 hq
    refine wpAny_mono z (fun fl s3 hs => ?_) (fun e s3 hx => ?_)
    · cases fl with
      | next =>
        obtain ⟨σ', H', J, q⟩ := hs
        exact seg_end (.ok (.ret .none)) (.inl ⟨.inl rfl, H', J.os, J.bare, J.base, J.hok, q⟩)
      | brk =>
        obtain ⟨_, _, _, q⟩ := hs
        exact False.elim q
      | cont =>
        obtain ⟨_, _, _, q⟩ := hs
        exact False.elim q
      | ret u =>
        obtain ⟨v, σ', H', J, rv, ev, q⟩ := hs
        subst ev
        cases rv
        exact seg_end (.ok (.ret .none)) (.inl ⟨.inl rfl, H', J.os, J.bare, J.base, J.hok, q⟩)
    · refine seg_wrap ?_
      rw [over_func]
      have hx' : wpAny (model P w) (Aw.deeper (envOfC qual scope s.heap.objs.size f cdv)) (leaving (envOfC qual scope s.heap.objs.size f cdv) e) (fun _ s'' => CX P w outer H s E0 e s'' ∧ ∀ p ∈ ([] : List (Addr × Obj)), s''.heap.get? p.1 = some p.2) (fun _ _ => False) s3 := hx
      refine wpAny_mono hx' (fun _ s'' q => ?_) fun _ s'' q => q.elim
      obtain ⟨_, _, _, _, _, _, _, _, _, _, _, _, q⟩ := q.1
      exact q.elim
  exact main _ _ _ _ rfl rfl rfl fun h => Heap.get?_push_size _ rfl
/-- for x in f(e, ..): .., f such a generator def: the body is never entered -/
def tForG0 (sp : SpG0) (t : TA) : TS := fun D σ H => t σ H fun vs H1 => sp vs H1 fun H2 => D.nx σ H2
theorem ps_forG0 {X : Cx} {k : Nat} {f : Addr} {fd : FuncData} {ps : List Str} {sp : SpG0} {x : Str} {p pos fpos : Pos} {e tg : Expr} {es : List Expr} {body : List Stmt} {t : TA} (hp : PassesOwn (model X.prog X.w) X.A X.env X.xe)
    (F : GFn0 X.prog X.w X.K X.mg X.base k f fd ps sp) (hr : Room (k + 3) X.A) (hg : Gl X x) (hm : X.mg x = some (.ref f)) (hk : PySem.W.keepIn X.K (.ref f) = true) (hb : Binds X.K fd ps []) (ha : PA X (e :: es) t)
    (hdb : (x == ("__debug__" : Str)) = false := by decide) (he : starEach (e :: es) X.env = (false, eval e X.env) :: starEach es X.env := by rfl) (hpl : (backTo pos (starEach es X.env)).any (·.1) = false := by rfl)
    (hs : ∀ x', foldedSetIterable (.Call (.Name x p) (e :: es) [] pos) X.env x' = pure x' := by intro _; rfl) :
    PS X (.For tg (.Call (.Name x p) (e :: es) [] pos) body [] fpos) (tForG0 sp t) := by
  refine ⟨fun pins s σ H D I h => ?_⟩
  refine wpAny_For (thn (Q := fun u s1 => ∃ H1 sc, Inv X pins σ H1 sc ∧ GMade0 X.prog X.w k X.stack H1 sc (fun H2 => D.nx σ H2) u s1) ?_ fun u s1 hu => ?_) hs
  · refine wpAny_Call_Name_kw (ld_glob I hg hm ?_ hdb)
    refine PySem.W.callWith_K (h₀ := X.base) I.ok.mod.kin hk (thn (ha.run pos pins s σ H _ I h) fun us s1 hu => ?_) he hpl
    obtain ⟨vs, H1, I1, r, q⟩ := hu
    refine ⟨I1.kIn, ?_⟩
    have hl := F.len _ _ _ q
    have hb' := hb s1 us I1.kIn (by rw [List.append_nil, ← r.length]; exact hl)
    rw [List.append_nil] at hb'
    refine wpAny_call (codeAny_mono (F.run X.A X.stack s1 H1 ⟨us, []⟩ us vs _ (hr.mono (by omega)) I1.env0 hb' r q) fun r s' hq => ?_)
    cases r with
    | error e => exact False.elim hq
    | ok fl =>
      cases fl with
      | ret u => exact ⟨H1, s1, I1, hq⟩
      | next => exact False.elim hq
      | brk => exact False.elim hq
      | cont => exact False.elim hq
  · obtain ⟨H1, sc, I1, a, g, c, rfl, hgen, hgs, hos, hba, hlim, hkp, wake⟩ := hu
    refine wpAny_pyIter_gen hgen ?_
    have hroom : Room k X.A.in1 := (show Room (k + 1) X.A from hr.mono (by omega)).in1
    refine codeAny_forLoop_any (fun _ s' => s' = s1) ?_ 0 rfl
    rintro n s' rfl
    refine wpAny_passesOwn hp ?_
    refine next_genG (n := 0) (F := fun _ _ s3 => ∃ H', s3.os = sc.os ∧ AllBare s3.gens ∧ Un (frs X.stack) [] H1 H' sc.heap s3.heap ∧ HOk X.prog X.w H' s3.heap ∧ D.nx σ H') (Er := fun _ _ => False) (Y := fun _ _ _ _ _ => False)
      hr.hd hlim hr.depth hgen hgs ⟨rfl, ?_⟩ (fun _ _ _ _ z => z.elim) (fun s3 hF h' hkk => ?_) (fun _ _ z => z.elim)
    · have z := wake X.A.in1 (s'.setGen g .running) hroom I1.ok.frames (fun b o e => e) hos (allBare_setGen hba rfl)
      exact z
    · obtain ⟨H', o3, b3, u3, k3, q3⟩ := hF
      refine wpAny_execs_nil ?_
      have J : Inv X pins σ H' s3 := I1.call' (ch := []) o3 u3 k3 b3 fun b z => absurd z (by simp)
      have J2 : Inv X pins σ H' { s3 with heap := h' } := J.kept (t' := s3.toks) hkk
      have J3 : Inv X pins σ H' ({ (s3.setGen g .finished) with heap := h' }) :=
        J2.call' (ch := []) rfl (Un.kept fun b u q => q) J2.hok (allBare_setGen b3 rfl) fun b z => absurd z (by simp)
      exact ⟨σ, H', J3, q3⟩
end K55
set_option Elab.async false
set_option linter.all false
set_option maxRecDepth 100000
set_option maxHeartbeats 1000000
/-! A dict comprehension whose keys are tuples (the hand layer's rule for ints and texts as keys, turned to them). -/
namespace K55
open PySem PySem.Spec PyProof.Rows L2
theorem dictSetT {X : Cx} {pins : List (Addr × Obj)} {σ : L2.St} {H : Hp} {s : Shared} {E : Value → Shared → Prop} {D b : Addr} {kvs : List (List L2.Key × V)} {k : List L2.Key} {v : V} {r : Value} {Q : Unit → Shared → Prop} {A : Around} (hu : A.units + 1 < cLine)
    (I : Inv X pins σ H s) (hD : H D = some (.dT kvs)) (hb : H b = some (.tup (k.map kV))) (hz : kvs.length < sizeLine) (rv : RelV v r)
    (h : ∀ s', Inv X pins σ (upd H D (.dT (putK kvs k v))) s' → Q () s') : wpAny (model X.prog X.w) A (dictSet D (.ref b) r) Q E s := by
  obtain ⟨z, hd, xs, rel, dd⟩ := dt_of I.hok hD
  have hl : (putK kvs k v).length ≤ sizeLine := Nat.le_trans (length_putK kvs k v) hz
  refine wpAny_dictSet_heap (hsz := by rw [← Paired.length rel]; exact z) (show (tupleKind (mixKind X.prog X.w)).room A from Nat.lt_of_le_of_lt (Nat.le_succ _) hu) (key_of I.hok hb) dd fun h' dd' hs => h _ ?_
  obtain ⟨q, es, ep, hq, h2, h3, h4, _, h5⟩ := dd'
  have keep : KT (upd H D (.dT (putK kvs k v))) (putK kvs k v) (storedH xs k b r) := (rel.put k hb rv).keeps fun c ys ec => by
    rw [upd_ne (ne_of ec hD (fun z => nomatch z))]
    exact ec
  exact d_write I (by rw [hD]; exact True.intro) hs ⟨q, hq⟩ ⟨hl, hd, _, keep, q, es, ep, hq, h2, h3, h4, h5⟩
section
variable {X : Cx}
/-- what one turn of the block has to give, the new dict at D -/
abbrev DcTurn (D : Addr) (σ : L2.St) (g : TG) (tt : TT) (tk tv : TE) (vs : List Nat) (Nx : Hp → Prop) (x : V) (H' : Hp) : Prop :=
  g x (wipe σ vs) H' fun σ2 H2 => wipe σ2 vs = wipe σ vs ∧ tt σ2 H2 fun b H3 =>
    if b = true then tk σ2 H3 fun y H4 => tv σ2 H4 fun z H5 => ∃ kvs k p, y = .ref p ∧ H5 p = some (.tup (List.map kV k)) ∧ H5 D = some (.dT kvs) ∧ kvs.length < sizeLine ∧ Nx (upd H5 D (.dT (putK kvs k z))) else Nx H3
def tDcT (wi : TI) (g : TG) (tt : TT) (tk tv : TE) (vs : List Nat) : TE := fun σ H Q => wi σ H fun J H1 => ∀ D, H1 D = none → ∃ W : Nat → Nat → Hp → Prop, (∃ m, W 0 m (upd H1 D (.dT []))) ∧ ∀ i m H, W i m H →
  (J.stop i H ∧ Q (.ref D) H) ∨ (J.go i H ∧ ∃ Nx : Hp → Prop, (∀ H', Nx H' → ∃ m', m' < m ∧ W (i + 1) m' H') ∧ ∀ x H', J.yld i H x H' → DcTurn D σ g tt tk tv vs Nx x H')
theorem dcT_core {pins : List (Addr × Obj)} {s : Shared} {σ : L2.St} {H : Hp} {Q : VK} {kx vx tg iter : Expr} {ifs : List Expr} {scope : Scope} {own : List (Str × Nat)} {pos pos' : Pos} {wi : TI} {g : TG} {tt : TT} {tk tv : TE} {use : Option (Value → Sem Unit)} {Qf : Value → Shared → Prop}
    (hc : X.calm = true) (hu : X.A.units + 1 < cLine) (hN : X.N.Nodup) (I : Inv X pins σ H s) (hi : PI X tg iter wi)
    (ok : BlkOk X.N X.env.scope scope own) (hg : ∀ s H C cl fp, PG (X.blk s H scope (compEnvC scope cl C X.env) fp) tg g) (ht : ∀ s H C cl fp, PTs (X.blk s H scope (compEnvC scope cl C X.env) fp) ifs tt)
    (hk : ∀ s H C cl fp, PE (X.blk s H scope (compEnvC scope cl C X.env) fp) kx tk) (he : ∀ s H C cl fp, PE (X.blk s H scope (compEnvC scope cl C X.env) fp) vx tv) (hs : ∀ x, foldedSetIterable iter X.env x = pure x)
    (h : tDcT wi g tt tk tv (own.map (·.2)) σ H Q) (fin : ∀ D C s' m H', Inv X pins σ H' s' → Q (.ref D) H' → s'.heap.Ns C m → FpOk X pins H' C → compPost (model X.prog X.w) X.A X.xe use Qf (.ref D) C (.ok .next) s') :
    wpAny (model X.prog X.w) X.A (comprehension (.DictComp kx vx [⟨tg, iter, ifs, 0⟩] scope pos) scope X.env pos' newDict false (eval iter X.env) use) Qf X.xe s := by
  have hfree : ∀ y ∈ scope.names, y.2 = .free → ∃ c, X.env.cells.lookup y.1 = some c := fun y hy e => (ok.free y hy e).elim (fun k => I.ok.has _ (.inl k)) fun k => I.ok.has _ (.inr k)
  refine wpAny_comprehension_free (use := use) rfl hs (closure_ok hfree) ok.kind (fun y hy e => by rw [ok.uniq y hy, e]) (thn (hi.run pins s σ H _ I h) fun xv s1 hx => thn hx fun itv s2 h2 => ?_)
  obtain ⟨it, fp, tn, J, H2, e, I2, T, st2, f2, q⟩ := h2
  subst e
  refine wpAny_newObj_type (newEnv_comp ?_)
  generalize hD : s2.heap.objs.size = D
  obtain ⟨W, ⟨m0, w0⟩, turn⟩ := q D (I2.hok.fresh (Nat.le_of_eq hD))
  -- the dict is laid
  generalize hs3 : ({ s2 with heap := s2.heap.push { cls := .type "dict", data := .dict #[] } } : Shared) = s3
  have h3 : s3.heap = s2.heap.push { cls := .type "dict", data := .dict #[] } := by rw [← hs3]
  have I3 : Inv X pins σ (upd H2 D (.dT [])) s3 := by
    rw [← hs3]
    refine I2.laid (t' := s2.toks) (fun b o e => Heap.get?_push_of_some _ e) (Nat.le_of_eq hD) ?_
    rw [← hD]
    exact dt_empty s2.heap I2.big
  have below : ∀ b ∈ fp, b < s2.heap.objs.size := fun b hb => let ⟨o, e, _⟩ := T.obj _ _ st2 b hb; Heap.lt_size e
  have f3 : ∀ b ∈ fp, FpOk X pins (upd H2 D (.dT [])) b ∧ b < s3.heap.objs.size := fun b hb => by
    have hlt := below b hb
    refine ⟨⟨?_, (f2 b hb).2⟩, by rw [h3, Heap.size_push]; exact Nat.lt_succ_of_lt hlt⟩
    rw [upd_ne (by rw [← hD]; exact Nat.ne_of_lt hlt)]
    exact (f2 b hb).1
  have st3 : tn 0 s3.heap := T.keep _ _ _ st2 fun b _ o e => by rw [h3]; exact Heap.get?_push_of_some _ e
  have I4 := block_start I3 ok hN f3
  generalize hcl : cellsFrom (s3.heap.objs.size + 1) scope.names (cloFrom X.env.cells scope.names []) = cl at I4
  have pg := hg s3 (upd H2 D (.dT [])) s3.heap.objs.size cl fp
  have pt := ht s3 (upd H2 D (.dT [])) s3.heap.objs.size cl fp
  have pk := hk s3 (upd H2 D (.dT [])) s3.heap.objs.size cl fp
  have pe := he s3 (upd H2 D (.dT [])) s3.heap.objs.size cl fp
  show codeAny _ _ (.compStart (.DictComp kx vx [⟨tg, iter, ifs, 0⟩] scope pos) 0 (.ref it) (.ref D) (compEnvC scope cl s3.heap.objs.size X.env))
    (compPost (model X.prog X.w) X.A X.xe use Qf (.ref D) s3.heap.objs.size) { s3 with heap := pushCells (s3.heap.push { cls := .type "dict", data := .dict #[] }) scope.names }
  have nfp : ∀ b ∈ fp, (upd H2 D (.dT [])) b = none := fun b hb => (f3 b hb).1.1
  generalize hce : compEnvC scope cl s3.heap.objs.size X.env = ce at I4 pg pt pk pe ⊢
  have cL : ce.locals = s3.heap.objs.size := by subst hce; rfl
  generalize hH3 : upd H2 D (.dT []) = H3 at I3 I4 pg pt pk pe w0 nfp f3
  generalize hs4 : ({ s3 with heap := pushCells (s3.heap.push { cls := .type "dict", data := .dict #[] }) scope.names } : Shared) = s4 at I4 ⊢
  have st4 : tn 0 s4.heap := T.keep _ _ _ st3 fun b _ o e => by rw [← hs4]; exact pushCells_keeps _ _ _ _ (Heap.get?_push_of_some _ e)
  have stat : ∀ {σ' : L2.St} {H' : Hp} {s' : Shared}, Inv (X.blk s3 H3 scope ce fp) [] σ' H' s' → (∀ b ∈ fp, H' b = none) → ∀ b ∈ fp, FpOk (X.blk s3 H3 scope ce fp) [] H' b := fun {σ' H' s'} J' hn b hb =>
    ⟨hn b hb, (J'.ok.exf b hb).1, J'.ok.exfs b hb, .inl hb, fun x c e => (J'.ok.exf b hb).2 x c e, fun p hp => by cases hp⟩
  have loop : codeAny (model X.prog X.w) X.A (.compLoop (.DictComp kx vx [⟨tg, iter, ifs, 0⟩] scope pos) 0 (.ref it) (.ref D) ce) (compPost (model X.prog X.w) X.A X.xe use Qf (.ref D) s3.heap.objs.size) s4 := by
    refine compLoop_anyD (fun n s' => ∃ i H', Inv (X.blk s3 H3 scope ce fp) [] (wipe σ (own.map (·.2))) H' s' ∧ tn i s'.heap ∧ (∀ b ∈ fp, H' b = none) ∧ W i n H') ?_ m0 ⟨0, H3, I4, st4, nfp, w0⟩
    rintro n s5 ⟨i, H5, I5, st5, n5, w5⟩
    rcases turn i n H5 w5 with ⟨stop, qq⟩ | ⟨go, Nx, hNx, step⟩
    · refine thnF (T.done (X.blk s3 H3 scope ce fp) rfl rfl rfl hc i [] s5 _ H5 (fun _ _ => False) I5 (stat I5 n5) st5 stop) fun r s6 h6 => ?_
      obtain ⟨rfl, I6⟩ := h6
      have I7 : Inv X pins σ H5 s6 := I3.call' (ch := fp) I6.os I6.base I6.hok I6.bare fun b hb => let ⟨_, g1, _, g3, g4, g5⟩ := (f3 b hb).1; ⟨g3, g1, g4, g5⟩
      have nC : H5 s3.heap.objs.size = none := by
        have z : H5 ce.locals = none := I6.free
        rw [cL] at z
        exact z
      obtain ⟨m, hn, _⟩ := I6.loc
      have hn : s6.heap.Ns ce.locals m := hn
      rw [cL] at hn
      exact fin D s3.heap.objs.size s6 m H5 I7 qq hn (I3.fpOk (Nat.le_refl _) nC)
    · refine thnF (T.item (X.blk s3 H3 scope ce fp) rfl rfl rfl hc i [] s5 _ H5 (fun _ _ => False) I5 (stat I5 n5) st5 go) fun r s6 h6 => ?_
      obtain ⟨u, rfl, h6⟩ := h6
      refine thnF h6 fun _ s7 h7 => ?_
      obtain ⟨x, H7, I7, r7, y7, st7, n7⟩ := h7
      have I7' := I7.pinned (stat I7 n7) (T.obj _ _ st7)
      refine thnF (pg.run _ s7 _ H7 x u _ I7' r7 (step x H7 y7)) fun _ s8 h8 => ?_
      obtain ⟨σ8, H8, I8, hw8, q8⟩ := h8
      refine thnF (pt.run _ s8 σ8 H8 _ I8 q8) fun b s9 h9 => ?_
      obtain ⟨H9, I9, q9⟩ := h9
      -- the end of the turn
      have fin : ∀ {s' : Shared} {H' : Hp}, Inv (X.blk s3 H3 scope ce fp) ([] ++ pinsAt fp s7.heap) σ8 H' s' → Nx H' → ∃ m, m < n ∧ ∃ i H', Inv (X.blk s3 H3 scope ce fp) [] (wipe σ (own.map (·.2))) H' s' ∧ tn i s'.heap ∧ (∀ b ∈ fp, H' b = none) ∧ W i m H' := by
        intro s' H' J' nx
        obtain ⟨m', hm, w'⟩ := hNx H' nx
        have pin' : ∀ b ∈ fp, ∀ o, s7.heap.get? b = some o → s'.heap.get? b = some o ∧ H' b = none := fun b hb o e =>
          let z := J'.pin (b, o) (List.mem_append_right _ (List.mem_append_right _ (mem_pinsAt hb e)))
          ⟨z.1, z.2.1⟩
        have hl : (wipe σ (own.map (·.2))).length = σ8.length := by rw [← hw8, wipe_length]
        refine ⟨m', hm, i + 1, H', (J'.unpinned (pins := [])).weak hl (fun j v e => (wipe_some (by rw [hw8]; exact e)).1), T.keep _ _ _ st7 fun b hb o e => (pin' b hb o e).1, fun b hb => ?_, w'⟩
        obtain ⟨o, e, _⟩ := T.obj _ _ st7 b hb
        exact (pin' b hb o e).2
      cases b with
      | false =>
        rw [if_neg Bool.false_ne_true] at q9 ⊢
        exact fin I9 q9
      | true =>
        rw [if_pos rfl] at q9 ⊢
        refine thnF (pk.run _ s9 σ8 H9 _ I9 q9) fun z s10 h10 => ?_
        obtain ⟨yk, H10, I10, r10, q10⟩ := h10
        refine thnF (pe.run _ s10 σ8 H10 _ I10 q10) fun z2 s11 h11 => ?_
        obtain ⟨yv, H11, I11, r11, kvs, k, p, ek, hp11, hD11, hz11, nx⟩ := h11
        subst ek
        cases r10
        exact dictSetT (X := X.blk s3 H3 scope ce fp) hu I11 hD11 hp11 hz11 r11 fun s12 I12 => fin I12 nx
  exact codeAny_compStart_dict loop (T.self X.A 0 _ _ _ st4 loop)
/-- as a value -/
theorem pe_dcT {kx vx tg iter : Expr} {ifs : List Expr} {scope : Scope} {own : List (Str × Nat)} {pos : Pos} {wi : TI} {g : TG} {tt : TT} {tk tv : TE} (hc : X.calm = true) (hu : X.A.units + 1 < cLine) (hN : X.N.Nodup) (hi : PI X tg iter wi)
    (ok : BlkOk X.N X.env.scope scope own) (hg : ∀ s H C cl fp, PG (X.blk s H scope (compEnvC scope cl C X.env) fp) tg g) (ht : ∀ s H C cl fp, PTs (X.blk s H scope (compEnvC scope cl C X.env) fp) ifs tt)
    (hk : ∀ s H C cl fp, PE (X.blk s H scope (compEnvC scope cl C X.env) fp) kx tk) (he : ∀ s H C cl fp, PE (X.blk s H scope (compEnvC scope cl C X.env) fp) vx tv) (hs : ∀ x, foldedSetIterable iter X.env x = pure x := by intro _; rfl) :
    PE X (.DictComp kx vx [⟨tg, iter, ifs, 0⟩] scope pos) (tDcT wi g tt tk tv (own.map (·.2))) := by
  refine ⟨fun pins s σ H Q I h => ?_⟩
  rw [arm_eval_DictComp]
  refine dcT_core hc hu hN I hi ok hg ht hk he hs h fun D C s' m H' I' q hn f => ⟨m, hn, fun h'' sb => ?_⟩
  obtain ⟨g0, g1, _, g3, g4, g5⟩ := f
  exact ⟨.ref D, H', I'.turned (t' := s'.toks) (fun b o hb e => (sb.2 b hb).trans e) g0 g1 g3 g4 g5, rfl, q⟩
theorem sw_trueD {kx vx : Expr} {gs : List Comprehension} {scope : Scope} {pos py : Pos} {y : Str} {l : Nat} {env : Env} (hk : env.scope.kind = .function) (hy : env.scope.names.lookup y = some .local) (hl : (py.line == pos.line) = true)
    (ha : (scope.names.any fun (n, k) => n == y && (k == .local || k == .cell)) = false) : swapsWith (.DictComp kx vx gs scope pos) (some (.Name y py)) l env = pure true := by
  have k1 : env.kindOf y = some .local := hy
  have k2 : env.blockKind = .function := by
    unfold Env.blockKind
    rw [hk] <;> rfl
  unfold swapsWith
  simp only [k2, ha, k1, Expr.pos, hl] <;> rfl
/-- y = {k: v for ..} -/
theorem ps_setDcT {i : Nat} {y : Str} {py : Pos} {kx vx tg iter : Expr} {ifs : List Expr} {scope : Scope} {own : List (Str × Nat)} {pos spos : Pos} {wi : TI} {g : TG} {tt : TT} {tk tv : TE} (hc : X.calm = true) (hu : X.A.units + 1 < cLine) (hN : X.N.Nodup) (hy : X.N[i]? = some y) (hyl : X.env.scope.names.lookup y = some .local)
    (hsw : swapsWith (.DictComp kx vx [⟨tg, iter, ifs, 0⟩] scope pos) (some (.Name y py)) spos.line X.env = pure true) (hi : PI X tg iter wi)
    (ok : BlkOk X.N X.env.scope scope own) (hg : ∀ s H C cl fp, PG (X.blk s H scope (compEnvC scope cl C X.env) fp) tg g) (ht : ∀ s H C cl fp, PTs (X.blk s H scope (compEnvC scope cl C X.env) fp) ifs tt)
    (hk : ∀ s H C cl fp, PE (X.blk s H scope (compEnvC scope cl C X.env) fp) kx tk) (he : ∀ s H C cl fp, PE (X.blk s H scope (compEnvC scope cl C X.env) fp) vx tv) (hs : ∀ x, foldedSetIterable iter X.env x = pure x := by intro _; rfl) :
    PS X (.Assign [.Name y py] (.DictComp kx vx [⟨tg, iter, ifs, 0⟩] scope pos) spos) (tAsg (tDcT wi g tt tk tv (own.map (·.2))) (gName i)) := by
  refine ⟨fun pins s σ H D I h => ?_⟩
  rw [exec_Assign_Name_used _ _ _ _ hsw]
  refine wpAny_bind (wpAny_standAt (wpAny_bind ?_))
  show wpAny _ X.A (do let _ ← comprehension (.DictComp kx vx [⟨tg, iter, ifs, 0⟩] scope pos) scope X.env (firstIterPos [⟨tg, iter, ifs, 0⟩] pos) newDict false (eval iter X.env) (some (assign (.Name y py) X.env))) _ _ s
  have h2 : tDcT wi g tt tk tv (own.map (·.2)) σ H (fun x H1 => gName i x σ H1 D.nx) := h
  refine wpAny_bind (thn (dcT_core (Qf := fun _ s' => SP X pins D .next s') hc hu hN I hi ok hg ht hk he hs h2 fun L C s' m H' I' q hn f => ?_) fun _ s' hq => wpAny_pure (wpAny_pure hq))
  show wpAny _ _ (assign (.Name y py) X.env (.ref L)) _ _ _
  refine wpAny_assign_Name (store_ok2 (v := V.ref L) I' hN hy (.inl hyl) rfl (fun s2 I2 hab => ?_) (.inr hyl))
  obtain ⟨a, sb, ha⟩ := hab
  obtain ⟨g0, g1, _, g3, g4, g5⟩ := f
  have ne : C ≠ a := ha.elim (fun z => by rw [z]; exact g1) fun z e => g4 y a z e.symm
  exact ⟨m, hn.sameBut sb ne, fun h3 sb3 => ⟨_, H', I2.turned (t' := s2.toks) (fun b o hb e => (sb3.2 b hb).trans e) g0 g1 g3 g4 g5, q⟩⟩
end
end K55
set_option Elab.async false
set_option linter.all false
set_option maxRecDepth 100000
/-! The program's text by places. -/
namespace K55
open PySem L2
def top (i : Nat) : Stmt := PySem.Challenge.pw_pairorder_k55_whole_leads.main.body.getD i (.Pass ⟨0, 0, 0, 0⟩)
abbrev s_is_integer : Stmt := top 10
abbrev s_is_between : Stmt := top 11
abbrev s_is_spot : Stmt := top 12
abbrev s_is_kind : Stmt := top 15
abbrev s_check_kind : Stmt := top 16
abbrev s_counts_columns : Stmt := top 17
abbrev s_counts_rows : Stmt := top 18
abbrev s_is_possible_pair : Stmt := top 22
abbrev s_O_init : Stmt := inClass (top 23) 0
abbrev s_O_len : Stmt := inClass (top 23) 7
abbrev s_O_pairs : Stmt := inClass (top 23) 10
abbrev s_check_order : Stmt := top 24
abbrev s_is_dearer : Stmt := top 26
abbrev s_bars : Stmt := top 27
abbrev s_first_bar : Stmt := top 28
abbrev s_first_fault : Stmt := top 30
abbrev s_check_right : Stmt := top 31
abbrev s_places_of : Stmt := top 33
abbrev s_unlike : Stmt := top 34
abbrev s_check_both : Stmt := top 35
abbrev s_led : Stmt := top 36
abbrev s_is_entry : Stmt := top 39
abbrev s_is_row : Stmt := top 40
abbrev s_width_of : Stmt := top 41
abbrev s_T_init : Stmt := inClass (top 44) 0
abbrev s_T_len : Stmt := inClass (top 44) 4
abbrev s_T_contains : Stmt := inClass (top 44) 6
abbrev s_T_rows : Stmt := inClass (top 44) 12
abbrev s_T_has_cell : Stmt := inClass (top 44) 13
abbrev s_T_pairs : Stmt := inClass (top 44) 14
abbrev s_l_cell : Stmt := top 46
abbrev s_l_mixed : Stmt := top 47
abbrev s_l_draws : Stmt := top 48
abbrev s_l_grid : Stmt := top 49
abbrev s_l_spots : Stmt := top 50
abbrev s_l_copy : Stmt := top 51
abbrev s_l_cross : Stmt := top 52
abbrev s_l_needs_of : Stmt := top 53
abbrev s_l_needs : Stmt := top 54
abbrev s_l_met : Stmt := top 55
abbrev s_l_open : Stmt := top 56
abbrev s_l_is_right : Stmt := top 57
abbrev s_l_walk : Stmt := top 58
abbrev s_l_table_of : Stmt := top 59
abbrev s_l_unlike : Stmt := top 60
abbrev s_l_leads : Stmt := top 61
abbrev s_law : Stmt := top 62
def d_is_integer : He.DefD := ⟨("is_integer", none), "is_integer", "is_integer", defArgs s_is_integer, defBody s_is_integer, defScope s_is_integer, [], []⟩
def d_is_between : He.DefD := ⟨("is_between", none), "is_between", "is_between", defArgs s_is_between, defBody s_is_between, defScope s_is_between, [], []⟩
def d_is_spot : He.DefD := ⟨("is_spot", none), "is_spot", "is_spot", defArgs s_is_spot, defBody s_is_spot, defScope s_is_spot, [], []⟩
def d_is_kind : He.DefD := ⟨("is_kind", none), "is_kind", "is_kind", defArgs s_is_kind, defBody s_is_kind, defScope s_is_kind, [], []⟩
def d_check_kind : He.DefD := ⟨("check_kind", none), "check_kind", "check_kind", defArgs s_check_kind, defBody s_check_kind, defScope s_check_kind, [], []⟩
def d_counts_columns : He.DefD := ⟨("counts_columns", none), "counts_columns", "counts_columns", defArgs s_counts_columns, defBody s_counts_columns, defScope s_counts_columns, [], []⟩
def d_counts_rows : He.DefD := ⟨("counts_rows", none), "counts_rows", "counts_rows", defArgs s_counts_rows, defBody s_counts_rows, defScope s_counts_rows, [], []⟩
def d_is_possible_pair : He.DefD := ⟨("is_possible_pair", none), "is_possible_pair", "is_possible_pair", defArgs s_is_possible_pair, defBody s_is_possible_pair, defScope s_is_possible_pair, [], []⟩
def d_O_init : He.DefD := ⟨("Order", some "__init__"), "__init__", "Order.__init__", defArgs s_O_init, defBody s_O_init, defScope s_O_init, [], []⟩
def d_O_len : He.DefD := ⟨("Order", some "__len__"), "__len__", "Order.__len__", defArgs s_O_len, defBody s_O_len, defScope s_O_len, [], []⟩
def d_O_pairs : He.DefD := ⟨("Order", some "pairs"), "pairs", "Order.pairs", defArgs s_O_pairs, defBody s_O_pairs, defScope s_O_pairs, [], []⟩
def d_check_order : He.DefD := ⟨("check_order", none), "check_order", "check_order", defArgs s_check_order, defBody s_check_order, defScope s_check_order, [], []⟩
def d_is_dearer : He.DefD := ⟨("is_dearer", none), "is_dearer", "is_dearer", defArgs s_is_dearer, defBody s_is_dearer, defScope s_is_dearer, [], []⟩
def d_bars : He.DefD := ⟨("bars", none), "bars", "bars", defArgs s_bars, defBody s_bars, defScope s_bars, [], []⟩
def d_first_bar : He.DefD := ⟨("first_bar", none), "first_bar", "first_bar", defArgs s_first_bar, defBody s_first_bar, defScope s_first_bar, [], []⟩
def d_first_fault : He.DefD := ⟨("first_fault", none), "first_fault", "first_fault", defArgs s_first_fault, defBody s_first_fault, defScope s_first_fault, [], [("kind", .str "even")]⟩
def d_check_right : He.DefD := ⟨("check_right", none), "check_right", "check_right", defArgs s_check_right, defBody s_check_right, defScope s_check_right, [], []⟩
def d_places_of : He.DefD := ⟨("places_of", none), "places_of", "places_of", defArgs s_places_of, defBody s_places_of, defScope s_places_of, [], []⟩
def d_unlike : He.DefD := ⟨("unlike", none), "unlike", "unlike", defArgs s_unlike, defBody s_unlike, defScope s_unlike, [], []⟩
def d_check_both : He.DefD := ⟨("check_both", none), "check_both", "check_both", defArgs s_check_both, defBody s_check_both, defScope s_check_both, [], []⟩
def d_led : He.DefD := ⟨("led", none), "led", "led", defArgs s_led, defBody s_led, defScope s_led, [], [("kind", .str "even")]⟩
def d_is_entry : He.DefD := ⟨("is_entry", none), "is_entry", "is_entry", defArgs s_is_entry, defBody s_is_entry, defScope s_is_entry, [], []⟩
def d_is_row : He.DefD := ⟨("is_row", none), "is_row", "is_row", defArgs s_is_row, defBody s_is_row, defScope s_is_row, [], []⟩
def d_width_of : He.DefD := ⟨("width_of", none), "width_of", "width_of", defArgs s_width_of, defBody s_width_of, defScope s_width_of, [], []⟩
def d_T_init : He.DefD := ⟨("Table", some "__init__"), "__init__", "Table.__init__", defArgs s_T_init, defBody s_T_init, defScope s_T_init, [], []⟩
def d_T_len : He.DefD := ⟨("Table", some "__len__"), "__len__", "Table.__len__", defArgs s_T_len, defBody s_T_len, defScope s_T_len, [], []⟩
def d_T_contains : He.DefD := ⟨("Table", some "__contains__"), "__contains__", "Table.__contains__", defArgs s_T_contains, defBody s_T_contains, defScope s_T_contains, [], []⟩
def d_T_rows : He.DefD := ⟨("Table", some "rows"), "rows", "Table.rows", defArgs s_T_rows, defBody s_T_rows, defScope s_T_rows, [], []⟩
def d_T_has_cell : He.DefD := ⟨("Table", some "has_cell"), "has_cell", "Table.has_cell", defArgs s_T_has_cell, defBody s_T_has_cell, defScope s_T_has_cell, [], []⟩
def d_T_pairs : He.DefD := ⟨("Table", some "pairs"), "pairs", "Table.pairs", defArgs s_T_pairs, defBody s_T_pairs, defScope s_T_pairs, [], []⟩
def d_l_cell : He.DefD := ⟨("_law_cell", none), "_law_cell", "_law_cell", defArgs s_l_cell, defBody s_l_cell, defScope s_l_cell, [], []⟩
def d_l_mixed : He.DefD := ⟨("_law_mixed", none), "_law_mixed", "_law_mixed", defArgs s_l_mixed, defBody s_l_mixed, defScope s_l_mixed, [], []⟩
def d_l_draws : He.DefD := ⟨("_law_draws", none), "_law_draws", "_law_draws", defArgs s_l_draws, defBody s_l_draws, defScope s_l_draws, [], []⟩
def d_l_grid : He.DefD := ⟨("_law_grid", none), "_law_grid", "_law_grid", defArgs s_l_grid, defBody s_l_grid, defScope s_l_grid, [], []⟩
def d_l_spots : He.DefD := ⟨("_law_spots", none), "_law_spots", "_law_spots", defArgs s_l_spots, defBody s_l_spots, defScope s_l_spots, [], []⟩
def d_l_copy : He.DefD := ⟨("_law_copy", none), "_law_copy", "_law_copy", defArgs s_l_copy, defBody s_l_copy, defScope s_l_copy, [], []⟩
def d_l_cross : He.DefD := ⟨("_law_cross", none), "_law_cross", "_law_cross", defArgs s_l_cross, defBody s_l_cross, defScope s_l_cross, [], []⟩
def d_l_needs_of : He.DefD := ⟨("_law_needs_of", none), "_law_needs_of", "_law_needs_of", defArgs s_l_needs_of, defBody s_l_needs_of, defScope s_l_needs_of, [], []⟩
def d_l_needs : He.DefD := ⟨("_law_needs", none), "_law_needs", "_law_needs", defArgs s_l_needs, defBody s_l_needs, defScope s_l_needs, [], []⟩
def d_l_met : He.DefD := ⟨("_law_met", none), "_law_met", "_law_met", defArgs s_l_met, defBody s_l_met, defScope s_l_met, [], []⟩
def d_l_open : He.DefD := ⟨("_law_open", none), "_law_open", "_law_open", defArgs s_l_open, defBody s_l_open, defScope s_l_open, [], []⟩
def d_l_is_right : He.DefD := ⟨("_law_is_right", none), "_law_is_right", "_law_is_right", defArgs s_l_is_right, defBody s_l_is_right, defScope s_l_is_right, [], []⟩
def d_l_walk : He.DefD := ⟨("_law_walk", none), "_law_walk", "_law_walk", defArgs s_l_walk, defBody s_l_walk, defScope s_l_walk, [], []⟩
def d_l_table_of : He.DefD := ⟨("_law_table_of", none), "_law_table_of", "_law_table_of", defArgs s_l_table_of, defBody s_l_table_of, defScope s_l_table_of, [], []⟩
def d_l_unlike : He.DefD := ⟨("_law_unlike", none), "_law_unlike", "_law_unlike", defArgs s_l_unlike, defBody s_l_unlike, defScope s_l_unlike, [], []⟩
def d_l_leads : He.DefD := ⟨("_law_leads", none), "_law_leads", "_law_leads", defArgs s_l_leads, defBody s_l_leads, defScope s_l_leads, [], []⟩
def d_law : He.DefD := ⟨("law", none), "law", "law", defArgs s_law, defBody s_law, defScope s_law, [], []⟩
def fn1 : List He.DefD := [d_is_integer, d_is_between, d_is_spot, d_is_kind, d_check_kind, d_counts_columns, d_counts_rows, d_is_possible_pair, d_O_init, d_O_len, d_O_pairs, d_check_order, d_is_dearer, d_bars, d_first_bar, d_first_fault, d_check_right, d_places_of, d_unlike, d_check_both, d_led, d_is_entry, d_is_row, d_width_of, d_T_init]
def fn2 : List He.DefD := [d_T_len, d_T_contains, d_T_rows, d_T_has_cell, d_T_pairs, d_l_cell, d_l_mixed, d_l_draws, d_l_grid, d_l_spots, d_l_copy, d_l_cross, d_l_needs_of, d_l_needs, d_l_met, d_l_open, d_l_is_right, d_l_walk, d_l_table_of, d_l_unlike, d_l_leads, d_law]
def fn : List He.DefD := fn1 ++ fn2
def fa1 : List He.Fa := [.glo "is_integer", .glo "is_between", .glo "is_spot", .glo "is_kind", .glo "check_kind", .glo "counts_columns", .glo "counts_rows", .glo "is_possible_pair", .glo "check_order", .glo "is_dearer", .glo "bars", .glo "first_bar", .glo "first_fault", .glo "check_right", .glo "places_of", .glo "unlike", .glo "check_both", .glo "led", .glo "is_entry", .glo "is_row", .glo "width_of", .glo "_law_cell", .glo "_law_mixed", .glo "_law_draws", .glo "_law_grid", .glo "_law_spots", .glo "_law_copy", .glo "_law_cross", .glo "_law_needs_of", .glo "_law_needs"]
def fa2 : List He.Fa := [.glo "_law_met", .glo "_law_open", .glo "_law_is_right", .glo "_law_walk", .glo "_law_table_of", .glo "_law_unlike", .glo "_law_leads", .glo "law", .glo "Table", .glo "Order", .glo "KINDS"]
def fa3 : List He.Fa := [.free "len", .free "isinstance", .free "list", .free "tuple", .free "int", .free "str", .free "bool", .free "range", .free "enumerate", .free "max", .int "LONGEST" 64, .int "GREATEST" 7, .int "MOST" 8, .cls "Table", .cls "Order", .mkr "Table", .mkr "Order", .noat "Table" "grid", .noat "Order" "listed", .noat "Order" "spots", .meth "Order" "__len__", .meth "Order" "pairs", .meth "Table" "__len__", .meth "Table" "__contains__", .meth "Table" "rows", .meth "Table" "has_cell", .meth "Table" "pairs"]
def fa : List He.Fa := fa1 ++ (fa2 ++ fa3)
def kindsV : List He.Dv := [.str "even", .str "stock", .str "wish", .str "any"]
def loose1 : List PySem.Str := ["_wall", "__name__", "copied", "PairError", "InvalidTable", "InvalidOrder", "InvalidPair", "InvalidBound", "NotRight", "is_integer", "is_between", "is_spot", "KINDS", "is_kind", "check_kind", "counts_columns", "counts_rows", "LONGEST", "GREATEST", "is_possible_pair", "Order", "check_order", "is_dearer", "bars", "first_bar", "first_fault", "check_right", "places_of", "unlike", "check_both"]
def loose2 : List PySem.Str := ["led", "MOST", "is_entry", "is_row", "width_of", "is_same_size", "entry_sum", "Table", "_law_cell", "_law_mixed", "_law_draws", "_law_grid", "_law_spots", "_law_copy", "_law_cross", "_law_needs_of", "_law_needs", "_law_met", "_law_open", "_law_is_right", "_law_walk", "_law_table_of", "_law_unlike", "_law_leads"]
def loose : List PySem.Str := loose1 ++ loose2
end K55
set_option Elab.async false
set_option linter.all false
set_option maxRecDepth 100000
set_option maxHeartbeats 4000000
namespace K55
open PySem PySem.Spec PyProof.Rows L2
/-- what the top has left: the defs, the names, the classes -/
structure Txt (K : PySem.W.Frag) (mg : Str → Option Value) : Prop where
  g_is_integer : mg "is_integer" = some (.ref (He.ga K "is_integer"))
  g_is_between : mg "is_between" = some (.ref (He.ga K "is_between"))
  g_is_spot : mg "is_spot" = some (.ref (He.ga K "is_spot"))
  g_is_kind : mg "is_kind" = some (.ref (He.ga K "is_kind"))
  g_check_kind : mg "check_kind" = some (.ref (He.ga K "check_kind"))
  g_counts_columns : mg "counts_columns" = some (.ref (He.ga K "counts_columns"))
  g_counts_rows : mg "counts_rows" = some (.ref (He.ga K "counts_rows"))
  g_is_possible_pair : mg "is_possible_pair" = some (.ref (He.ga K "is_possible_pair"))
  g_check_order : mg "check_order" = some (.ref (He.ga K "check_order"))
  g_is_dearer : mg "is_dearer" = some (.ref (He.ga K "is_dearer"))
  g_bars : mg "bars" = some (.ref (He.ga K "bars"))
  g_first_bar : mg "first_bar" = some (.ref (He.ga K "first_bar"))
  g_first_fault : mg "first_fault" = some (.ref (He.ga K "first_fault"))
  g_check_right : mg "check_right" = some (.ref (He.ga K "check_right"))
  g_places_of : mg "places_of" = some (.ref (He.ga K "places_of"))
  g_unlike : mg "unlike" = some (.ref (He.ga K "unlike"))
  g_check_both : mg "check_both" = some (.ref (He.ga K "check_both"))
  g_led : mg "led" = some (.ref (He.ga K "led"))
  g_is_entry : mg "is_entry" = some (.ref (He.ga K "is_entry"))
  g_is_row : mg "is_row" = some (.ref (He.ga K "is_row"))
  g_width_of : mg "width_of" = some (.ref (He.ga K "width_of"))
  g_l_cell : mg "_law_cell" = some (.ref (He.ga K "_law_cell"))
  g_l_mixed : mg "_law_mixed" = some (.ref (He.ga K "_law_mixed"))
  g_l_draws : mg "_law_draws" = some (.ref (He.ga K "_law_draws"))
  g_l_grid : mg "_law_grid" = some (.ref (He.ga K "_law_grid"))
  g_l_spots : mg "_law_spots" = some (.ref (He.ga K "_law_spots"))
  g_l_copy : mg "_law_copy" = some (.ref (He.ga K "_law_copy"))
  g_l_cross : mg "_law_cross" = some (.ref (He.ga K "_law_cross"))
  g_l_needs_of : mg "_law_needs_of" = some (.ref (He.ga K "_law_needs_of"))
  g_l_needs : mg "_law_needs" = some (.ref (He.ga K "_law_needs"))
  g_l_met : mg "_law_met" = some (.ref (He.ga K "_law_met"))
  g_l_open : mg "_law_open" = some (.ref (He.ga K "_law_open"))
  g_l_is_right : mg "_law_is_right" = some (.ref (He.ga K "_law_is_right"))
  g_l_walk : mg "_law_walk" = some (.ref (He.ga K "_law_walk"))
  g_l_table_of : mg "_law_table_of" = some (.ref (He.ga K "_law_table_of"))
  g_l_unlike : mg "_law_unlike" = some (.ref (He.ga K "_law_unlike"))
  g_l_leads : mg "_law_leads" = some (.ref (He.ga K "_law_leads"))
  g_law : mg "law" = some (.ref (He.ga K "law"))
  g_Table : mg "Table" = some (.ref (He.ga K "Table"))
  g_Order : mg "Order" = some (.ref (He.ga K "Order"))
  g_KINDS : mg "KINDS" = some (.ref (He.ga K "KINDS"))
  f_len : mg "len" = none
  f_isinstance : mg "isinstance" = none
  f_list : mg "list" = none
  f_tuple : mg "tuple" = none
  f_int : mg "int" = none
  f_str : mg "str" = none
  f_bool : mg "bool" = none
  f_range : mg "range" = none
  f_enumerate : mg "enumerate" = none
  f_max : mg "max" = none
  i_LONGEST : ∃ t, mg "LONGEST" = some (.int 64 t)
  i_GREATEST : ∃ t, mg "GREATEST" = some (.int 7 t)
  i_MOST : ∃ t, mg "MOST" = some (.int 8 t)
  c_Table : Cls K (He.ga K "Table")
  c_Order : Cls K (He.ga K "Order")
  k_Table : Mk K (He.ga K "Table") (He.ma K (He.ga K "Table") "__init__")
  k_Order : Mk K (He.ga K "Order") (He.ma K (He.ga K "Order") "__init__")
  n_grid : NoAttr K (He.ga K "Table") "grid"
  n_listed : NoAttr K (He.ga K "Order") "listed"
  n_spots : NoAttr K (He.ga K "Order") "spots"
  m_O_len : Meth K (He.ga K "Order") "__len__" (He.ma K (He.ga K "Order") "__len__")
  m_O_pairs : Meth K (He.ga K "Order") "pairs" (He.ma K (He.ga K "Order") "pairs")
  m_T_len : Meth K (He.ga K "Table") "__len__" (He.ma K (He.ga K "Table") "__len__")
  m_T_contains : Meth K (He.ga K "Table") "__contains__" (He.ma K (He.ga K "Table") "__contains__")
  m_T_rows : Meth K (He.ga K "Table") "rows" (He.ma K (He.ga K "Table") "rows")
  m_T_has_cell : Meth K (He.ga K "Table") "has_cell" (He.ma K (He.ga K "Table") "has_cell")
  m_T_pairs : Meth K (He.ga K "Table") "pairs" (He.ma K (He.ga K "Table") "pairs")
  kinds : He.tupB K "KINDS" kindsV = true
  D_is_integer : ∃ fd, FunD K "is_integer" "is_integer" (defArgs s_is_integer) (defBody s_is_integer) (defScope s_is_integer) [] [] (He.ga K "is_integer") fd
  D_is_between : ∃ fd, FunD K "is_between" "is_between" (defArgs s_is_between) (defBody s_is_between) (defScope s_is_between) [] [] (He.ga K "is_between") fd
  D_is_spot : ∃ fd, FunD K "is_spot" "is_spot" (defArgs s_is_spot) (defBody s_is_spot) (defScope s_is_spot) [] [] (He.ga K "is_spot") fd
  D_is_kind : ∃ fd, FunD K "is_kind" "is_kind" (defArgs s_is_kind) (defBody s_is_kind) (defScope s_is_kind) [] [] (He.ga K "is_kind") fd
  D_check_kind : ∃ fd, FunD K "check_kind" "check_kind" (defArgs s_check_kind) (defBody s_check_kind) (defScope s_check_kind) [] [] (He.ga K "check_kind") fd
  D_counts_columns : ∃ fd, FunD K "counts_columns" "counts_columns" (defArgs s_counts_columns) (defBody s_counts_columns) (defScope s_counts_columns) [] [] (He.ga K "counts_columns") fd
  D_counts_rows : ∃ fd, FunD K "counts_rows" "counts_rows" (defArgs s_counts_rows) (defBody s_counts_rows) (defScope s_counts_rows) [] [] (He.ga K "counts_rows") fd
  D_is_possible_pair : ∃ fd, FunD K "is_possible_pair" "is_possible_pair" (defArgs s_is_possible_pair) (defBody s_is_possible_pair) (defScope s_is_possible_pair) [] [] (He.ga K "is_possible_pair") fd
  D_O_init : ∃ fd, FunD K "__init__" "Order.__init__" (defArgs s_O_init) (defBody s_O_init) (defScope s_O_init) [] [] (He.ma K (He.ga K "Order") "__init__") fd
  D_O_len : ∃ fd, FunD K "__len__" "Order.__len__" (defArgs s_O_len) (defBody s_O_len) (defScope s_O_len) [] [] (He.ma K (He.ga K "Order") "__len__") fd
  D_O_pairs : ∃ fd, FunD K "pairs" "Order.pairs" (defArgs s_O_pairs) (defBody s_O_pairs) (defScope s_O_pairs) [] [] (He.ma K (He.ga K "Order") "pairs") fd
  D_check_order : ∃ fd, FunD K "check_order" "check_order" (defArgs s_check_order) (defBody s_check_order) (defScope s_check_order) [] [] (He.ga K "check_order") fd
  D_is_dearer : ∃ fd, FunD K "is_dearer" "is_dearer" (defArgs s_is_dearer) (defBody s_is_dearer) (defScope s_is_dearer) [] [] (He.ga K "is_dearer") fd
  D_bars : ∃ fd, FunD K "bars" "bars" (defArgs s_bars) (defBody s_bars) (defScope s_bars) [] [] (He.ga K "bars") fd
  D_first_bar : ∃ fd, FunD K "first_bar" "first_bar" (defArgs s_first_bar) (defBody s_first_bar) (defScope s_first_bar) [] [] (He.ga K "first_bar") fd
  D_first_fault : ∃ fd, FunD K "first_fault" "first_fault" (defArgs s_first_fault) (defBody s_first_fault) (defScope s_first_fault) [] [("kind", V.str "even")] (He.ga K "first_fault") fd
  D_check_right : ∃ fd, FunD K "check_right" "check_right" (defArgs s_check_right) (defBody s_check_right) (defScope s_check_right) [] [] (He.ga K "check_right") fd
  D_places_of : ∃ fd, FunD K "places_of" "places_of" (defArgs s_places_of) (defBody s_places_of) (defScope s_places_of) [] [] (He.ga K "places_of") fd
  D_unlike : ∃ fd, FunD K "unlike" "unlike" (defArgs s_unlike) (defBody s_unlike) (defScope s_unlike) [] [] (He.ga K "unlike") fd
  D_check_both : ∃ fd, FunD K "check_both" "check_both" (defArgs s_check_both) (defBody s_check_both) (defScope s_check_both) [] [] (He.ga K "check_both") fd
  D_led : ∃ fd, FunD K "led" "led" (defArgs s_led) (defBody s_led) (defScope s_led) [] [("kind", V.str "even")] (He.ga K "led") fd
  D_is_entry : ∃ fd, FunD K "is_entry" "is_entry" (defArgs s_is_entry) (defBody s_is_entry) (defScope s_is_entry) [] [] (He.ga K "is_entry") fd
  D_is_row : ∃ fd, FunD K "is_row" "is_row" (defArgs s_is_row) (defBody s_is_row) (defScope s_is_row) [] [] (He.ga K "is_row") fd
  D_width_of : ∃ fd, FunD K "width_of" "width_of" (defArgs s_width_of) (defBody s_width_of) (defScope s_width_of) [] [] (He.ga K "width_of") fd
  D_T_init : ∃ fd, FunD K "__init__" "Table.__init__" (defArgs s_T_init) (defBody s_T_init) (defScope s_T_init) [] [] (He.ma K (He.ga K "Table") "__init__") fd
  D_T_len : ∃ fd, FunD K "__len__" "Table.__len__" (defArgs s_T_len) (defBody s_T_len) (defScope s_T_len) [] [] (He.ma K (He.ga K "Table") "__len__") fd
  D_T_contains : ∃ fd, FunD K "__contains__" "Table.__contains__" (defArgs s_T_contains) (defBody s_T_contains) (defScope s_T_contains) [] [] (He.ma K (He.ga K "Table") "__contains__") fd
  D_T_rows : ∃ fd, FunD K "rows" "Table.rows" (defArgs s_T_rows) (defBody s_T_rows) (defScope s_T_rows) [] [] (He.ma K (He.ga K "Table") "rows") fd
  D_T_has_cell : ∃ fd, FunD K "has_cell" "Table.has_cell" (defArgs s_T_has_cell) (defBody s_T_has_cell) (defScope s_T_has_cell) [] [] (He.ma K (He.ga K "Table") "has_cell") fd
  D_T_pairs : ∃ fd, FunD K "pairs" "Table.pairs" (defArgs s_T_pairs) (defBody s_T_pairs) (defScope s_T_pairs) [] [] (He.ma K (He.ga K "Table") "pairs") fd
  D_l_cell : ∃ fd, FunD K "_law_cell" "_law_cell" (defArgs s_l_cell) (defBody s_l_cell) (defScope s_l_cell) [] [] (He.ga K "_law_cell") fd
  D_l_mixed : ∃ fd, FunD K "_law_mixed" "_law_mixed" (defArgs s_l_mixed) (defBody s_l_mixed) (defScope s_l_mixed) [] [] (He.ga K "_law_mixed") fd
  D_l_draws : ∃ fd, FunD K "_law_draws" "_law_draws" (defArgs s_l_draws) (defBody s_l_draws) (defScope s_l_draws) [] [] (He.ga K "_law_draws") fd
  D_l_grid : ∃ fd, FunD K "_law_grid" "_law_grid" (defArgs s_l_grid) (defBody s_l_grid) (defScope s_l_grid) [] [] (He.ga K "_law_grid") fd
  D_l_spots : ∃ fd, FunD K "_law_spots" "_law_spots" (defArgs s_l_spots) (defBody s_l_spots) (defScope s_l_spots) [] [] (He.ga K "_law_spots") fd
  D_l_copy : ∃ fd, FunD K "_law_copy" "_law_copy" (defArgs s_l_copy) (defBody s_l_copy) (defScope s_l_copy) [] [] (He.ga K "_law_copy") fd
  D_l_cross : ∃ fd, FunD K "_law_cross" "_law_cross" (defArgs s_l_cross) (defBody s_l_cross) (defScope s_l_cross) [] [] (He.ga K "_law_cross") fd
  D_l_needs_of : ∃ fd, FunD K "_law_needs_of" "_law_needs_of" (defArgs s_l_needs_of) (defBody s_l_needs_of) (defScope s_l_needs_of) [] [] (He.ga K "_law_needs_of") fd
  D_l_needs : ∃ fd, FunD K "_law_needs" "_law_needs" (defArgs s_l_needs) (defBody s_l_needs) (defScope s_l_needs) [] [] (He.ga K "_law_needs") fd
  D_l_met : ∃ fd, FunD K "_law_met" "_law_met" (defArgs s_l_met) (defBody s_l_met) (defScope s_l_met) [] [] (He.ga K "_law_met") fd
  D_l_open : ∃ fd, FunD K "_law_open" "_law_open" (defArgs s_l_open) (defBody s_l_open) (defScope s_l_open) [] [] (He.ga K "_law_open") fd
  D_l_is_right : ∃ fd, FunD K "_law_is_right" "_law_is_right" (defArgs s_l_is_right) (defBody s_l_is_right) (defScope s_l_is_right) [] [] (He.ga K "_law_is_right") fd
  D_l_walk : ∃ fd, FunD K "_law_walk" "_law_walk" (defArgs s_l_walk) (defBody s_l_walk) (defScope s_l_walk) [] [] (He.ga K "_law_walk") fd
  D_l_table_of : ∃ fd, FunD K "_law_table_of" "_law_table_of" (defArgs s_l_table_of) (defBody s_l_table_of) (defScope s_l_table_of) [] [] (He.ga K "_law_table_of") fd
  D_l_unlike : ∃ fd, FunD K "_law_unlike" "_law_unlike" (defArgs s_l_unlike) (defBody s_l_unlike) (defScope s_l_unlike) [] [] (He.ga K "_law_unlike") fd
  D_l_leads : ∃ fd, FunD K "_law_leads" "_law_leads" (defArgs s_l_leads) (defBody s_l_leads) (defScope s_l_leads) [] [] (He.ga K "_law_leads") fd
  D_law : ∃ fd, FunD K "law" "law" (defArgs s_law) (defBody s_law) (defScope s_law) [] [] (He.ga K "law") fd
theorem sc_is_integer : FnScope ["value"] ["value"] (defScope s_is_integer) := ⟨rfl, rfl, rfl, by decide +kernel, rfl, by decide +kernel, by decide +kernel⟩
theorem sc_is_between : FnScope ["value", "low", "high"] ["value", "low", "high"] (defScope s_is_between) := ⟨rfl, rfl, rfl, by decide +kernel, rfl, by decide +kernel, by decide +kernel⟩
theorem sc_is_spot : FnScope ["value"] ["value"] (defScope s_is_spot) := ⟨rfl, rfl, rfl, by decide +kernel, rfl, by decide +kernel, by decide +kernel⟩
theorem sc_is_kind : FnScope ["value"] ["value"] (defScope s_is_kind) := ⟨rfl, rfl, rfl, by decide +kernel, rfl, by decide +kernel, by decide +kernel⟩
theorem sc_check_kind : FnScope ["kind"] ["kind"] (defScope s_check_kind) := ⟨rfl, rfl, rfl, by decide +kernel, rfl, by decide +kernel, by decide +kernel⟩
theorem sc_counts_columns : FnScope ["kind"] ["kind"] (defScope s_counts_columns) := ⟨rfl, rfl, rfl, by decide +kernel, rfl, by decide +kernel, by decide +kernel⟩
theorem sc_counts_rows : FnScope ["kind"] ["kind"] (defScope s_counts_rows) := ⟨rfl, rfl, rfl, by decide +kernel, rfl, by decide +kernel, by decide +kernel⟩
theorem sc_is_possible_pair : FnScope ["value"] ["value"] (defScope s_is_possible_pair) := ⟨rfl, rfl, rfl, by decide +kernel, rfl, by decide +kernel, by decide +kernel⟩
theorem sc_O_init : FnScope ["self", "pairs", "at", "pair"] ["self", "pairs"] (defScope s_O_init) := ⟨rfl, rfl, rfl, by decide +kernel, rfl, by decide +kernel, by decide +kernel⟩
theorem sc_O_len : FnScope ["self"] ["self"] (defScope s_O_len) := ⟨rfl, rfl, rfl, by decide +kernel, rfl, by decide +kernel, by decide +kernel⟩
theorem sc_O_pairs : FnScope ["self"] ["self"] (defScope s_O_pairs) := ⟨rfl, rfl, rfl, by decide +kernel, rfl, by decide +kernel, by decide +kernel⟩
theorem sc_check_order : FnScope ["table", "order", "pair"] ["table", "order"] (defScope s_check_order) := ⟨rfl, rfl, rfl, by decide +kernel, rfl, by decide +kernel, by decide +kernel⟩
theorem sc_is_dearer : FnScope ["grid", "pair", "other", "i", "j", "r", "s"] ["grid", "pair", "other"] (defScope s_is_dearer) := ⟨rfl, rfl, rfl, by decide +kernel, rfl, by decide +kernel, by decide +kernel⟩
theorem sc_bars : GScope ["table", "behind", "pair", "kind", "grid", "i", "j", "stocks", "wishes", "r", "s"] ["table", "behind", "pair", "kind"] (defScope s_bars) := ⟨rfl, rfl, rfl, by decide +kernel, rfl, by decide +kernel, by decide +kernel⟩
theorem sc_first_bar : FnScope ["table", "behind", "pair", "kind", "bar"] ["table", "behind", "pair", "kind"] (defScope s_first_bar) := ⟨rfl, rfl, rfl, by decide +kernel, rfl, by decide +kernel, by decide +kernel⟩
theorem sc_first_fault : FnScope ["table", "order", "kind", "behind", "pair", "bar"] ["table", "order", "kind"] (defScope s_first_fault) := ⟨rfl, rfl, rfl, by decide +kernel, rfl, by decide +kernel, by decide +kernel⟩
theorem sc_check_right : FnScope ["table", "order", "kind", "fault"] ["table", "order", "kind"] (defScope s_check_right) := ⟨rfl, rfl, rfl, by decide +kernel, rfl, by decide +kernel, by decide +kernel⟩
theorem sc_places_of : FnScope ["listed", "place", "pair"] ["listed"] (defScope s_places_of) := ⟨rfl, rfl, rfl, by decide +kernel, rfl, by decide +kernel, by decide +kernel⟩
theorem sc_unlike : FnScope ["one", "other", "listed", "places", "pair", "total", "at", "later"] ["one", "other"] (defScope s_unlike) := ⟨rfl, rfl, rfl, by decide +kernel, rfl, by decide +kernel, by decide +kernel⟩
theorem sc_check_both : FnScope ["table", "one", "other", "kind"] ["table", "one", "other", "kind"] (defScope s_check_both) := ⟨rfl, rfl, rfl, by decide +kernel, rfl, by decide +kernel, by decide +kernel⟩
theorem sc_led : FnScope ["table", "one", "other", "kind", "present", "exchanges", "place", "pair", "at"] ["table", "one", "other", "kind"] (defScope s_led) := ⟨rfl, rfl, rfl, by decide +kernel, rfl, by decide +kernel, by decide +kernel⟩
theorem sc_is_entry : FnScope ["value"] ["value"] (defScope s_is_entry) := ⟨rfl, rfl, rfl, by decide +kernel, rfl, by decide +kernel, by decide +kernel⟩
theorem sc_is_row : FnScope ["value", "width", "entry"] ["value", "width"] (defScope s_is_row) := ⟨rfl, rfl, rfl, by decide +kernel, rfl, by decide +kernel, by decide +kernel⟩
theorem sc_width_of : FnScope ["rows"] ["rows"] (defScope s_width_of) := ⟨rfl, rfl, rfl, by decide +kernel, rfl, by decide +kernel, by decide +kernel⟩
theorem sc_T_init : FnScope ["self", "rows", "width", "at", "row"] ["self", "rows"] (defScope s_T_init) := ⟨rfl, rfl, rfl, by decide +kernel, rfl, by decide +kernel, by decide +kernel⟩
theorem sc_T_len : FnScope ["self"] ["self"] (defScope s_T_len) := ⟨rfl, rfl, rfl, by decide +kernel, rfl, by decide +kernel, by decide +kernel⟩
theorem sc_T_contains : FnScope ["self", "value"] ["self", "value"] (defScope s_T_contains) := ⟨rfl, rfl, rfl, by decide +kernel, rfl, by decide +kernel, by decide +kernel⟩
theorem sc_T_rows : FnScope ["self", "row"] ["self"] (defScope s_T_rows) := ⟨rfl, rfl, rfl, by decide +kernel, rfl, by decide +kernel, by decide +kernel⟩
theorem sc_T_has_cell : FnScope ["self", "value"] ["self", "value"] (defScope s_T_has_cell) := ⟨rfl, rfl, rfl, by decide +kernel, rfl, by decide +kernel, by decide +kernel⟩
theorem sc_T_pairs : FnScope ["self", "i", "row", "j", "price"] ["self"] (defScope s_T_pairs) := ⟨rfl, rfl, rfl, by decide +kernel, rfl, by decide +kernel, by decide +kernel⟩
theorem sc_l_cell : FnScope ["_law_script", "_law_k"] ["_law_script", "_law_k"] (defScope s_l_cell) := ⟨rfl, rfl, rfl, by decide +kernel, rfl, by decide +kernel, by decide +kernel⟩
theorem sc_l_mixed : FnScope ["_law_cell_here", "_law_k", "_law_number"] ["_law_cell_here", "_law_k"] (defScope s_l_mixed) := ⟨rfl, rfl, rfl, by decide +kernel, rfl, by decide +kernel, by decide +kernel⟩
theorem sc_l_draws : FnScope ["_law_script", "_law_spot", "_law_sizes", "_law_cell_here", "_law_left", "_law_drawn", "_law_k", "_law_size", "_law_number"] ["_law_script", "_law_spot", "_law_sizes"] (defScope s_l_draws) := ⟨rfl, rfl, rfl, by decide +kernel, rfl, by decide +kernel, by decide +kernel⟩
theorem sc_l_grid : FnScope ["_law_script", "_law_spot", "_law_m", "_law_n", "_law_style", "_law_share", "_law_spread", "_law_sizes", "_law_drawn", "_law_high", "_law_wide", "_law_grid_here", "_law_i", "_law_row", "_law_j", "_law_number", "_law_price"] ["_law_script", "_law_spot", "_law_m", "_law_n", "_law_style", "_law_share"] (defScope s_l_grid) := ⟨rfl, rfl, rfl, by decide +kernel, rfl, by decide +kernel, by decide +kernel⟩
theorem sc_l_spots : FnScope ["_law_grid_here", "_law_spots_here", "_law_i", "_law_row", "_law_j", "_law_price"] ["_law_grid_here"] (defScope s_l_spots) := ⟨rfl, rfl, rfl, by decide +kernel, rfl, by decide +kernel, by decide +kernel⟩
theorem sc_l_copy : FnScope ["_law_grid_here", "_law_row"] ["_law_grid_here"] (defScope s_l_copy) := ⟨rfl, rfl, rfl, by decide +kernel, rfl, by decide +kernel, by decide +kernel⟩
theorem sc_l_cross : FnScope ["_law_grid_here", "_law_i", "_law_j", "_law_r", "_law_s", "_law_straight"] ["_law_grid_here", "_law_i", "_law_j", "_law_r", "_law_s"] (defScope s_l_cross) := ⟨rfl, rfl, rfl, by decide +kernel, rfl, by decide +kernel, by decide +kernel⟩
theorem sc_l_needs_of : FnScope ["_law_grid_here", "_law_i", "_law_j", "_law_sort", "_law_own", "_law_r", "_law_s"] ["_law_grid_here", "_law_i", "_law_j", "_law_sort"] (defScope s_l_needs_of) := ⟨rfl, rfl, rfl, by decide +kernel, rfl, by decide +kernel, by decide +kernel⟩
theorem sc_l_needs : FnScope ["_law_grid_here", "_law_sort", "_law_needs_here", "_law_i", "_law_j"] ["_law_grid_here", "_law_sort"] (defScope s_l_needs) := ⟨rfl, rfl, rfl, by decide +kernel, rfl, by decide +kernel, by decide +kernel⟩
theorem sc_l_met : FnScope ["_law_own", "_law_placed", "_law_need", "_law_spot"] ["_law_own", "_law_placed"] (defScope s_l_met) := ⟨rfl, rfl, rfl, by decide +kernel, rfl, by decide +kernel, by decide +kernel⟩
theorem sc_l_open : FnScope ["_law_needs_here", "_law_placed", "_law_found", "_law_spot"] ["_law_needs_here", "_law_placed"] (defScope s_l_open) := ⟨rfl, rfl, rfl, by decide +kernel, rfl, by decide +kernel, by decide +kernel⟩
theorem sc_l_is_right : FnScope ["_law_needs_here", "_law_listed", "_law_placed", "_law_spot"] ["_law_needs_here", "_law_listed"] (defScope s_l_is_right) := ⟨rfl, rfl, rfl, by decide +kernel, rfl, by decide +kernel, by decide +kernel⟩
theorem sc_l_walk : FnScope ["_law_needs_here", "_law_picks", "_law_placed", "_law_k", "_law_found"] ["_law_needs_here", "_law_picks"] (defScope s_l_walk) := ⟨rfl, rfl, rfl, by decide +kernel, rfl, by decide +kernel, by decide +kernel⟩
theorem sc_l_table_of : FnScope ["_law_script", "_law_sort", "_law_head", "_law_m", "_law_n", "_law_grid_here"] ["_law_script", "_law_sort", "_law_head"] (defScope s_l_table_of) := ⟨rfl, rfl, rfl, by decide +kernel, rfl, by decide +kernel, by decide +kernel⟩
theorem sc_l_unlike : FnScope ["_law_one", "_law_two", "_law_total", "_law_at", "_law_spot", "_law_here", "_law_k"] ["_law_one", "_law_two"] (defScope s_l_unlike) := ⟨rfl, rfl, rfl, by decide +kernel, rfl, by decide +kernel, by decide +kernel⟩
theorem sc_l_leads : FnScope ["_law_needs_here", "_law_one", "_law_two", "_law_told", "_law_now", "_law_step", "_law_placed", "_law_spot"] ["_law_needs_here", "_law_one", "_law_two", "_law_told"] (defScope s_l_leads) := ⟨rfl, rfl, rfl, by decide +kernel, rfl, by decide +kernel, by decide +kernel⟩
theorem sc_law : FnScope ["_law_script", "_law_head", "_law_sort", "_law_grid_here", "_law_needs_here", "_law_one", "_law_two", "_law_table", "_law_first", "_law_second", "_law_turn", "_law_told", "_law_back"] ["_law_script"] (defScope s_law) := ⟨rfl, rfl, rfl, by decide +kernel, rfl, by decide +kernel, by decide +kernel⟩
/-! ### what stands in the heap -/
def keyP (p : Pr) : List L2.Key := [Sum.inl (p.1 : Int), Sum.inl (p.2 : Int)]
def tupP (p : Pr) : List V := [.int p.1, .int p.2]
theorem keyP_tup (p : Pr) : (keyP p).map kV = tupP p := rfl
theorem keyP_inj {p q : Pr} (h : keyP p = keyP q) : p = q := by
  obtain ⟨a, b⟩ := p
  obtain ⟨c, d⟩ := q
  unfold keyP at h
  simp only [List.cons.injEq, Sum.inl.injEq, Int.ofNat_inj, and_true] at h
  rw [h.1, h.2]
def oV : Option Int → V
  | none => .non
  | some z => .int z
/-- a pair's tuple -/
def PrA (H : Hp) (a : Addr) (p : Pr) : Prop := H a = some (.tup (tupP p))
/-- a list of things told by R -/
def LL {α : Type} (R : Hp → Addr → α → Prop) (H : Hp) (a : Addr) (xs : List α) : Prop := ∃ as : List Addr, H a = some (.lst (as.map V.ref)) ∧ Paired (R H) as xs
def RA (H : Hp) (a : Addr) (r : Row) : Prop := H a = some (.lst (r.map oV))
abbrev GA := LL RA
abbrev PrL := LL PrA
abbrev NL := LL PrL
def Mono {α : Type} (R : Hp → Addr → α → Prop) : Prop := ∀ H H' a x, Same H H' → R H a x → R H' a x
theorem mono_PrA : Mono PrA := fun _ _ _ _ s h => s _ _ h
theorem mono_RA : Mono RA := fun _ _ _ _ s h => s _ _ h
theorem mono_LL {α : Type} {R : Hp → Addr → α → Prop} (m : Mono R) : Mono (LL R) := fun H H' a x s h => by
  obtain ⟨as, h1, h2⟩ := h
  exact ⟨as, s _ _ h1, Paired.mapP h2 fun b y => m H H' b y s⟩
theorem mono_GA : Mono GA := mono_LL mono_RA
theorem mono_PrL : Mono PrL := mono_LL mono_PrA
theorem mono_NL : Mono NL := mono_LL mono_PrL
theorem PrA.mono {H H' : Hp} {a : Addr} {p : Pr} (h : PrA H a p) (s : Same H H') : PrA H' a p := s _ _ h
theorem GA.mono {H H' : Hp} {a : Addr} {p : Grid} (h : GA H a p) (s : Same H H') : GA H' a p := mono_GA _ _ _ _ s h
theorem PrL.mono {H H' : Hp} {a : Addr} {p : List Pr} (h : PrL H a p) (s : Same H H') : PrL H' a p := mono_PrL _ _ _ _ s h
theorem NL.mono {H H' : Hp} {a : Addr} {p : List (List Pr)} (h : NL H a p) (s : Same H H') : NL H' a p := mono_NL _ _ _ _ s h
theorem Paired.at {α β : Type} {F : α → β → Prop} : ∀ {l : List α} {m : List β} {i : Nat} {y : β}, Paired F l m → m[i]? = some y → ∃ x, l[i]? = some x ∧ F x y
  | _, _, _, _, .nil, h => by simp at h
  | _, _, 0, _, .cons r _, h => ⟨_, rfl, by have e := Option.some.inj h; rw [← e]; exact r⟩
  | _, _, i + 1, _, .cons _ t, h => Paired.at (i := i) t h
theorem Paired.at' {α β : Type} {F : α → β → Prop} : ∀ {l : List α} {m : List β} {i : Nat} {x : α}, Paired F l m → l[i]? = some x → ∃ y, m[i]? = some y ∧ F x y
  | _, _, _, _, .nil, h => by simp at h
  | _, _, 0, _, .cons r _, h => ⟨_, rfl, by have e := Option.some.inj h; rw [← e]; exact r⟩
  | _, _, i + 1, _, .cons _ t, h => Paired.at' (i := i) t h
/-- the i-th item's address -/
theorem LL.at {α : Type} {R : Hp → Addr → α → Prop} {H : Hp} {a : Addr} {xs : List α} {i : Nat} {x : α} (h : LL R H a xs) (e : xs[i]? = some x) : ∃ (as : List Addr) (b : Addr), H a = some (.lst (as.map V.ref)) ∧ (as.map V.ref)[i]? = some (.ref b) ∧ R H b x := by
  obtain ⟨as, h1, h2⟩ := h
  obtain ⟨b, e1, e2⟩ := Paired.at h2 e
  exact ⟨as, b, h1, by rw [List.getElem?_map, e1]; rfl, e2⟩
theorem refs_at {α : Type} {R : Addr → α → Prop} {as : List Addr} {xs : List α} {i : Nat} {v : V} (h : Paired R as xs) (e : (as.map V.ref)[i]? = some v) : ∃ b x, v = .ref b ∧ xs[i]? = some x ∧ R b x := by
  rw [List.getElem?_map] at e
  cases q : as[i]? with
  | none => rw [q] at e; cases e
  | some b =>
    rw [q] at e
    obtain ⟨x, e1, e2⟩ := Paired.at' h q
    exact ⟨b, x, (Option.some.inj e).symm, e1, e2⟩
theorem refs_len {α : Type} {R : Addr → α → Prop} {as : List Addr} {xs : List α} (h : Paired R as xs) : (as.map V.ref).length = xs.length := by rw [List.length_map]; exact Paired.length h
/-! ### the heap without some addresses: what stands elsewhere may be carried over their changes -/
def Wo (H : Hp) (ds : List Addr) : Hp := fun b => if b ∈ ds then none else H b
theorem Wo_in {H : Hp} {ds : List Addr} {b : Addr} (h : b ∈ ds) : Wo H ds b = none := if_pos h
theorem Wo_out {H : Hp} {ds : List Addr} {b : Addr} (h : b ∉ ds) : Wo H ds b = H b := if_neg h
theorem Wo_same (H : Hp) (ds : List Addr) : Same (Wo H ds) H := fun b o e => by
  by_cases h : b ∈ ds
  · rw [Wo_in h] at e; cases e
  · rw [Wo_out h] at e; exact e
theorem Wo_of {H H' : Hp} {ds : List Addr} (s : Same H H') : Same (Wo H ds) (Wo H' ds) := fun b o e => by
  by_cases h : b ∈ ds
  · rw [Wo_in h] at e; cases e
  · rw [Wo_out h] at e ⊢; exact s b o e
theorem Wo_to {H H' : Hp} {ds : List Addr} (s : Same H H') (n : ∀ d ∈ ds, H d = none) : Same H (Wo H' ds) := fun b o e => by
  have h : b ∉ ds := fun z => by rw [n b z] at e; cases e
  rw [Wo_out h]
  exact s b o e
theorem Wo_upd {H : Hp} {ds : List Addr} {d : Addr} {o : HO} (h : d ∈ ds) : Wo (upd H d o) ds = Wo H ds := by
  funext b
  by_cases hb : b ∈ ds
  · rw [Wo_in hb, Wo_in hb]
  · rw [Wo_out hb, Wo_out hb, upd_ne (fun z => hb (by rw [z]; exact h))]
theorem Wo_new {H : Hp} {ds : List Addr} {d : Addr} {o : HO} (h : H d = none) : Same (Wo H ds) (Wo (upd H d o) ds) := fun b u e => by
  by_cases hb : b ∈ ds
  · rw [Wo_in hb] at e; cases e
  · rw [Wo_out hb] at e ⊢
    rw [upd_ne (ne_of_none e h)]
    exact e
theorem same_new {H : Hp} {d : Addr} {o : HO} (h : H d = none) : Same H (upd H d o) := fun b u e => by
  rw [upd_ne (ne_of_none e h)]
  exact e
theorem same_upd {H H' : Hp} {d : Addr} {o : HO} (s : Same H H') (h : H d = none) : Same H (upd H' d o) := fun b u e => by
  rw [upd_ne (ne_of_none e h)]
  exact s b u e
/-! ### a def with its promise -/
structure Def (P : Program) (w : World) (K : PySem.W.Frag) (mg : Str → Option Value) (base : Heap) (k : Nat) (f : Addr) (ps : List Str) (sp : Sp) : Prop where
  ex : ∃ fd, FnOk P w K mg base CX0 k f fd ps sp ∧ Binds K fd ps []
  kp : PySem.W.keepIn K (.ref f) = true
section
variable {P : Program} {w : World} {K : PySem.W.Frag} {mg : Str → Option Value} {base : Heap}
theorem mkDef {x qual : Str} {params : Arguments} {body : List Stmt} {scope : Scope} {N ps : List Str} {f : Addr} {fd : FuncData} {k : Nat} {sp : Sp} (F : FunD K x qual params body scope [] [] f fd) (S : FnScope N ps scope)
    (hb : ∀ (kV doc pm : Value) (an : Option Addr) (cdv ct : Value) (us : List Value), us.length = ps.length → bindArgs (PySem.W.fnOf x qual params body scope .none kV doc pm an cdv ct) ⟨us, []⟩ = pure (ps.zip us))
    (len : ∀ vs H Q E, sp vs H Q E → vs.length = ps.length)
    (hbody : ∀ (cdv : Value) (A : Around) (outer : List Env) (s : Shared) (H : Hp) (vs : List V) (Q : VK) (E : XK), Room k (A.deeper (envOfC qual scope s.heap.objs.size f cdv)) → sp vs H Q E →
      ∃ t, PSs (cxOf CX0 P w K mg base N qual scope f cdv A outer s H E).nox body t ∧ t { nx := fun _ H' => Q .non H', rt := Q } (start N vs) H) : Def P w K mg base (k + 1) f ps sp :=
  ⟨⟨fd, F.ok S len fun cdv A outer s H vs Q E hr h => (let ⟨t, h1, h2⟩ := hbody cdv A outer s H vs Q E hr h; ⟨t, h1.nox, h2⟩), F.bindsN hb⟩, F.kp⟩
theorem Def.mono {j k : Nat} {f : Addr} {ps : List Str} {sp : Sp} (D : Def P w K mg base j f ps sp) (h : j ≤ k) : Def P w K mg base k f ps sp := let ⟨⟨fd, F, b⟩, q⟩ := D; ⟨⟨fd, F.mono h, b⟩, q⟩
end
section
variable {X : Cx} {k : Nat} {f C : Addr} {ps : List Str} {sp : Sp} {x m : Str} {p pos apos : Pos} {e o : Expr} {es : List Expr} {ta : TE} {t : TA}
theorem pd_call (D : Def X.prog X.w X.K X.mg X.base k f ps sp) (hr : Room k X.A) (hg : Gl X x) (hm : X.mg x = some (.ref f)) (ha : PA X (e :: es) t) (hdb : (x == ("__debug__" : Str)) = false := by decide)
    (he : starEach (e :: es) X.env = (false, eval e X.env) :: starEach es X.env := by rfl) (hpl : (backTo pos (starEach es X.env)).any (·.1) = false := by rfl) : PE X (.Call (.Name x p) (e :: es) [] pos) (tCall sp [] E0 t) := by
  obtain ⟨⟨fd, F, b⟩, kp⟩ := D
  exact pe_call F hr hg hm kp b .nil pass0 ha hdb he hpl
theorem pd_meth {pl : Sem Bool} (he : PE X o ta) (c : Cls X.K C) (hm : Meth X.K C m f) (D : Def X.prog X.w X.K X.mg X.base k f ps sp) (hr : Room k X.A) (ha : PA X (e :: es) t)
    (hst : starEach (e :: es) X.env = (false, eval e X.env) :: starEach es X.env := by rfl) (hpl : (backTo pos (starEach es X.env)).any (·.1) = false := by rfl)
    (ht : eval (.Call (.Attribute o m apos) (e :: es) [] pos) X.env = (do
      let ov ← eval o X.env
      standAt apos.atName
      let (f, first) ← holding [ov] (getMethod ov m pl)
      callWith pos f first (backTo pos (starEach (e :: es) X.env)) (backToKw pos (keywordEach [] X.env))) := by rfl) :
    PE X (.Call (.Attribute o m apos) (e :: es) [] pos) (tMeth C m sp [] E0 ta t) := by
  obtain ⟨⟨fd, F, b⟩, kp⟩ := D
  exact pe_meth he c hm F hr b .nil pass0 ha hst hpl ht
theorem pd_meth0 {pl : Sem Bool} (he : PE X o ta) (c : Cls X.K C) (hm : Meth X.K C m f) (D : Def X.prog X.w X.K X.mg X.base k f ps sp) (hr : Room k X.A)
    (ht : eval (.Call (.Attribute o m apos) [] [] pos) X.env = (do
      let ov ← eval o X.env
      standAt apos.atName
      let (f, first) ← holding [ov] (getMethod ov m pl)
      callWith pos f first (backTo pos (starEach [] X.env)) (backToKw pos (keywordEach [] X.env))) := by rfl) :
    PE X (.Call (.Attribute o m apos) [] [] pos) (tMeth C m sp [] E0 ta tNil) := by
  obtain ⟨⟨fd, F, b⟩, kp⟩ := D
  exact pe_meth0 he c hm F hr b .nil pass0 ht
theorem pd_make (M : Mk X.K C f) (D : Def X.prog X.w X.K X.mg X.base k f ps sp) (hr : Room (k + 1) X.A) (hg : Gl X x) (hm : X.mg x = some (.ref C)) (ha : PA X (e :: es) t) (hdb : (x == ("__debug__" : Str)) = false := by decide)
    (he : starEach (e :: es) X.env = (false, eval e X.env) :: starEach es X.env := by rfl) (hpl : (backTo pos (starEach es X.env)).any (·.1) = false := by rfl) : PE X (.Call (.Name x p) (e :: es) [] pos) (tMake C sp [] E0 t) := by
  obtain ⟨⟨fd, F, b⟩, kp⟩ := D
  exact pe_make M F hr hg hm b .nil pass0 ha hdb he hpl
theorem cd_len (D : Def X.prog X.w X.K X.mg X.base k f ps sp) (hm : Meth X.K C "__len__" f) (hr : Room (k + 1) X.A) : CallR X (.builtin "len") (rLenO C sp) := by
  obtain ⟨⟨fd, F, b⟩, kp⟩ := D
  exact call_len_own F b hm hr
theorem cd_notin (D : Def X.prog X.w X.K X.mg X.base k f ps sp) (hm : Meth X.K C "__contains__" f) (hr : Room k X.A) : OpR X (compareOp .NotIn) (rInO C sp not) := by
  obtain ⟨⟨fd, F, b⟩, kp⟩ := D
  exact op_notin_own F b hm hr
end
abbrev rListOf (K : PySem.W.Frag) : List V → Hp → VK → Prop := fun xs H Q => ∃ p ys, xs = [V.ref p] ∧ (SqL K H p ys ∨ SqT K H p ys) ∧ ∀ l, H l = none → Q (.ref l) (upd H l (.lst ys))
abbrev rLenOf (K : PySem.W.Frag) : List V → Hp → VK → Prop := fun xs H Q => ∃ p ys, xs = [V.ref p] ∧ (SqL K H p ys ∨ SqT K H p ys) ∧ Q (.int ys.length) H
def kindsS : List Str := ["even", "stock", "wish", "any"]
def kcol (z : Str) : Bool := decide (z = "stock") || decide (z = "any")
def krow (z : Str) : Bool := decide (z = "wish") || decide (z = "any")
end K55
set_option Elab.async false
set_option linter.all false
set_option maxRecDepth 100000
set_option maxHeartbeats 4000000
namespace K55
open PySem PySem.Spec PyProof.Rows L2
section
variable {P : Program} {w : World} {K : PySem.W.Frag} {mg : Str → Option Value} {base : Heap}
def spIsInteger : Sp := fun vs H Q _ => ∃ i : Int, vs = [.int i] ∧ Q (.bl true) H
theorem df_is_integer (T : Txt K mg) : Def P w K mg base 1 (He.ga K "is_integer") ["value"] spIsInteger := by
  obtain ⟨fd, F⟩ := T.D_is_integer
  refine mkDef F sc_is_integer (fun _ _ _ _ _ _ us hl => match us, hl with | [_], _ => rfl) (fun vs H Q E h => ?len) (fun cdv A outer s H vs Q E hr h => ?body)
  case len =>
    obtain ⟨i, rfl, _⟩ := h
    rfl
  case body =>
    obtain ⟨i, rfl, q⟩ := h
    refine ⟨_, pss_one (ps_ret (pe_and (pe_callB call_isi (by rfl) T.f_isinstance (by decide +kernel) (pa_cons (pv 0) (pa_cons (pe_bltn (v := .ty "int") (by rfl) T.f_int (by decide +kernel) rfl) pa_nil))) (pe_one (pe_not (pe_callB call_isi (by rfl) T.f_isinstance (by decide +kernel) (pa_cons (pv 0) (pa_cons (pe_bltn (v := .ty "bool") (by rfl) T.f_bool (by decide +kernel) rfl) pa_nil))))))), ?_⟩
    refine ⟨_, rfl, _, _, _, _, true, rfl, .ty "int", .base (.int i), kit_ty (by decide +kernel), _, rfl, iteT ?_⟩
    exact ⟨_, rfl, _, _, _, _, false, rfl, .ty "bool", .base (.int i), kit_ty (by decide +kernel), _, rfl, q⟩
def spIsBetween : Sp := fun vs H Q _ => ∃ i lo hi : Int, vs = [.int i, .int lo, .int hi] ∧ Q (.bl (decide (lo ≤ i) && decide (i ≤ hi))) H
theorem df_is_between (T : Txt K mg) : Def P w K mg base 2 (He.ga K "is_between") ["value", "low", "high"] spIsBetween := by
  obtain ⟨fd, F⟩ := T.D_is_between
  refine mkDef F sc_is_between (fun _ _ _ _ _ _ us hl => match us, hl with | [_, _, _], _ => rfl) (fun vs H Q E h => ?len) (fun cdv A outer s H vs Q E hr h => ?body)
  case len =>
    obtain ⟨i, lo, hi, rfl, _⟩ := h
    rfl
  case body =>
    obtain ⟨i, lo, hi, rfl, q⟩ := h
    refine ⟨_, pss_one (ps_ret (pe_and (pd_call (df_is_integer T) (hr) (by rfl) T.g_is_integer (pa_cons (pv 0) pa_nil)) (pe_one (pe_chain op_le op_le (pv 1) (pv 0) (pv 2))))), ?_⟩
    refine ⟨_, rfl, i, rfl, _, rfl, iteT ?_⟩
    refine ⟨_, rfl, _, rfl, _, _, rfl, rfl, _, rfl, ?_⟩
    by_cases e : lo ≤ i
    · rw [decide_eq_true e] at q ⊢
      exact iteT ⟨_, rfl, _, _, rfl, rfl, q⟩
    · rw [decide_eq_false e] at q ⊢
      exact iteF q
/-- a tuple of two ints -/
def spIsSpot : Sp := fun vs H Q _ => ∃ (a : Addr) (i j : Int), vs = [.ref a] ∧ H a = some (.tup [.int i, .int j]) ∧ Q (.bl true) H
theorem df_is_spot (T : Txt K mg) : Def P w K mg base 2 (He.ga K "is_spot") ["value"] spIsSpot := by
  obtain ⟨fd, F⟩ := T.D_is_spot
  refine mkDef F sc_is_spot (fun _ _ _ _ _ _ us hl => match us, hl with | [_], _ => rfl) (fun vs H Q E h => ?len) (fun cdv A outer s H vs Q E hr h => ?body)
  case len =>
    obtain ⟨a, i, j, rfl, _⟩ := h
    rfl
  case body =>
    obtain ⟨a, i, j, rfl, ha, q⟩ := h
    refine ⟨_, pss_one (ps_ret (pe_and (pe_callB call_isi (by rfl) T.f_isinstance (by decide +kernel) (pa_cons (pv 0) (pa_cons (pe_bltn (v := .ty "tuple") (by rfl) T.f_tuple (by decide +kernel) rfl) pa_nil))) (pe_and (pe_cmpR op_eq (pe_callB (r := rLenOf K) (id := "len") call_len_seq (by rfl) T.f_len (by decide +kernel) (pa_cons (pv 0) pa_nil)) pe_int (nomark _)) (pe_and (pd_call (df_is_integer T) (hr) (by rfl) T.g_is_integer (pa_cons (pe_ix (r := rIxT K) ix_tup (pv 0) (pe_int) (fun _ _ => rfl)) pa_nil)) (pe_one (pd_call (df_is_integer T) (hr) (by rfl) T.g_is_integer (pa_cons (pe_ix (r := rIxT K) ix_tup (pv 0) (pe_int) (fun _ _ => rfl)) pa_nil))))))), ?_⟩
    refine ⟨_, rfl, _, _, _, _, true, rfl, .ty "tuple", .base (.tup ha), kit_ty (by decide +kernel), _, rfl, iteT ?_⟩
    refine ⟨_, rfl, _, _, rfl, Or.inr (SqT.of ha), rfl, _, rfl, iteT ?_⟩
    refine ⟨_, rfl, _, _, _, _, rfl, rfl, SqT.of ha, rfl, i, rfl, _, rfl, iteT ?_⟩
    exact ⟨_, rfl, _, _, _, _, rfl, rfl, SqT.of ha, rfl, j, rfl, q⟩
def spIsPossible : Sp := fun vs H Q _ => ∃ (a : Addr) (p : Pr), vs = [.ref a] ∧ PrA H a p ∧ p.1 ≤ 7 ∧ p.2 ≤ 7 ∧ Q (.bl true) H
theorem df_is_possible_pair (T : Txt K mg) : Def P w K mg base 3 (He.ga K "is_possible_pair") ["value"] spIsPossible := by
  obtain ⟨fd, F⟩ := T.D_is_possible_pair
  refine mkDef F sc_is_possible_pair (fun _ _ _ _ _ _ us hl => match us, hl with | [_], _ => rfl) (fun vs H Q E h => ?len) (fun cdv A outer s H vs Q E hr h => ?body)
  case len =>
    obtain ⟨a, p, rfl, _⟩ := h
    rfl
  case body =>
    obtain ⟨a, ⟨i, j⟩, rfl, ha, h1, h2, q⟩ := h
    obtain ⟨t7, g7⟩ := T.i_GREATEST
    have ha : H a = some (.tup [.int i, .int j]) := ha
    have h1 : i ≤ 7 := h1
    have h2 : j ≤ 7 := h2
    refine ⟨_, pss_one (ps_ret (pe_and (pd_call (df_is_spot T) (hr) (by rfl) T.g_is_spot (pa_cons (pv 0) pa_nil)) (pe_and (pd_call (df_is_between T) (hr) (by rfl) T.g_is_between (pa_cons (pe_ix (r := rIxT K) ix_tup (pv 0) (pe_int) (fun _ _ => rfl)) (pa_cons (pe_int) (pa_cons (pe_glob (v := .int 7) (by rfl) g7 ⟨_, rfl⟩) pa_nil))))
      (pe_one (pd_call (df_is_between T) (hr) (by rfl) T.g_is_between (pa_cons (pe_ix (r := rIxT K) ix_tup (pv 0) (pe_int) (fun _ _ => rfl)) (pa_cons (pe_int) (pa_cons (pe_glob (v := .int 7) (by rfl) g7 ⟨_, rfl⟩) pa_nil)))))))), ?_⟩
    refine ⟨_, rfl, a, i, j, rfl, ha, _, rfl, iteT ?_⟩
    refine ⟨_, rfl, _, _, _, _, rfl, rfl, SqT.of ha, rfl, i, 0, 7, rfl, _, rfl, ?_⟩
    rw [decide_eq_true (show (0 : Int) ≤ i by omega), decide_eq_true (show (i : Int) ≤ 7 by omega)]
    refine iteT ⟨_, rfl, _, _, _, _, rfl, rfl, SqT.of ha, rfl, j, 0, 7, rfl, ?_⟩
    rw [decide_eq_true (show (0 : Int) ≤ j by omega), decide_eq_true (show (j : Int) ≤ 7 by omega)]
    exact q
/-! kinds -/
theorem kinds_flat (x : Str) : flatV (.str x) = true := rfl
theorem kinds_in {z : Str} (h : z ∈ kindsS) : inV (.str z) (kindsV.map (He.Dv.v K)) = true := by
  show inV (.str z) [.str "even", .str "stock", .str "wish", .str "any"] = true
  unfold kindsS at h
  simp only [List.mem_cons, List.not_mem_nil, or_false] at h
  rcases h with rfl | rfl | rfl | rfl <;> decide +kernel
def spIsKind : Sp := fun vs H Q _ => ∃ z : Str, vs = [.str z] ∧ z ∈ kindsS ∧ Q (.bl true) H
theorem df_is_kind (T : Txt K mg) : Def P w K mg base 1 (He.ga K "is_kind") ["value"] spIsKind := by
  obtain ⟨fd, F⟩ := T.D_is_kind
  refine mkDef F sc_is_kind (fun _ _ _ _ _ _ us hl => match us, hl with | [_], _ => rfl) (fun vs H Q E h => ?len) (fun cdv A outer s H vs Q E hr h => ?body)
  case len =>
    obtain ⟨z, rfl, _⟩ := h
    rfl
  case body =>
    obtain ⟨z, rfl, hz, q⟩ := h
    refine ⟨_, pss_one (ps_ret (pe_and (pe_callB call_isi (by rfl) T.f_isinstance (by decide +kernel) (pa_cons (pv 0) (pa_cons (pe_bltn (v := .ty "str") (by rfl) T.f_str (by decide +kernel) rfl) pa_nil))) (pe_one (pe_cmpR op_in_seq (pv 0) (pe_glob (v := .ref (He.ga K "KINDS")) (by rfl) T.g_KINDS rfl) (by rfl))))), ?_⟩
    refine ⟨_, rfl, _, _, _, _, true, rfl, .ty "str", .base (.str z), kit_ty (by decide +kernel), _, rfl, iteT ?_⟩
    refine ⟨_, rfl, _, _, rfl, Or.inr (He.tupB_ok T.kinds _), kinds_flat z, by rfl, ?_⟩
    rw [if_neg Bool.false_ne_true, kinds_in hz]
    exact q
def spCheckKind : Sp := fun vs H Q _ => ∃ z : Str, vs = [.str z] ∧ z ∈ kindsS ∧ Q .non H
theorem df_check_kind (T : Txt K mg) : Def P w K mg base 2 (He.ga K "check_kind") ["kind"] spCheckKind := by
  obtain ⟨fd, F⟩ := T.D_check_kind
  refine mkDef F sc_check_kind (fun _ _ _ _ _ _ us hl => match us, hl with | [_], _ => rfl) (fun vs H Q E h => ?len) (fun cdv A outer s H vs Q E hr h => ?body)
  case len =>
    obtain ⟨z, rfl, _⟩ := h
    rfl
  case body =>
    obtain ⟨z, rfl, hz, q⟩ := h
    refine ⟨_, pss_one (ps_if (pt_not (pt_val (pd_call (df_is_kind T) (hr) (by rfl) T.g_is_kind (pa_cons (pv 0) pa_nil)))) pss_never pss_nil), ?_⟩
    refine ⟨_, rfl, z, rfl, hz, _, rfl, iteF ?_⟩
    exact q
def spKc (f : Str → Bool) : Sp := fun vs H Q _ => ∃ z : Str, vs = [.str z] ∧ Q (.bl (f z)) H
theorem dec_s {a b : Str} : decide (V.str a = V.str b) = decide (a = b) := by
  by_cases e : a = b
  · subst e; simp
  · rw [decide_eq_false e, decide_eq_false fun h => e (V.str.inj h)]
theorem df_counts_columns (T : Txt K mg) : Def P w K mg base 1 (He.ga K "counts_columns") ["kind"] (spKc kcol) := by
  obtain ⟨fd, F⟩ := T.D_counts_columns
  refine mkDef F sc_counts_columns (fun _ _ _ _ _ _ us hl => match us, hl with | [_], _ => rfl) (fun vs H Q E h => ?len) (fun cdv A outer s H vs Q E hr h => ?body)
  case len =>
    obtain ⟨z, rfl, _⟩ := h
    rfl
  case body =>
    obtain ⟨z, rfl, q⟩ := h
    refine ⟨_, pss_one (ps_ret (pe_or (pe_cmpR op_eq (pv 0) pe_str (nomark _)) (pe_one (pe_cmpR op_eq (pv 0) pe_str (nomark _))))), ?_⟩
    unfold kcol at q
    refine ⟨_, rfl, rfl, _, rfl, ?_⟩
    rw [dec_s]
    by_cases e : z = "stock"
    · rw [decide_eq_true e] at q ⊢
      exact iteT q
    · rw [decide_eq_false e] at q ⊢
      refine iteF ⟨_, rfl, rfl, ?_⟩
      rw [dec_s]
      exact q
theorem df_counts_rows (T : Txt K mg) : Def P w K mg base 1 (He.ga K "counts_rows") ["kind"] (spKc krow) := by
  obtain ⟨fd, F⟩ := T.D_counts_rows
  refine mkDef F sc_counts_rows (fun _ _ _ _ _ _ us hl => match us, hl with | [_], _ => rfl) (fun vs H Q E h => ?len) (fun cdv A outer s H vs Q E hr h => ?body)
  case len =>
    obtain ⟨z, rfl, _⟩ := h
    rfl
  case body =>
    obtain ⟨z, rfl, q⟩ := h
    refine ⟨_, pss_one (ps_ret (pe_or (pe_cmpR op_eq (pv 0) pe_str (nomark _)) (pe_one (pe_cmpR op_eq (pv 0) pe_str (nomark _))))), ?_⟩
    unfold krow at q
    refine ⟨_, rfl, rfl, _, rfl, ?_⟩
    rw [dec_s]
    by_cases e : z = "wish"
    · rw [decide_eq_true e] at q ⊢
      exact iteT q
    · rw [decide_eq_false e] at q ⊢
      refine iteF ⟨_, rfl, rfl, ?_⟩
      rw [dec_s]
      exact q
end
end K55
set_option Elab.async false
set_option linter.all false
set_option maxRecDepth 100000
set_option maxHeartbeats 4000000
namespace K55
open PySem PySem.Spec PyProof.Rows L2
section
variable {P : Program} {w : World} {K : PySem.W.Frag} {mg : Str → Option Value} {base : Heap}
theorem upd_keep {H : Hp} {l D : Addr} {o x : HO} (h : H D = some x) (n : H l = none) : (upd H l o) D = some x := by
  rw [upd_ne (ne_of_none h n)]
  exact h
/-- an invariant over a walk of a block, whatever its turn asks (F) -/
theorem walk_by {J : It} {n : Nat} {G : Hp → Prop} {Y : Nat → Hp → V → Hp → Prop} (wk : Walk J n G Y) {F : (Hp → Prop) → V → Hp → Prop} {Qd : Hp → Prop} {H : Hp} (Pv : Nat → Hp → Prop) (h0 : Pv 0 H) (hG : ∀ i H, i ≤ n → Pv i H → G H)
    (hs : ∀ i x H H', i < n → Pv i H → Y i H x H' → F (Pv (i + 1)) x H') (hd : ∀ H, Pv n H → Qd H) :
    ∃ W : Nat → Nat → Hp → Prop, (∃ m, W 0 m H) ∧ ∀ i m H, W i m H → (J.stop i H ∧ Qd H) ∨ (J.go i H ∧ ∃ Nx : Hp → Prop, (∀ H', Nx H' → ∃ m', m' < m ∧ W (i + 1) m' H') ∧ ∀ x H', J.yld i H x H' → F Nx x H') := by
  refine ⟨fun i m H => m = n - i ∧ i ≤ n ∧ Pv i H, ⟨n, by simp, Nat.zero_le _, h0⟩, ?_⟩
  rintro i m H ⟨rfl, hi, p⟩
  by_cases hlt : i < n
  · exact .inr ⟨wk.goes i H hlt (hG i H hi p), Pv (i + 1), fun H' p' => ⟨n - (i + 1), by omega, rfl, hlt, p'⟩, fun x H' y => hs i x H H' hlt p (wk.yields i H x H' hlt (hG i H hi p) y)⟩
  · have e : i = n := by omega
    subst e
    exact .inl ⟨wk.stops H (hG i H hi p), hd H p⟩
/-- the list at D, made in front of H, has grown to ys -/
structure Grow {α : Type} (R : Hp → Addr → α → Prop) (H : Hp) (D : Addr) (ys : List α) (H2 : Hp) : Prop where
  at_ : ∃ as : List Addr, H2 D = some (.lst (as.map V.ref)) ∧ Paired (R (Wo H2 [D])) as ys
  same : Same H (Wo H2 [D])
theorem Grow.start {α : Type} {R : Hp → Addr → α → Prop} {H : Hp} {D : Addr} (h : H D = none) : Grow R H D [] (upd H D (.lst [])) :=
  ⟨⟨[], upd_same, .nil⟩, Wo_to (same_new h) fun d hd => by rw [List.mem_singleton.mp hd]; exact h⟩
theorem Grow.start' {α : Type} {R : Hp → Addr → α → Prop} {H H1 : Hp} {D : Addr} (s : Same H H1) (h : H1 D = none) : Grow R H D [] (upd H1 D (.lst [])) :=
  ⟨⟨[], upd_same, .nil⟩, Wo_to (same_upd s (s.free h)) fun d hd => by rw [List.mem_singleton.mp hd]; exact s.free h⟩
theorem Grow.mono {α : Type} {R : Hp → Addr → α → Prop} (m : Mono R) {H H2 H4 : Hp} {D : Addr} {ys : List α} (g : Grow R H D ys H2) (s : Same H2 H4) : Grow R H D ys H4 := by
  obtain ⟨⟨as, h1, h2⟩, h3⟩ := g
  exact ⟨⟨as, s _ _ h1, Paired.mapP h2 fun b y => m _ _ b y (Wo_of s)⟩, h3.trans (Wo_of s)⟩
theorem Grow.lst {α : Type} {R : Hp → Addr → α → Prop} {H H2 : Hp} {D : Addr} {ys : List α} (g : Grow R H D ys H2) : ∃ xs, H2 D = some (.lst xs) ∧ xs.length = ys.length := by
  obtain ⟨⟨as, h1, h2⟩, _⟩ := g
  exact ⟨_, h1, refs_len h2⟩
theorem Grow.sm {α : Type} {R : Hp → Addr → α → Prop} {H H2 : Hp} {D : Addr} {ys : List α} (g : Grow R H D ys H2) : Same H H2 := g.same.trans (Wo_same _ _)
theorem Grow.push {α : Type} {R : Hp → Addr → α → Prop} {H H2 : Hp} {D l : Addr} {ys : List α} {y : α} {acc : List V} (g : Grow R H D ys H2) (h : H2 D = some (.lst acc)) (r : R (Wo H2 [D]) l y) :
    Grow R H D (ys ++ [y]) (upd H2 D (.lst (acc ++ [.ref l]))) := by
  obtain ⟨⟨as, h1, h2⟩, h3⟩ := g
  rw [h1] at h
  have e : as.map V.ref = acc := by
    have := Option.some.inj h
    injection this
  have eW : Wo (upd H2 D (.lst (acc ++ [.ref l]))) [D] = Wo H2 [D] := Wo_upd (List.mem_singleton.mpr rfl)
  refine ⟨⟨as ++ [l], ?_, ?_⟩, ?_⟩
  · rw [upd_same, List.map_append, e]; rfl
  · rw [eW]; exact Paired.snoc h2 r
  · rw [eW]; exact h3
theorem Grow.end {α : Type} {R : Hp → Addr → α → Prop} (m : Mono R) {H H2 : Hp} {D : Addr} {ys : List α} (g : Grow R H D ys H2) : LL R H2 D ys := by
  obtain ⟨⟨as, h1, h2⟩, h3⟩ := g
  exact ⟨as, h1, Paired.mapP h2 fun b y => m _ _ b y (Wo_same _ _)⟩
theorem PrA.wo {H : Hp} {a D : Addr} {p : Pr} {xs : List V} (h : PrA H a p) (hD : H D = some (.lst xs)) : PrA (Wo H [D]) a p := by
  have ne : a ∉ [D] := fun z => by
    rw [← List.mem_singleton.mp z, show H a = _ from h] at hD
    cases hD
  show Wo H [D] a = _
  rw [Wo_out ne]
  exact h
theorem PrL.wo {H : Hp} {a D : Addr} {ps : List Pr} {xs : List V} (h : PrL H a ps) (hD : H D = some (.lst xs)) (ne : a ≠ D) : PrL (Wo H [D]) a ps := by
  obtain ⟨as, h1, h2⟩ := h
  exact ⟨as, by rw [Wo_out (fun z => ne (List.mem_singleton.mp z))]; exact h1, Paired.mapP h2 fun b y z => PrA.wo z hD⟩
/-- a new list, and what stood stands -/
structure NewL {α : Type} (R : Hp → Addr → α → Prop) (H : Hp) (p : Addr) (ys : List α) (H' : Hp) : Prop where
  same : Same H H'
  new : H p = none
  at_ : LL R H' p ys
theorem take_snoc {α : Type} {l : List α} {i : Nat} {x : α} (h : l[i]? = some x) : l.take (i + 1) = l.take i ++ [x] := by
  rw [List.take_succ, h]; rfl
theorem cell_of {g : Grid} {i j : Nat} {r : Row} {x : Option Int} (h1 : g[i]? = some r) (h2 : r[j]? = some x) : cell g i j = x := by
  unfold cell
  have e : g.getD i [] = r := by rw [List.getD_eq_getElem?_getD, h1]; rfl
  rw [e, List.getD_eq_getElem?_getD, h2]
  rfl
/-- the row of a grid, the cell of a row -/
theorem GA.row {H : Hp} {a : Addr} {g : Grid} (h : GA H a g) {i : Nat} (hi : i < g.length) : ∃ (as : List Addr) (b : Addr) (r : Row), H a = some (.lst (as.map V.ref)) ∧ (as.map V.ref)[i]? = some (.ref b) ∧ RA H b r ∧ g[i]? = some r ∧ r = g.getD i [] := by
  obtain ⟨as, b, h1, h2, h3⟩ := LL.at h (List.getElem?_eq_getElem hi)
  refine ⟨as, b, g[i], h1, h2, h3, List.getElem?_eq_getElem hi, ?_⟩
  rw [getD_in _ hi]
theorem row_at {r : Row} {j : Nat} (hj : j < r.length) : (r.map oV)[j]? = some (oV (r.getD j none)) := by
  rw [List.getElem?_map, List.getElem?_eq_getElem hj, getD_in _ hj]; rfl
theorem yesT {σ : L2.St} {H : Hp} {A B : Hp → Prop} (h : A H) : tYes σ H fun b H3 => if b = true then A H3 else B H3 := by
  show if true = true then A H else B H
  rw [if_pos rfl]
  exact h
end
end K55
set_option Elab.async false
set_option linter.all false
set_option maxRecDepth 100000
set_option maxHeartbeats 4000000
namespace K55
open PySem PySem.Spec PyProof.Rows L2
section
variable {P : Program} {w : World} {K : PySem.W.Frag} {mg : Str → Option Value} {base : Heap}
def spIsEntry : Sp := fun vs H Q _ => ∃ o : Option Int, vs = [oV o] ∧ Q (.bl true) H
theorem df_is_entry (T : Txt K mg) : Def P w K mg base 2 (He.ga K "is_entry") ["value"] spIsEntry := by
  obtain ⟨fd, F⟩ := T.D_is_entry
  refine mkDef F sc_is_entry (fun _ _ _ _ _ _ us hl => match us, hl with | [_], _ => rfl) (fun vs H Q E h => ?len) (fun cdv A outer s H vs Q E hr h => ?body)
  case len =>
    obtain ⟨o, rfl, _⟩ := h
    rfl
  case body =>
    obtain ⟨o, rfl, q⟩ := h
    refine ⟨_, pss_one (ps_ret (pe_or (pe_cmpR op_isN (pv 0) pe_non (nomark _)) (pe_one (pd_call (df_is_integer T) (hr) (by rfl) T.g_is_integer (pa_cons (pv 0) pa_nil))))), ?_⟩
    cases o with
    | none => exact ⟨_, rfl, rfl, _, rfl, iteT q⟩
    | some z => exact ⟨_, rfl, rfl, _, rfl, iteF ⟨_, rfl, z, rfl, q⟩⟩
def spIsRow : Sp := fun vs H Q _ => ∃ (a : Addr) (r : Row) (n : Int), vs = [.ref a, .int n] ∧ RA H a r ∧ (r.length : Int) = n ∧ Q (.bl true) H
theorem len_oV (r : Row) : (r.map oV).length = r.length := List.length_map ..
theorem df_is_row (T : Txt K mg) : Def P w K mg base 3 (He.ga K "is_row") ["value", "width"] spIsRow := by
  obtain ⟨fd, F⟩ := T.D_is_row
  refine mkDef F sc_is_row (fun _ _ _ _ _ _ us hl => match us, hl with | [_, _], _ => rfl) (fun vs H Q E h => ?len) (fun cdv A outer s H vs Q E hr h => ?body)
  case len =>
    obtain ⟨a, r, n, rfl, _⟩ := h
    rfl
  case body =>
    obtain ⟨a, r, n, rfl, ha, hn, q⟩ := h
    refine ⟨_, pss_cons (ps_if (PW.pt (pw_or (pt_not (pt_val (pe_callB call_isi (by rfl) T.f_isinstance (by decide +kernel) (pa_cons (pv 0) (pa_cons (pe_bltn (v := .ty "list") (by rfl) T.f_list (by decide +kernel) rfl) pa_nil))))) (pw_or1 (pt_cmpR op_ne (pe_callB (r := rLenOf K) (id := "len") call_len_seq (by rfl) T.f_len (by decide +kernel) (pa_cons (pv 0) pa_nil)) (pv 1) (nomark _))))) pss_never pss_nil)
      (pss_cons (ps_for PassesOwn.never rfl (pi_list (pv 0)) (pg_name (i := 2) sc_is_row.nd rfl (Or.inl rfl)) (pss_one (ps_if (pt_not (pt_val (pd_call (df_is_entry T) (hr) (by rfl) T.g_is_entry (pa_cons (pv 2) pa_nil)))) pss_never pss_nil)))
      (pss_one (ps_ret pe_bl))), ?_⟩
    refine ⟨_, rfl, _, _, _, _, true, rfl, .ty "list", .base (.lst ha), kit_ty (by decide +kernel), _, rfl, iteF ?_⟩
    refine ⟨_, rfl, _, _, rfl, Or.inl (SqL.of ha), _, rfl, rfl, _, rfl, ?_⟩
    rw [len_oV, hn]
    refine iteNS rfl ?_
    refine ⟨_, rfl, a, rfl, ⟨_, SqL.of ha⟩, for_it (walk_list (K := K) (a := a) (xs := r.map oV)) (fun i σ H2 => H2 = H ∧ ∃ v, σ = [some (.ref a), some (.int n), v]) ⟨rfl, none, rfl⟩ (fun i σ H2 _ hp => by rw [hp.1]; exact SqL.of ha) ?_ ?_⟩
    · rintro i x σ H2 H3 hi ⟨rfl, v, rfl⟩ ⟨rfl, hx⟩
      obtain ⟨o, ho, rfl⟩ : ∃ o, r[i]? = some o ∧ x = oV o := by
        rw [List.getElem?_map] at hx
        cases e : r[i]? with
        | none => rw [e] at hx; cases hx
        | some o => rw [e] at hx; exact ⟨o, rfl, (Option.some.inj hx).symm⟩
      refine ⟨_, rfl, o, rfl, _, rfl, iteF ?_⟩
      exact ⟨rfl, _, rfl⟩
    · rintro σ H2 ⟨rfl, v, rfl⟩
      exact q
def spWidthOf : Sp := fun vs H Q _ => ∃ (a : Addr) (g : Grid), vs = [.ref a] ∧ GA H a g ∧ 1 ≤ g.length ∧ wid g ≤ 8 ∧ Q (.int (wid g : Nat)) H
theorem df_width_of (T : Txt K mg) : Def P w K mg base 1 (He.ga K "width_of") ["rows"] spWidthOf := by
  obtain ⟨fd, F⟩ := T.D_width_of
  refine mkDef F sc_width_of (fun _ _ _ _ _ _ us hl => match us, hl with | [_], _ => rfl) (fun vs H Q E h => ?len) (fun cdv A outer s H vs Q E hr h => ?body)
  case len =>
    obtain ⟨a, g, rfl, _⟩ := h
    rfl
  case body =>
    obtain ⟨a, g, rfl, ha, h1, h2, q⟩ := h
    obtain ⟨t8, g8⟩ := T.i_MOST
    obtain ⟨as, b, r, e1, e2, e3, e4, e5⟩ := ha.row (i := 0) (by omega)
    have ew : r.length = wid g := by rw [e5]; rfl
    refine ⟨_, pss_cons (ps_if (PW.pt (pw_and (pt_val (pe_callB call_isi (by rfl) T.f_isinstance (by decide +kernel) (pa_cons (pe_ix (r := rIxL K) ix_list (pv 0) (pe_int) (fun _ _ => rfl)) (pa_cons (pe_bltn (v := .ty "list") (by rfl) T.f_list (by decide +kernel) rfl) pa_nil)))) (pw_and1 (pt_cmpR op_le (pe_callB (r := rLenOf K) (id := "len") call_len_seq (by rfl) T.f_len (by decide +kernel) (pa_cons (pe_ix (r := rIxL K) ix_list (pv 0) (pe_int) (fun _ _ => rfl)) pa_nil)) (pe_glob (v := .int 8) (by rfl) g8 ⟨_, rfl⟩) (nomark _)))))
      (pss_one (ps_ret (pe_callB (r := rLenOf K) (id := "len") call_len_seq (by rfl) T.f_len (by decide +kernel) (pa_cons (pe_ix (r := rIxL K) ix_list (pv 0) (pe_int) (fun _ _ => rfl)) pa_nil)))) pss_nil) (pss_one (ps_ret pe_int)), ?_⟩
    have ix0 : atI (as.map V.ref) (0 : Int) = some (.ref b) := atI_nat (j := 0) e2
    refine ⟨_, rfl, _, _, _, _, rfl, rfl, SqL.of e1, ix0, _, _, _, _, true, rfl, .ty "list", .base (.lst e3), kit_ty (by decide +kernel), _, rfl, iteT ?_⟩
    refine ⟨_, rfl, _, _, _, _, rfl, rfl, SqL.of e1, ix0, _, _, rfl, Or.inl (SqL.of e3), _, _, rfl, rfl, _, rfl, ?_⟩
    rw [len_oV, ew, decide_eq_true (show ((wid g : Nat) : Int) ≤ 8 by omega)]
    refine iteT ?_
    refine ⟨_, rfl, _, _, _, _, rfl, rfl, SqL.of e1, ix0, _, _, rfl, Or.inl (SqL.of e3), ?_⟩
    rw [len_oV, ew]
    exact q
/-- a Table -/
def TabAt (K : PySem.W.Frag) (H : Hp) (t : Addr) (g : Grid) : Prop := ∃ dx ga, H t = some (.ins (He.ga K "Table") dx [("grid", .ref ga)]) ∧ GA H ga g
theorem TabAt.mono {H H' : Hp} {t : Addr} {g : Grid} (h : TabAt K H t g) (s : Same H H') : TabAt K H' t g := by
  obtain ⟨dx, ga, h1, h2⟩ := h
  exact ⟨dx, ga, s _ _ h1, h2.mono s⟩
theorem look_grid (v : V) : ([("grid", v)] : List (Str × V)).lookup ("grid" : Str) = some v := by
  have e : (("grid" : Str) == "grid") = true := by decide +kernel
  simp only [List.lookup, e]
theorem look_no_grid {m : Str} (v : V) (h : (m == ("grid" : Str)) = false) : ([("grid", v)] : List (Str × V)).lookup m = none := by
  simp only [List.lookup, h]
/-- a new list of copies of the rows -/
def spNewGA (sp : Addr → Hp → Grid → Prop) : Sp := fun vs H Q _ => ∃ (a : Addr) (g : Grid), vs = [.ref a] ∧ sp a H g ∧ ∀ (p : Addr) (H' : Hp), NewL RA H p g H' → Q (.ref p) H'
/-- [list(row) for row in xs], what it asks: the reading's end -/
theorem copy_rows {σ : L2.St} {H H1 : Hp} {a : Addr} {g : Grid} {slot : Nat} {D : Addr} {Qd : Hp → Prop} (s : Same H H1) (ha : GA H a g) (hD : H1 D = none) (hs : slot < σ.length) (hg : g.length ≤ 8) (hd : ∀ H2, NewL RA H D g H2 → Qd H2) :
    ∃ W : Nat → Nat → Hp → Prop, (∃ m, W 0 m (upd H1 D (.lst []))) ∧ ∀ i m H, W i m H →
      ((Itl K a).stop i H ∧ Qd H) ∨ ((Itl K a).go i H ∧ ∃ Nx : Hp → Prop, (∀ H', Nx H' → ∃ m', m' < m ∧ W (i + 1) m' H') ∧ ∀ x H', (Itl K a).yld i H x H' → gName slot x (wipe σ [slot]) H' fun σ2 H2 => wipe σ2 [slot] = wipe σ [slot] ∧ tYes σ2 H2 fun b H3 =>
        if b = true then (tCB (rListOf K) (tCons (tVar slot) tNil)) σ2 H3 fun y H4 => ∃ acc, H4 D = some (.lst acc) ∧ acc.length < sizeLine ∧ Nx (upd H4 D (.lst (acc ++ [y]))) else Nx H3) := by
  obtain ⟨as, e1, e2⟩ := ha
  have hz : as.length = g.length := Paired.length e2
  refine walk_by (walk_list (K := K) (a := a) (xs := as.map V.ref)) (fun i H2 => Grow RA H D (g.take i) H2) (Grow.start' s hD) (fun i H2 _ p => SqL.of (p.sm _ _ e1)) ?_ ?_
  · rintro i x H2 H3 hi p ⟨rfl, hx⟩
    obtain ⟨b, r, rfl, er, rb⟩ := refs_at e2 hx
    have hl : slot < (wipe σ [slot]).length := by rw [wipe_length]; exact hs
    have rb' : RA H3 b r := mono_RA _ _ _ _ p.sm rb
    refine ⟨?_, yesT ?_⟩
    · show (((σ.set slot none).set slot _).set slot none) = σ.set slot none
      simp
    · refine ⟨.ref b, by rw [List.getElem?_set_self hl], b, r.map oV, rfl, Or.inl (SqL.of rb'), fun l hl2 => ?_⟩
      obtain ⟨acc, h1, h2⟩ := p.lst
      have hlD : l ≠ D := fun z => by rw [z, h1] at hl2; cases hl2
      refine ⟨acc, by rw [upd_ne hlD.symm]; exact h1, ?_, ?_⟩
      · rw [h2, List.length_take]
        exact small1000 (by omega)
      · rw [take_snoc er]
        have p2 := p.mono mono_RA (same_new (o := .lst (r.map oV)) hl2)
        refine p2.push (by rw [upd_ne hlD.symm]; exact h1) ?_
        show Wo _ [D] l = _
        rw [Wo_out (fun z => hlD (List.mem_singleton.mp z)), upd_same]
  · intro H2 p
    rw [List.length_map, hz, List.take_length] at p
    exact hd H2 ⟨p.sm, s.free hD, p.end mono_RA⟩

def spTInit (K : PySem.W.Frag) : Sp := fun vs H Q _ => ∃ (x dx a : Addr) (g : Grid), vs = [.ref x, .ref a] ∧ H x = some (.ins (He.ga K "Table") dx []) ∧ GA H a g ∧ Rect g ∧
  ∀ H' : Hp, (∀ b o, H b = some o → b ≠ x → H' b = some o) → TabAt K H' x g → Q .non H'
theorem df_T_init (T : Txt K mg) : Def P w K mg base 4 (He.ma K (He.ga K "Table") "__init__") ["self", "rows"] (spTInit K) := by
  obtain ⟨fd, F⟩ := T.D_T_init
  refine mkDef F sc_T_init (fun _ _ _ _ _ _ us hl => match us, hl with | [_, _], _ => rfl) (fun vs H Q E h => ?len) (fun cdv A outer s H vs Q E hr h => ?body)
  case len =>
    obtain ⟨x, dx, a, g, rfl, _⟩ := h
    rfl
  case body =>
    obtain ⟨x, dx, a, g, rfl, hx, ha, R, k⟩ := h
    obtain ⟨t8, g8⟩ := T.i_MOST
    obtain ⟨as, e1, e2⟩ := id ha
    obtain ⟨r1, r2, r3, r4, r5⟩ := id R
    have hl : (as.map V.ref).length = g.length := refs_len e2
    refine ⟨_, pss_cons (ps_if (PW.pt (pw_or (pt_not (pt_val (pe_callB call_isi (by rfl) T.f_isinstance (by decide +kernel) (pa_cons (pv 1) (pa_cons (pe_bltn (v := .ty "list") (by rfl) T.f_list (by decide +kernel) rfl) pa_nil))))) (pw_or (pt_cmpR op_eq (pe_callB (r := rLenOf K) (id := "len") call_len_seq (by rfl) T.f_len (by decide +kernel) (pa_cons (pv 1) pa_nil)) pe_int (nomark _)) (pw_or1 (pt_cmpR op_gt (pe_callB (r := rLenOf K) (id := "len") call_len_seq (by rfl) T.f_len (by decide +kernel) (pa_cons (pv 1) pa_nil)) (pe_glob (v := .int 8) (by rfl) g8 ⟨_, rfl⟩) (nomark _)))))) pss_never pss_nil)
      (pss_cons (ps_set (i := 2) sc_T_init.nd rfl (Or.inl rfl) (pd_call (df_width_of T) (hr.mono (by decide)) (by rfl) T.g_width_of (pa_cons (pv 1) pa_nil)))
      (pss_cons (ps_for PassesOwn.never rfl (pi_enum (by rfl) T.f_enumerate (pa_cons (pv 1) pa_nil)) (pg_tup (by rfl) (pgs_cons (pg_name (i := 3) sc_T_init.nd rfl (Or.inl rfl)) (pgs_cons (pg_name (i := 4) sc_T_init.nd rfl (Or.inl rfl)) pgs_nil))) (pss_one (ps_if (PW.pt (pw_or (pt_cmpR op_eq (pv 2) pe_int (nomark _)) (pw_or1 (pt_not (pt_val (pd_call (df_is_row T) (hr) (by rfl) T.g_is_row (pa_cons (pv 4) (pa_cons (pv 2) pa_nil))))))) ) pss_never pss_nil)))
      (pss_one (ps_fld (pv 0) (pe_lc (own := [("row", 4)]) (g := gName 4) (tt := tYes) rfl sc_T_init.nd (pi_list (pv 1)) (blkOk_by (N := ["self", "rows", "width", "at", "row"]) (sc := defScope s_T_init) (by decide +kernel)) (fun _ _ _ _ _ => pg_name (i := 4) sc_T_init.nd rfl (Or.inl rfl)) (fun _ _ _ _ _ => pts_nil) (fun _ _ _ _ _ => pe_callTy (r := rListOf K) (T := "list") call_list_of (by rfl) T.f_list (by decide +kernel) (pa_cons (pv 4) pa_nil))) rfl)))), ?_⟩
    refine ⟨_, rfl, _, _, _, _, true, rfl, .ty "list", .base (.lst e1), kit_ty (by decide +kernel), _, rfl, iteF ?_⟩
    refine ⟨_, rfl, _, _, rfl, Or.inl (SqL.of e1), rfl, _, rfl, ?_⟩
    rw [hl, dec_int, show (((g.length : Nat) : Int) == 0) = false from beq_eq_false_iff_ne.mpr (by omega)]
    refine iteF ⟨_, rfl, _, _, rfl, Or.inl (SqL.of e1), _, _, rfl, rfl, _, rfl, ?_⟩
    rw [hl, decide_eq_false (show ¬ (8 : Int) < (g.length : Nat) by omega)]
    refine iteF ?_
    refine ⟨_, rfl, a, g, rfl, ha, r1, by omega, ?_⟩
    refine ⟨_, rfl, a, _, rfl, SqL.of e1, for_it (walk_enum (K := K) (a := a) (xs := as.map V.ref)) (fun i σ H2 => Same H H2 ∧ ∃ u v, σ = [some (.ref x), some (.ref a), some (.int (wid g : Nat)), u, v]) ⟨Same.refl H, none, none, rfl⟩ (fun i σ H2 _ hp => SqL.of (hp.1 _ _ e1)) ?_ ?_⟩
    · rintro i v σ H2 H3 hi ⟨s, u, v', rfl⟩ ⟨p, y1, y2, rfl, np, rfl, hy1, hy2⟩
      cases hy1
      obtain ⟨b, r, rfl, er, rb⟩ := refs_at e2 hy2
      have s3 : Same H (upd H2 p (.tup [.int (i : Nat), .ref b])) := s.trans (same_new np)
      refine ⟨p, _, rfl, SqT.of upd_same, rfl, _, _, rfl, _, _, rfl, rfl, ?_⟩
      refine ⟨_, rfl, rfl, _, rfl, ?_⟩
      rw [dec_int, show (((wid g : Nat) : Int) == 0) = false from beq_eq_false_iff_ne.mpr (by omega)]
      refine iteF ⟨_, rfl, _, rfl, b, r, _, rfl, mono_RA _ _ _ _ s3 rb, by rw [r5 r (List.mem_of_getElem? er)], _, rfl, iteF ?_⟩
      exact ⟨s3, _, _, rfl⟩
    · rintro σ H2 ⟨s, u, v, rfl⟩
      refine ⟨_, rfl, a, rfl, ⟨_, SqL.of (s _ _ e1)⟩, fun D hD => copy_rows s ha hD (show 4 < 5 by decide) (by omega) fun H3 n => ?_⟩
      refine ⟨_, rfl, x, _, dx, [], rfl, n.same _ _ hx, T.c_Table, T.n_grid, by decide, ?_⟩
      refine k _ (fun b o e ne => by rw [upd_ne ne]; exact n.same b o e) ⟨dx, D, upd_same, ?_⟩
      have nx : D ≠ x := fun z => by have := n.new; rw [z, hx] at this; cases this
      obtain ⟨bs, f1, f2⟩ := n.at_
      refine ⟨bs, by rw [upd_ne nx]; exact f1, Paired.mapP f2 fun b r z => ?_⟩
      have z : H3 b = some (.lst (r.map oV)) := z
      show upd _ _ _ b = _
      rw [upd_ne (ne_of z (n.same _ _ hx) (fun q => nomatch q))]
      exact z
def spRows (K : PySem.W.Frag) : Sp := fun vs H Q _ => ∃ (t : Addr) (g : Grid), vs = [.ref t] ∧ TabAt K H t g ∧ g.length ≤ 8 ∧ ∀ (p : Addr) (H' : Hp), NewL RA H p g H' → Q (.ref p) H'
theorem df_T_rows (T : Txt K mg) : Def P w K mg base 1 (He.ma K (He.ga K "Table") "rows") ["self"] (spRows K) := by
  obtain ⟨fd, F⟩ := T.D_T_rows
  refine mkDef F sc_T_rows (fun _ _ _ _ _ _ us hl => match us, hl with | [_], _ => rfl) (fun vs H Q E h => ?len) (fun cdv A outer s H vs Q E hr h => ?body)
  case len =>
    obtain ⟨t, g, rfl, _⟩ := h
    rfl
  case body =>
    obtain ⟨t, g, rfl, ⟨dx, ga, ht, hg⟩, hz, k⟩ := h
    refine ⟨_, pss_one (ps_ret (pe_lc (own := [("row", 1)]) (g := gName 1) (tt := tYes) rfl sc_T_rows.nd (pi_list (pe_fld (pv 0) rfl)) (blkOk_by (N := ["self", "row"]) (sc := defScope s_T_rows) (by decide +kernel)) (fun _ _ _ _ _ => pg_name (i := 1) sc_T_rows.nd rfl (Or.inl rfl)) (fun _ _ _ _ _ => pts_nil) (fun _ _ _ _ _ => pe_callTy (r := rListOf K) (T := "list") call_list_of (by rfl) T.f_list (by decide +kernel) (pa_cons (pv 1) pa_nil)))), ?_⟩
    obtain ⟨as, e1, e2⟩ := id hg
    refine ⟨_, rfl, t, _, dx, _, _, rfl, ht, T.c_Table, T.n_grid, look_grid _, ga, rfl, ⟨_, SqL.of e1⟩, fun D hD => copy_rows (Same.refl H) hg hD (show 1 < 2 by decide) hz fun H3 n => ?_⟩
    exact k D H3 n
end
end K55
set_option Elab.async false
set_option linter.all false
set_option maxRecDepth 100000
set_option maxHeartbeats 4000000
namespace K55
open PySem PySem.Spec PyProof.Rows L2
section
variable {P : Program} {w : World} {K : PySem.W.Frag} {mg : Str → Option Value} {base : Heap}
/-! the pairs of a grid, row by row, cell by cell -/
def rowTo (i : Nat) (row : Row) (n : Nat) : List Pr := ((List.range n).filter fun j => (row.getD j none).isSome).map fun j => (i, j)
def spotsTo (g : Grid) (m : Nat) : List Pr := (List.range m).flatMap fun i => rowSpots i (g.getD i [])
theorem rowTo_all (i : Nat) (row : Row) : rowTo i row row.length = rowSpots i row := rfl
theorem spotsTo_all (g : Grid) : spotsTo g g.length = spots g := rfl
theorem rowTo_succ (i : Nat) (row : Row) (n : Nat) : rowTo i row (n + 1) = rowTo i row n ++ (if (row.getD n none).isSome = true then [(i, n)] else []) := by
  unfold rowTo
  rw [List.range_succ, List.filter_append, List.map_append]
  congr 1
  by_cases h : (row.getD n none).isSome = true
  · rw [if_pos h, List.filter_cons, if_pos h]; rfl
  · rw [if_neg h, List.filter_cons, if_neg h]; rfl
theorem spotsTo_succ (g : Grid) (m : Nat) : spotsTo g (m + 1) = spotsTo g m ++ rowSpots m (g.getD m []) := by
  unfold spotsTo
  rw [List.range_succ, List.flatMap_append]
  simp
theorem rowTo_len (i : Nat) (row : Row) (n : Nat) : (rowTo i row n).length ≤ n := by
  unfold rowTo
  rw [List.length_map]
  exact Nat.le_trans (List.length_filter_le _ _) (by rw [List.length_range]; exact Nat.le_refl _)
theorem spotsTo_len {g : Grid} {k : Nat} (h : ∀ row ∈ g, row.length ≤ k) : ∀ m, m ≤ g.length → (spotsTo g m).length ≤ m * k
  | 0, _ => Nat.zero_le _
  | m + 1, hm => by
    rw [spotsTo_succ, List.length_append]
    have h1 := spotsTo_len h m (by omega)
    have h2 : (rowSpots m (g.getD m [])).length ≤ k := by
      rw [← rowTo_all]
      refine Nat.le_trans (rowTo_len _ _ _) ?_
      rw [getD_in _ (show m < g.length by omega)]
      exact h _ (List.getElem_mem _)
    have h3 : (m + 1) * k = m * k + k := Nat.succ_mul m k
    omega
theorem spots_len {g : Grid} (R : Rect g) : (spots g).length ≤ 36 := by
  obtain ⟨h1, h2, h3, h4, h5⟩ := R
  have := spotsTo_len (k := 6) (g := g) (fun row hr => by rw [h5 row hr]; exact h4) g.length (Nat.le_refl _)
  rw [spotsTo_all] at this
  omega
theorem oV_non {o : Option Int} : decide (oV o = .non) = !o.isSome := by
  cases o <;> simp [oV]
/-- one more cell of the row that is being read -/
theorem grow_row {H H2 : Hp} {D l i n : Nat} {row : Row} {pre : List Pr} {acc : List V} (g : Grow PrA H D (pre ++ rowTo i row n) H2) (h : H2 D = some (.lst acc)) (hs : (row.getD n none).isSome = true) (hl : PrA H2 l (i, n)) :
    Grow PrA H D (pre ++ rowTo i row (n + 1)) (upd H2 D (.lst (acc ++ [.ref l]))) := by
  rw [rowTo_succ, if_pos hs, ← List.append_assoc]
  exact g.push h (hl.wo h)
theorem grow_row' {H H2 : Hp} {D i n : Nat} {row : Row} {pre : List Pr} (g : Grow PrA H D (pre ++ rowTo i row n) H2) (hs : ¬ (row.getD n none).isSome = true) : Grow PrA H D (pre ++ rowTo i row (n + 1)) H2 := by
  rw [rowTo_succ, if_neg hs, List.append_nil]
  exact g
end
end K55
set_option Elab.async false
set_option linter.all false
set_option maxRecDepth 100000
set_option maxHeartbeats 4000000
namespace K55
open PySem PySem.Spec PyProof.Rows L2
section
variable {P : Program} {w : World} {K : PySem.W.Frag} {mg : Str → Option Value} {base : Heap}
def spTPairs (K : PySem.W.Frag) : Sp := fun vs H Q _ => ∃ (t : Addr) (g : Grid), vs = [.ref t] ∧ TabAt K H t g ∧ Rect g ∧ ∀ (p : Addr) (H' : Hp), NewL PrA H p (spots g) H' → Q (.ref p) H'
theorem df_T_pairs (T : Txt K mg) : Def P w K mg base 1 (He.ma K (He.ga K "Table") "pairs") ["self"] (spTPairs K) := by
  obtain ⟨fd, F⟩ := T.D_T_pairs
  refine mkDef F sc_T_pairs (fun _ _ _ _ _ _ us hl => match us, hl with | [_], _ => rfl) (fun vs H Q E h => ?len) (fun cdv A outer s H vs Q E hr h => ?body)
  case len =>
    obtain ⟨t, g, rfl, _⟩ := h
    rfl
  case body =>
    obtain ⟨t, g, rfl, ⟨dx, ga, ht, hg⟩, R, k⟩ := h
    refine ⟨_, pss_one (ps_ret (pe_lc2 (own := [("i", 1), ("row", 2), ("j", 3), ("price", 4)]) (vs1 := [3, 4]) (g := gTup K 2 (gCons (gName 1) (gCons (gName 2) gNil))) (g1 := gTup K 2 (gCons (gName 3) (gCons (gName 4) gNil))) (wi1 := iEnum K (tCons (tVar 2) tNil)) (tt := tYes)
      rfl sc_T_pairs.nd (pi_enum (by rfl) T.f_enumerate (pa_cons (pe_fld (pv 0) rfl) pa_nil)) (blkOk_by (N := ["self", "i", "row", "j", "price"]) (sc := defScope s_T_pairs) (by decide +kernel)) (by decide)
      (fun _ _ _ _ _ => pg_tup (by rfl) (pgs_cons (pg_name (i := 1) sc_T_pairs.nd rfl (Or.inl rfl)) (pgs_cons (pg_name (i := 2) sc_T_pairs.nd rfl (Or.inl rfl)) pgs_nil))) (fun _ _ _ _ _ => pts_nil) (fun _ _ _ _ _ => pi_enum (by rfl) T.f_enumerate (pa_cons (pv 2) pa_nil)) (fun _ _ _ _ _ => pg_tup (by rfl) (pgs_cons (pg_name (i := 3) sc_T_pairs.nd rfl (Or.inl rfl)) (pgs_cons (pg_name (i := 4) sc_T_pairs.nd rfl (Or.inl rfl)) pgs_nil)))
      (fun _ _ _ _ _ => pts_one (pt_cmpR op_notN (pv 4) pe_non (nomark _))) (fun _ _ _ _ _ => pe_tup (pa_cons (pv 1) (pa_cons (pv 3) pa_nil))))), ?_⟩
    obtain ⟨as, e1, e2⟩ := id hg
    have hl : (as.map V.ref).length = g.length := refs_len e2
    obtain ⟨r1, r2, r3, r4, r5⟩ := id R
    refine ⟨_, rfl, t, _, dx, _, _, rfl, ht, T.c_Table, T.n_grid, look_grid _, ga, _, rfl, SqL.of e1, fun D hD => ?_⟩
    refine walk_by (walk_enum (K := K) (a := ga) (xs := as.map V.ref)) (fun i H2 => Grow PrA H D (spotsTo g i) H2) (Grow.start hD) (fun i H2 _ p => SqL.of (p.sm _ _ e1)) ?_ ?_
    · rintro i v H2 H3 hi p ⟨q, y1, y2, rfl, np, rfl, hy1, hy2⟩
      cases hy1
      obtain ⟨b, r, rfl, er, rb⟩ := refs_at e2 hy2
      have hrl : r.length = wid g := r5 r (List.mem_of_getElem? er)
      have p3 := p.mono mono_PrA (same_new (o := .tup [.int (i : Nat), .ref b]) np)
      refine ⟨q, _, rfl, SqT.of upd_same, rfl, _, _, rfl, _, _, rfl, rfl, rfl, yesT ?_⟩
      have rb3 : RA (upd H2 q (.tup [.int (i : Nat), .ref b])) b r := mono_RA _ _ _ _ (p.sm.trans (same_new np)) rb
      refine ⟨_, rfl, b, _, rfl, SqL.of rb3, ?_⟩
      refine walk_by (walk_enum (K := K) (a := b) (xs := r.map oV)) (fun j H4 => Grow PrA H D (spotsTo g i ++ rowTo i r j) H4) ?_ (fun j H4 _ p4 => SqL.of (mono_RA _ _ _ _ p4.sm rb)) ?_ ?_
      · show Grow PrA H D (spotsTo g i ++ []) _
        rw [List.append_nil]
        exact p3
      · rintro j v H4 H5 hj p4 ⟨q5, z1, z2, rfl, np5, rfl, hz1, hz2⟩
        cases hz1
        have hjr : j < r.length := by rw [← len_oV r]; exact hj
        have hz2 : (r.map oV)[j]? = some z2 := hz2
        rw [row_at hjr] at hz2
        cases hz2
        have p5 := p4.mono mono_PrA (same_new (o := .tup [.int (j : Nat), oV (r.getD j none)]) np5)
        refine ⟨q5, _, rfl, SqT.of upd_same, rfl, _, _, rfl, _, _, rfl, rfl, rfl, ?_⟩
        refine ⟨_, rfl, rfl, _, rfl, ?_⟩
        rw [oV_non, Bool.not_not]
        by_cases hs : (r.getD j none).isSome = true
        · rw [hs]
          refine iteT ?_
          refine ⟨_, rfl, _, rfl, (by show 2 ≤ sizeLine; decide), fun l hl5 => ?_⟩
          obtain ⟨acc, f1, f2⟩ := p5.lst
          have p6 := p5.mono mono_PrA (same_new (o := .tup [.int (i : Nat), .int (j : Nat)]) hl5)
          refine ⟨acc, upd_keep f1 hl5, ?_, grow_row p6 (upd_keep f1 hl5) hs upd_same⟩
          rw [f2, List.length_append]
          have h1 := spotsTo_len (k := 6) (g := g) (fun row hr => by rw [r5 row hr]; exact r4) i (by omega)
          have h2 := rowTo_len i r j
          exact small1000 (by omega)
        · rw [Bool.not_eq_true] at hs
          rw [hs]
          exact iteF (grow_row' p5 (by rw [hs]; decide))
      · intro H4 p4
        rw [len_oV, rowTo_all, show r = g.getD i [] by rw [List.getD_eq_getElem?_getD, er]; rfl, ← spotsTo_succ] at p4
        exact p4
    · intro H2 p
      rw [hl, spotsTo_all] at p
      exact k D H2 ⟨p.sm, hD, p.end mono_PrA⟩
def spTLen (K : PySem.W.Frag) : Sp := fun vs H Q _ => ∃ (t : Addr) (g : Grid), vs = [.ref t] ∧ TabAt K H t g ∧ Rect g ∧ ∀ H' : Hp, Same H H' → Q (.int ((spots g).length : Nat)) H'
theorem PrL.len {H : Hp} {a : Addr} {ps : List Pr} (h : PrL H a ps) : ∃ xs, H a = some (.lst xs) ∧ xs.length = ps.length := by
  obtain ⟨as, h1, h2⟩ := h
  exact ⟨_, h1, refs_len h2⟩
theorem df_T_len (T : Txt K mg) : Def P w K mg base 2 (He.ma K (He.ga K "Table") "__len__") ["self"] (spTLen K) := by
  obtain ⟨fd, F⟩ := T.D_T_len
  refine mkDef F sc_T_len (fun _ _ _ _ _ _ us hl => match us, hl with | [_], _ => rfl) (fun vs H Q E h => ?len) (fun cdv A outer s H vs Q E hr h => ?body)
  case len =>
    obtain ⟨t, g, rfl, _⟩ := h
    rfl
  case body =>
    obtain ⟨t, g, rfl, ht, R, k⟩ := h
    refine ⟨_, pss_one (ps_ret (pe_callB (r := rLenOf K) (id := "len") call_len_seq (by rfl) T.f_len (by decide +kernel) (pa_cons (pd_meth0 (pv 0) T.c_Table T.m_T_pairs (df_T_pairs T) hr) pa_nil))), ?_⟩
    obtain ⟨dx, ga, h1, h2⟩ := id ht
    refine ⟨_, rfl, t, dx, _, rfl, h1, look_no_grid _ (by decide +kernel), t, g, rfl, ht, R, fun p H' n => ?_⟩
    obtain ⟨xs, e1, e2⟩ := PrL.len n.at_
    refine ⟨p, xs, rfl, Or.inl (SqL.of e1), ?_⟩
    rw [e2]
    exact k H' n.same
def spHasCell (K : PySem.W.Frag) : Sp := fun vs H Q _ => ∃ (t a : Addr) (g : Grid) (p : Pr), vs = [.ref t, .ref a] ∧ TabAt K H t g ∧ PrA H a p ∧ p.1 < g.length ∧ p.2 < wid g ∧ Q (.bl true) H
theorem df_T_has_cell (T : Txt K mg) : Def P w K mg base 3 (He.ma K (He.ga K "Table") "has_cell") ["self", "value"] (spHasCell K) := by
  obtain ⟨fd, F⟩ := T.D_T_has_cell
  refine mkDef F sc_T_has_cell (fun _ _ _ _ _ _ us hl => match us, hl with | [_, _], _ => rfl) (fun vs H Q E h => ?len) (fun cdv A outer s H vs Q E hr h => ?body)
  case len =>
    obtain ⟨t, a, g, p, rfl, _⟩ := h
    rfl
  case body =>
    obtain ⟨t, a, g, ⟨i, j⟩, rfl, ⟨dx, ga, ht, hg⟩, ha, h1, h2, q⟩ := h
    have ha : H a = some (.tup [.int (i : Nat), .int (j : Nat)]) := ha
    have h1 : i < g.length := h1
    have h2 : j < wid g := h2
    obtain ⟨as, b, r, e1, e2, e3, e4, e5⟩ := hg.row (i := 0) (by omega)
    have hl : (as.map V.ref).length = g.length := by
      obtain ⟨as', f1, f2⟩ := hg
      rw [f1] at e1
      have z := Option.some.inj e1
      injection z with z
      rw [← z]
      exact refs_len f2
    have ew : r.length = wid g := by rw [e5]; rfl
    have ix0 : atI (as.map V.ref) (0 : Int) = some (.ref b) := atI_nat (j := 0) e2
    refine ⟨_, pss_one (ps_ret (pe_and (pd_call (df_is_spot T) (hr) (by rfl) T.g_is_spot (pa_cons (pv 1) pa_nil)) (pe_and (pe_chain op_le op_lt pe_int (pe_ix (r := rIxT K) ix_tup (pv 1) (pe_int) (fun _ _ => rfl)) (pe_callB (r := rLenOf K) (id := "len") call_len_seq (by rfl) T.f_len (by decide +kernel) (pa_cons (pe_fld (pv 0) rfl) pa_nil)))
      (pe_one (pe_chain op_le op_lt pe_int (pe_ix (r := rIxT K) ix_tup (pv 1) (pe_int) (fun _ _ => rfl)) (pe_callB (r := rLenOf K) (id := "len") call_len_seq (by rfl) T.f_len (by decide +kernel) (pa_cons (pe_ix (r := rIxL K) ix_list (pe_fld (pv 0) rfl) (pe_int) (fun _ _ => rfl)) pa_nil))))))), ?_⟩
    refine ⟨_, rfl, a, i, j, rfl, ha, _, rfl, iteT ?_⟩
    refine ⟨_, rfl, _, _, _, _, rfl, rfl, SqT.of ha, rfl, _, _, rfl, rfl, _, rfl, ?_⟩
    rw [decide_eq_true (show (0 : Int) ≤ (i : Nat) by omega)]
    refine iteT ⟨_, rfl, t, _, dx, _, _, rfl, ht, T.c_Table, T.n_grid, look_grid _, _, _, rfl, Or.inl (SqL.of e1), _, _, rfl, rfl, _, rfl, ?_⟩
    rw [hl, decide_eq_true (show ((i : Nat) : Int) < (g.length : Nat) by omega)]
    refine iteT ⟨_, rfl, _, _, _, _, rfl, rfl, SqT.of ha, rfl, _, _, rfl, rfl, _, rfl, ?_⟩
    rw [decide_eq_true (show (0 : Int) ≤ (j : Nat) by omega)]
    refine iteT ⟨_, rfl, t, _, dx, _, _, rfl, ht, T.c_Table, T.n_grid, look_grid _, _, _, _, _, rfl, rfl, SqL.of e1, ix0, _, _, rfl, Or.inl (SqL.of e3), _, _, rfl, rfl, ?_⟩
    rw [len_oV, ew]
    show Q (.bl (decide (((j : Nat) : Int) < (wid g : Nat)))) H
    rw [decide_eq_true (show ((j : Nat) : Int) < (wid g : Nat) by omega)]
    exact q
def spContains (K : PySem.W.Frag) : Sp := fun vs H Q _ => ∃ (t a : Addr) (g : Grid) (p : Pr), vs = [.ref t, .ref a] ∧ TabAt K H t g ∧ PrA H a p ∧ Rect g ∧ p ∈ spots g ∧ Q (.bl true) H
theorem df_T_contains (T : Txt K mg) : Def P w K mg base 4 (He.ma K (He.ga K "Table") "__contains__") ["self", "value"] (spContains K) := by
  obtain ⟨fd, F⟩ := T.D_T_contains
  refine mkDef F sc_T_contains (fun _ _ _ _ _ _ us hl => match us, hl with | [_, _], _ => rfl) (fun vs H Q E h => ?len) (fun cdv A outer s H vs Q E hr h => ?body)
  case len =>
    obtain ⟨t, a, g, p, rfl, _⟩ := h
    rfl
  case body =>
    obtain ⟨t, a, g, ⟨i, j⟩, rfl, ht, ha, R, hp, q⟩ := h
    obtain ⟨dx, ga, h1, hg⟩ := id ht
    have hs := mem_spots.mp hp
    obtain ⟨l1, l2⟩ := R.lt hs
    have ha' : H a = some (.tup [.int (i : Nat), .int (j : Nat)]) := ha
    obtain ⟨as, b, r, e1, e2, e3, e4, e5⟩ := hg.row l1
    refine ⟨_, pss_one (ps_ret (pe_and (pd_meth (pv 0) T.c_Table T.m_T_has_cell (df_T_has_cell T) hr (pa_cons (pv 1) pa_nil)) (pe_one (pe_cmpR op_notN (pe_ix (r := rIxL K) ix_list (pe_ix (r := rIxL K) ix_list (pe_fld (pv 0) rfl) (pe_ix (r := rIxT K) ix_tup (pv 1) (pe_int) (fun _ _ => rfl)) (fun _ _ => rfl)) (pe_ix (r := rIxT K) ix_tup (pv 1) (pe_int) (fun _ _ => rfl)) (fun _ _ => rfl)) pe_non (nomark _))))), ?_⟩
    refine ⟨_, rfl, t, dx, _, rfl, h1, look_no_grid _ (by decide +kernel), _, rfl, t, a, g, (i, j), rfl, ht, ha, l1, l2, _, rfl, iteT ?_⟩
    have hjr : j < r.length := by rw [e5, R.at l1]; exact l2
    refine ⟨_, rfl, t, _, dx, _, _, rfl, h1, T.c_Table, T.n_grid, look_grid _, _, rfl, _, _, _, _, rfl, rfl, SqT.of ha', rfl, _, _, _, _, rfl, rfl, SqL.of e1, atI_nat e2, _, rfl, _, _, _, _, rfl, rfl, SqT.of ha', rfl, _, _, _, _, rfl, rfl, SqL.of e3, atI_nat (row_at hjr), rfl, ?_⟩
    have hs2 : (r.getD j none).isSome = true := by rw [e5]; exact hs
    rw [oV_non, hs2]
    exact q
end
end K55
set_option Elab.async false
set_option linter.all false
set_option maxRecDepth 100000
set_option maxHeartbeats 4000000
namespace K55
open PySem PySem.Spec PyProof.Rows L2
section
variable {P : Program} {w : World} {K : PySem.W.Frag} {mg : Str → Option Value} {base : Heap}
/-- an Order -/
def ofs (l d : Addr) : List (Str × V) := [("listed", .ref l), ("spots", .ref d)]
def OrdAt (K : PySem.W.Frag) (H : Hp) (t : Addr) (ps : List Pr) : Prop := ∃ dx l d, H t = some (.ins (He.ga K "Order") dx (ofs l d)) ∧ PrL H l ps
theorem OrdAt.mono {H H' : Hp} {t : Addr} {ps : List Pr} (h : OrdAt K H t ps) (s : Same H H') : OrdAt K H' t ps := by
  obtain ⟨dx, l, d, h1, h2⟩ := h
  exact ⟨dx, l, d, s _ _ h1, h2.mono s⟩
theorem ofs_listed (l d : Addr) : (ofs l d).lookup ("listed" : Str) = some (.ref l) := by
  have e : (("listed" : Str) == "listed") = true := by decide +kernel
  unfold ofs
  simp only [List.lookup, e]
theorem ofs_spots (l d : Addr) : (ofs l d).lookup ("spots" : Str) = some (.ref d) := by
  have e : (("spots" : Str) == "listed") = false := by decide +kernel
  have e2 : (("spots" : Str) == "spots") = true := by decide +kernel
  unfold ofs
  simp only [List.lookup, e, e2]
theorem ofs_no {m : Str} (l d : Addr) (h1 : (m == ("listed" : Str)) = false) (h2 : (m == ("spots" : Str)) = false) : (ofs l d).lookup m = none := by
  unfold ofs
  simp only [List.lookup, h1, h2]
theorem ofs_put (l d : Addr) : putF "spots" (.ref d) (putF "listed" (.ref l) []) = ofs l d := by
  show (if ("listed" : Str) = "spots" then _ else (("listed" : Str), V.ref l) :: putF "spots" (.ref d) []) = _
  rw [if_neg (by decide +kernel)]
  rfl
theorem valV_out {kvs : List (List L2.Key × V)} {k : List L2.Key} (h : ¬ k ∈ kvs.map (·.1)) : valV kvs k = none := by
  cases e : valV kvs k with
  | none => rfl
  | some v => exact absurd (valV_in e) h
theorem keys_out {ps : List Pr} {i : Nat} {p : Pr} (hn : ps.Nodup) (h : ps[i]? = some p) : ¬ keyP p ∈ (ps.take i).map keyP := by
  intro m
  obtain ⟨q, hq, e⟩ := List.mem_map.mp m
  rw [keyP_inj e] at hq
  exact not_in_take hn h (Nat.le_refl i) hq
def spOInit (K : PySem.W.Frag) : Sp := fun vs H Q _ => ∃ (x dx a : Addr) (ps : List Pr), vs = [.ref x, .ref a] ∧ H x = some (.ins (He.ga K "Order") dx []) ∧ PrL H a ps ∧ ps.Nodup ∧ ps.length ≤ 36 ∧ (∀ p ∈ ps, p.1 ≤ 7 ∧ p.2 ≤ 7) ∧
  ∀ H' : Hp, (∀ b o, H b = some o → b ≠ x → H' b = some o) → OrdAt K H' x ps → Q .non H'
structure OInitI (K : PySem.W.Frag) (H : Hp) (x dx l d : Addr) (as : List Addr) (ps : List Pr) (i : Nat) (H2 : Hp) : Prop where
  ob : H2 x = some (.ins (He.ga K "Order") dx (ofs l d))
  ls : H2 l = some (.lst ((as.take i).map V.ref))
  dc : ∃ kvs : List (List L2.Key × V), H2 d = some (.dT kvs) ∧ kvs.map (·.1) = (ps.take i).map keyP
  kp : ∀ b o, H b = some o → b ≠ x → H2 b = some o
theorem df_O_init (T : Txt K mg) : Def P w K mg base 4 (He.ma K (He.ga K "Order") "__init__") ["self", "pairs"] (spOInit K) := by
  obtain ⟨fd, F⟩ := T.D_O_init
  refine mkDef F sc_O_init (fun _ _ _ _ _ _ us hl => match us, hl with | [_, _], _ => rfl) (fun vs H Q E h => ?len) (fun cdv A outer s H vs Q E hr h => ?body)
  case len =>
    obtain ⟨x, dx, a, ps, rfl, _⟩ := h
    rfl
  case body =>
    obtain ⟨x, dx, a, ps, rfl, hx, ha, hn, hz, h7, k⟩ := h
    obtain ⟨t6, g6⟩ := T.i_LONGEST
    obtain ⟨as, e1, e2⟩ := id ha
    have hu := hu_of hr
    have hl : (as.map V.ref).length = ps.length := refs_len e2
    have hla : as.length = ps.length := Paired.length e2
    have hax : a ≠ x := ne_of e1 hx (fun z => nomatch z)
    refine ⟨_, pss_cons (ps_if (PW.pt (pw_or (pt_not (pt_val (pe_callB call_isi (by rfl) T.f_isinstance (by decide +kernel) (pa_cons (pv 1) (pa_cons (pe_bltn (v := .ty "list") (by rfl) T.f_list (by decide +kernel) rfl) pa_nil))))) (pw_or1 (pt_cmpR op_gt (pe_callB (r := rLenOf K) (id := "len") call_len_seq (by rfl) T.f_len (by decide +kernel) (pa_cons (pv 1) pa_nil)) (pe_glob (v := .int 64) (by rfl) g6 ⟨_, rfl⟩) (nomark _))))) pss_never pss_nil)
      (pss_cons (ps_fld (pv 0) (pe_lst pa_nil) rfl) (pss_cons (ps_fld (pv 0) pe_dnewT rfl)
      (pss_one (ps_for PassesOwn.never rfl (pi_enum (by rfl) T.f_enumerate (pa_cons (pv 1) pa_nil)) (pg_tup (by rfl) (pgs_cons (pg_name (i := 2) sc_O_init.nd rfl (Or.inl rfl)) (pgs_cons (pg_name (i := 3) sc_O_init.nd rfl (Or.inl rfl)) pgs_nil)))
        (pss_cons (ps_if (PW.pt (pw_or (pt_not (pt_val (pd_call (df_is_possible_pair T) (hr) (by rfl) T.g_is_possible_pair (pa_cons (pv 3) pa_nil)))) (pw_or1 (pt_cmp (pc_din hu (pv 3) (pe_fld (pv 0) rfl)))))) pss_never pss_nil)
        (pss_cons (ps_dput hu (pe_fld (pv 0) rfl) (pv 3) (pv 2) rfl) (pss_one (ps_expr (pe_bm PySem.F.plainAttrs_list PySem.F.slot_list_append PySem.F.type_list_append mt_append (pe_fld (pv 0) rfl) (pa_cons (pv 3) pa_nil)))))))))), ?_⟩
    refine ⟨_, rfl, _, _, _, _, true, rfl, .ty "list", .base (.lst e1), kit_ty (by decide +kernel), _, rfl, iteF ?_⟩
    refine ⟨_, rfl, _, _, rfl, Or.inl (SqL.of e1), _, _, rfl, rfl, _, rfl, ?_⟩
    rw [hl, decide_eq_false (show ¬ (64 : Int) < (ps.length : Nat) by omega)]
    refine iteF ?_
    -- self.listed = []; self.spots = {}
    refine ⟨Nat.zero_le _, fun l hl0 => ?_⟩
    have nlx : l ≠ x := fun z => by rw [z, hx] at hl0; cases hl0
    refine ⟨_, rfl, x, _, dx, [], rfl, upd_keep hx hl0, T.c_Order, T.n_listed, by decide, fun d hd0 => ?_⟩
    have ndx : d ≠ x := fun z => by rw [z, upd_same] at hd0; cases hd0
    have ndl : d ≠ l := fun z => by rw [z, upd_ne nlx, upd_same] at hd0; cases hd0
    refine ⟨_, rfl, x, _, dx, _, rfl, upd_keep upd_same hd0, T.c_Order, T.n_spots, by show 1 < 1000; decide, ?_⟩
    rw [ofs_put]
    have hd1 : H d = none := by rw [upd_ne ndx, upd_ne ndl] at hd0; exact hd0
    have I0 : OInitI K H x dx l d as ps 0 (upd (upd (upd (upd H l (.lst [])) x (.ins (He.ga K "Order") dx (putF "listed" (.ref l) []))) d (.dT [])) x (.ins (He.ga K "Order") dx (ofs l d))) :=
      ⟨upd_same, by rw [upd_ne nlx, upd_ne ndl.symm, upd_ne nlx, upd_same]; rfl, ⟨[], by rw [upd_ne ndx, upd_same], rfl⟩,
        fun b o e ne => by rw [upd_ne ne, upd_ne (ne_of_none e hd1), upd_ne ne, upd_ne (ne_of_none e hl0)]; exact e⟩
    generalize upd (upd (upd (upd H l (.lst [])) x (.ins (He.ga K "Order") dx (putF "listed" (.ref l) []))) d (.dT [])) x (.ins (He.ga K "Order") dx (ofs l d)) = H1 at I0
    refine ⟨_, rfl, a, _, rfl, SqL.of (I0.kp _ _ e1 hax), for_it (walk_enum (K := K) (a := a) (xs := as.map V.ref)) (fun i σ H2 => OInitI K H x dx l d as ps i H2 ∧ ∃ u v, σ = [some (.ref x), some (.ref a), u, v]) ⟨I0, none, none, rfl⟩ (fun i σ H2 _ hp => SqL.of (hp.1.kp _ _ e1 hax)) ?_ ?_⟩
    · rintro i v σ H2 H3 hi ⟨J, u, v', rfl⟩ ⟨p, y1, y2, rfl, np, rfl, hy1, hy2⟩
      cases hy1
      obtain ⟨b, q, rfl, eq, rb⟩ := refs_at e2 hy2
      have hbi : as[i]? = some b := by
        have z : (as.map V.ref)[i]? = some (V.ref b) := hy2
        rw [List.getElem?_map] at z
        cases w : as[i]? with
        | none => rw [w] at z; cases z
        | some c => rw [w] at z; cases z; rfl
      have hbx : b ≠ x := ne_of rb hx (fun z => nomatch z)
      obtain ⟨J1, J2, ⟨kvs, J3, J3k⟩, J4⟩ := J
      have hpx : p ≠ x := fun z => by rw [z, J1] at np; cases np
      have hpl : p ≠ l := fun z => by rw [z, J2] at np; cases np
      have hpd : p ≠ d := fun z => by rw [z, J3] at np; cases np
      have rb3 : PrA (upd H2 p (.tup [.int (i : Nat), .ref b])) b q := upd_keep (J4 b _ rb hbx) np
      refine ⟨p, _, rfl, SqT.of upd_same, rfl, _, _, rfl, _, _, rfl, rfl, ?_⟩
      obtain ⟨q1, q2⟩ := h7 q (List.mem_of_getElem? eq)
      refine ⟨_, rfl, b, q, rfl, rb3, q1, q2, _, rfl, iteF ?_⟩
      refine ⟨_, rfl, _, rfl, x, _, dx, _, _, rfl, upd_keep J1 np, T.c_Order, T.n_spots, ofs_spots l d, d, _, rfl, DGet.t (k := keyP q) (upd_keep J3 np) rb3, _, rfl, ?_⟩
      have hv : valV kvs (keyP q) = none := valV_out (by rw [J3k]; exact keys_out hn eq)
      rw [hv]
      refine iteF ?_
      have hkl : kvs.length = i := by
        have z := congrArg List.length J3k
        rw [List.length_map, List.length_map, List.length_take] at z
        have : i < ps.length := (List.getElem?_eq_some_iff.mp eq).1
        omega
      have hi36 : i < ps.length := (List.getElem?_eq_some_iff.mp eq).1
      refine ⟨_, rfl, _, rfl, x, _, dx, _, _, rfl, upd_keep J1 np, T.c_Order, T.n_spots, ofs_spots l d, _, rfl, d, _, rfl, DPut.t (k := keyP q) (upd_keep J3 np) rb3 (small1000 (by omega)), ?_⟩
      refine ⟨_, rfl, x, _, dx, _, _, rfl, by rw [upd_ne ndx.symm]; exact upd_keep J1 np, T.c_Order, T.n_listed, ofs_listed l d, Or.inl ⟨rfl, _, SqL.of (by rw [upd_ne ndl.symm]; exact upd_keep J2 np)⟩, _, rfl, l, _, _, rfl, rfl, by rw [upd_ne ndl.symm]; exact upd_keep J2 np, ?_, ?_⟩
      · rw [List.length_map, List.length_take]
        exact small1000 (by omega)
      · refine ⟨⟨?_, ?_, ⟨_, by rw [upd_ne ndl, upd_same], ?_⟩, fun c o e ne => ?_⟩, _, _, rfl⟩
        · rw [upd_ne nlx.symm, upd_ne ndx.symm]; exact upd_keep J1 np
        · rw [upd_same, take_snoc hbi, List.map_append]; rfl
        · rw [putK_new _ hv, List.map_append, J3k, take_snoc eq, List.map_append]; rfl
        · have z := J4 c o e ne
          have w := hd1
          rw [upd_ne (ne_of_none e hl0), upd_ne (ne_of_none e hd1)]
          exact upd_keep z np
    · rintro σ H2 ⟨J, u, v, rfl⟩
      rw [hl] at J
      refine k H2 J.kp ⟨dx, l, d, J.ob, as, ?_, Paired.mapP e2 fun b p z => J.kp _ _ z (ne_of z hx (fun z => nomatch z))⟩
      have z := J.ls
      rw [← hla, List.take_length] at z
      exact z
def spOLen (K : PySem.W.Frag) : Sp := fun vs H Q _ => ∃ (t : Addr) (ps : List Pr), vs = [.ref t] ∧ OrdAt K H t ps ∧ Q (.int (ps.length : Nat)) H
theorem df_O_len (T : Txt K mg) : Def P w K mg base 1 (He.ma K (He.ga K "Order") "__len__") ["self"] (spOLen K) := by
  obtain ⟨fd, F⟩ := T.D_O_len
  refine mkDef F sc_O_len (fun _ _ _ _ _ _ us hl => match us, hl with | [_], _ => rfl) (fun vs H Q E h => ?len) (fun cdv A outer s H vs Q E hr h => ?body)
  case len =>
    obtain ⟨t, ps, rfl, _⟩ := h
    rfl
  case body =>
    obtain ⟨t, ps, rfl, ⟨dx, l, d, h1, h2⟩, q⟩ := h
    obtain ⟨xs, e1, e2⟩ := h2.len
    refine ⟨_, pss_one (ps_ret (pe_callB (r := rLenOf K) (id := "len") call_len_seq (by rfl) T.f_len (by decide +kernel) (pa_cons (pe_fld (pv 0) rfl) pa_nil))), ?_⟩
    refine ⟨_, rfl, t, _, dx, _, _, rfl, h1, T.c_Order, T.n_listed, ofs_listed l d, l, xs, rfl, Or.inl (SqL.of e1), ?_⟩
    rw [e2]
    exact q
def spOPairs (K : PySem.W.Frag) : Sp := fun vs H Q _ => ∃ (t : Addr) (ps : List Pr), vs = [.ref t] ∧ OrdAt K H t ps ∧ ∀ (p : Addr) (H' : Hp), NewL PrA H p ps H' → Q (.ref p) H'
theorem df_O_pairs (T : Txt K mg) : Def P w K mg base 1 (He.ma K (He.ga K "Order") "pairs") ["self"] (spOPairs K) := by
  obtain ⟨fd, F⟩ := T.D_O_pairs
  refine mkDef F sc_O_pairs (fun _ _ _ _ _ _ us hl => match us, hl with | [_], _ => rfl) (fun vs H Q E h => ?len) (fun cdv A outer s H vs Q E hr h => ?body)
  case len =>
    obtain ⟨t, ps, rfl, _⟩ := h
    rfl
  case body =>
    obtain ⟨t, ps, rfl, ⟨dx, l, d, h1, ⟨as, e1, e2⟩⟩, k⟩ := h
    refine ⟨_, pss_one (ps_ret (pe_callTy (r := rListOf K) (T := "list") call_list_of (by rfl) T.f_list (by decide +kernel) (pa_cons (pe_fld (pv 0) rfl) pa_nil))), ?_⟩
    refine ⟨_, rfl, t, _, dx, _, _, rfl, h1, T.c_Order, T.n_listed, ofs_listed l d, l, _, rfl, Or.inl (SqL.of e1), fun p hp => ?_⟩
    exact k p _ ⟨same_new hp, hp, as, upd_same, Paired.mapP e2 fun b q z => upd_keep z hp⟩
def spCheckOrder (K : PySem.W.Frag) : Sp := fun vs H Q _ => ∃ (t o : Addr) (g : Grid) (ps : List Pr), vs = [.ref t, .ref o] ∧ TabAt K H t g ∧ OrdAt K H o ps ∧ Rect g ∧ ps.length = (spots g).length ∧ (∀ p ∈ ps, p ∈ spots g) ∧ ∀ H' : Hp, Same H H' → Q .non H'
theorem df_check_order (T : Txt K mg) : Def P w K mg base 5 (He.ga K "check_order") ["table", "order"] (spCheckOrder K) := by
  obtain ⟨fd, F⟩ := T.D_check_order
  refine mkDef F sc_check_order (fun _ _ _ _ _ _ us hl => match us, hl with | [_, _], _ => rfl) (fun vs H Q E h => ?len) (fun cdv A outer s H vs Q E hr h => ?body)
  case len =>
    obtain ⟨t, o, g, ps, rfl, _⟩ := h
    rfl
  case body =>
    obtain ⟨t, o, g, ps, rfl, ht, ho, R, hz, hs, k⟩ := h
    refine ⟨_, pss_cons (ps_if (pt_cmpR op_ne (pe_callB (cd_len (df_O_len T) T.m_O_len (hr.mono (by decide))) (by rfl) T.f_len (by decide +kernel) (pa_cons (pv 1) pa_nil)) (pe_callB (cd_len (df_T_len T) T.m_T_len (hr.mono (by decide))) (by rfl) T.f_len (by decide +kernel) (pa_cons (pv 0) pa_nil)) (nomark _)) pss_never pss_nil)
      (pss_one (ps_for PassesOwn.never rfl (pi_list (pd_meth0 (pv 1) T.c_Order T.m_O_pairs (df_O_pairs T) (hr.mono (by decide)))) (pg_name (i := 2) sc_check_order.nd rfl (Or.inl rfl))
        (pss_one (ps_if (pt_cmpR (cd_notin (df_T_contains T) T.m_T_contains hr) (pv 2) (pv 0) (by rfl)) pss_never pss_nil)))), ?_⟩
    obtain ⟨dx, l, d, o1, o2⟩ := id ho
    obtain ⟨tx, ga, t1, t2⟩ := id ht
    refine ⟨_, rfl, o, dx, _, rfl, o1, o, ps, rfl, ho, ps.length, rfl, ?_, ?_⟩
    · have := spots_len R
      omega
    refine ⟨_, rfl, t, tx, _, rfl, t1, t, g, rfl, ht, R, fun H1 s1 => ⟨_, rfl, ?_, ?_⟩⟩
    · have := spots_len R
      omega
    refine ⟨rfl, _, rfl, ?_⟩
    rw [hz]
    refine iteNS rfl ?_
    refine ⟨_, rfl, o, dx, _, rfl, s1 _ _ o1, ofs_no l d (by decide +kernel) (by decide +kernel), o, ps, rfl, ho.mono s1, fun p H2 n => ?_⟩
    obtain ⟨as, e1, e2⟩ := n.at_
    refine ⟨p, rfl, ⟨_, SqL.of e1⟩, for_it (walk_list (K := K) (a := p) (xs := as.map V.ref)) (fun i σ H3 => H3 = H2 ∧ ∃ v, σ = [some (.ref t), some (.ref o), v]) ⟨rfl, none, rfl⟩ (fun i σ H3 _ hp => by rw [hp.1]; exact SqL.of e1) ?_ ?_⟩
    · rintro i x σ H3 H4 hi ⟨rfl, v, rfl⟩ ⟨rfl, hx⟩
      obtain ⟨b, q, rfl, eq, rb⟩ := refs_at e2 hx
      have s2 := s1.trans n.same
      refine ⟨_, rfl, _, rfl, t, tx, _, rfl, s2 _ _ t1, t, b, g, q, rfl, ht.mono s2, rb, R, hs q (List.mem_of_getElem? eq), true, rfl, _, rfl, iteF ?_⟩
      exact ⟨rfl, _, rfl⟩
    · rintro σ H3 ⟨rfl, v, rfl⟩
      exact k H3 (s1.trans n.same)
end
end K55
set_option Elab.async false
set_option linter.all false
set_option maxRecDepth 100000
set_option maxHeartbeats 4000000
namespace K55
open PySem PySem.Spec PyProof.Rows L2
section
variable {P : Program} {w : World} {K : PySem.W.Frag} {mg : Str → Option Value} {base : Heap}
theorem GA.cellAt {H : Hp} {a : Addr} {g : Grid} (h : GA H a g) (R : Rect g) {i j : Nat} (hi : i < g.length) (hj : j < wid g) :
    ∃ (xs : List V) (b : Addr) (ys : List V), H a = some (.lst xs) ∧ atI xs (i : Int) = some (.ref b) ∧ H b = some (.lst ys) ∧ atI ys (j : Int) = some (oV (cell g i j)) := by
  obtain ⟨as, b, r, e1, e2, e3, e4, e5⟩ := h.row hi
  refine ⟨_, b, _, e1, atI_nat e2, e3, atI_nat ?_⟩
  have hl : r.length = wid g := by rw [e5]; exact R.at hi
  rw [row_at (by omega), e5]
  rfl
theorem some_val {o : Option Int} (h : o.isSome = true) : oV o = .int (val o) := by
  cases o with
  | none => cases h
  | some z => rfl
def spIsDearer : Sp := fun vs H Q _ => ∃ (a b c : Addr) (g : Grid) (i j r s : Nat), vs = [.ref a, .ref b, .ref c] ∧ GA H a g ∧ Rect g ∧ PrA H b (i, j) ∧ PrA H c (r, s) ∧ (cell g i j).isSome = true ∧ (cell g i s).isSome = true ∧ (cell g r j).isSome = true ∧ Q (.bl (dearer g i j r s)) H
theorem df_is_dearer (T : Txt K mg) : Def P w K mg base 1 (He.ga K "is_dearer") ["grid", "pair", "other"] spIsDearer := by
  obtain ⟨fd, F⟩ := T.D_is_dearer
  refine mkDef F sc_is_dearer (fun _ _ _ _ _ _ us hl => match us, hl with | [_, _, _], _ => rfl) (fun vs H Q E h => ?len) (fun cdv A outer s H vs Q E hr h => ?body)
  case len =>
    obtain ⟨a, b, c, g, i, j, r, s, rfl, _⟩ := h
    rfl
  case body =>
    obtain ⟨a, b, c, g, i, j, r, s, rfl, ha, R, hb, hc, s1, s2, s3, q⟩ := h
    obtain ⟨l1, l2⟩ := R.lt s1
    obtain ⟨_, l4⟩ := R.lt s2
    obtain ⟨l3, _⟩ := R.lt s3
    obtain ⟨x1, b1, y1, f1, f2, f3, f4⟩ := ha.cellAt R l3 l4
    obtain ⟨x2, b2, y2, g1, g2, g3, g4⟩ := ha.cellAt R l1 l2
    obtain ⟨x3, b3, y3, k1, k2, k3, k4⟩ := ha.cellAt R l1 l4
    obtain ⟨x4, b4, y4, m1, m2, m3, m4⟩ := ha.cellAt R l3 l2
    refine ⟨_, pss_cons (ps_asg (pv 1) (pg_tup (by rfl) (pgs_cons (pg_name (i := 3) sc_is_dearer.nd rfl (Or.inl rfl)) (pgs_cons (pg_name (i := 4) sc_is_dearer.nd rfl (Or.inl rfl)) pgs_nil)))) (pss_cons (ps_asg (pv 2) (pg_tup (by rfl) (pgs_cons (pg_name (i := 5) sc_is_dearer.nd rfl (Or.inl rfl)) (pgs_cons (pg_name (i := 6) sc_is_dearer.nd rfl (Or.inl rfl)) pgs_nil))))
      (pss_cons (ps_if (pt_cmpR op_isN (pe_ix (r := rIxL K) ix_list (pe_ix (r := rIxL K) ix_list (pv 0) (pv 5) (fun _ _ => rfl)) (pv 6) (fun _ _ => rfl)) pe_non (nomark _)) (pss_one (ps_ret pe_bl)) pss_nil)
      (pss_one (ps_ret (pe_cmpR op_gt (pe_op op_add (pe_ix (r := rIxL K) ix_list (pe_ix (r := rIxL K) ix_list (pv 0) (pv 3) (fun _ _ => rfl)) (pv 4) (fun _ _ => rfl)) (pe_ix (r := rIxL K) ix_list (pe_ix (r := rIxL K) ix_list (pv 0) (pv 5) (fun _ _ => rfl)) (pv 6) (fun _ _ => rfl))) (pe_op op_add (pe_ix (r := rIxL K) ix_list (pe_ix (r := rIxL K) ix_list (pv 0) (pv 3) (fun _ _ => rfl)) (pv 6) (fun _ _ => rfl)) (pe_ix (r := rIxL K) ix_list (pe_ix (r := rIxL K) ix_list (pv 0) (pv 5) (fun _ _ => rfl)) (pv 4) (fun _ _ => rfl))) (nomark _)))))), ?_⟩
    refine ⟨_, rfl, b, _, rfl, SqT.of hb, rfl, _, _, rfl, _, _, rfl, rfl, ?_⟩
    refine ⟨_, rfl, c, _, rfl, SqT.of hc, rfl, _, _, rfl, _, _, rfl, rfl, ?_⟩
    refine ⟨_, rfl, _, rfl, _, _, _, _, rfl, rfl, SqL.of f1, f2, _, rfl, _, _, _, _, rfl, rfl, SqL.of f3, f4, rfl, _, rfl, ?_⟩
    rw [oV_non]
    unfold dearer at q
    cases e : cell g r s with
    | none =>
      rw [e] at q
      exact iteT q
    | some z =>
      rw [e] at q
      rw [e] at f4
      refine iteF ?_
      refine ⟨_, rfl, _, rfl, _, _, _, _, rfl, rfl, SqL.of g1, g2, _, rfl, _, _, _, _, rfl, rfl, SqL.of g3, g4, _, rfl, _, rfl, _, _, _, _, rfl, rfl, SqL.of f1, f2, _, rfl, _, _, _, _, rfl, rfl, SqL.of f3, f4, _, z, some_val s1, rfl, ?_⟩
      exact ⟨_, rfl, _, rfl, _, _, _, _, rfl, rfl, SqL.of k1, k2, _, rfl, _, _, _, _, rfl, rfl, SqL.of k3, k4, _, rfl, _, rfl, _, _, _, _, rfl, rfl, SqL.of m1, m2, _, rfl, _, _, _, _, rfl, rfl, SqL.of m3, m4, _, _, some_val s2, some_val s3, _, _, rfl, rfl, q⟩
/-! a dict whose keys are pairs -/
def bhE (p : Pr) : List L2.Key × V := (keyP p, .bl true)
def BhAt (H : Hp) (d : Addr) (bh : List Pr) : Prop := H d = some (.dT (bh.map bhE))
theorem bh_keys (bh : List Pr) : (bh.map bhE).map (·.1) = bh.map keyP := by rw [List.map_map]; rfl
theorem valV_bh : ∀ (bh : List Pr) (p : Pr), (valV (bh.map bhE) (keyP p)).isSome = decide (p ∈ bh)
  | [], p => by simp [valV]
  | q :: bh, p => by
    by_cases e : q = p
    · subst e
      rw [List.map_cons, valV_pos (show (bhE q).1 = keyP q from rfl)]
      simp
    · rw [List.map_cons, valV_neg (show ¬ (bhE q).1 = keyP p from fun z => e (keyP_inj z)), valV_bh bh p]
      have : (p ∈ q :: bh) ↔ p ∈ bh := by rw [List.mem_cons]; exact ⟨fun z => z.resolve_left fun y => e y.symm, Or.inr⟩
      exact (decide_eq_decide.mpr this).symm
theorem drop_bh {ps : List Pr} (hn : ps.Nodup) {k : Nat} {p : Pr} (h : ps[k]? = some p) : dropK ((ps.drop k).map bhE) (keyP p) = (ps.drop (k + 1)).map bhE := by
  obtain ⟨hk, e⟩ := List.getElem?_eq_some_iff.mp h
  rw [List.drop_eq_getElem_cons hk, e, List.map_cons, dropK_pos (show (bhE p).1 = keyP p from rfl), dropK_no]
  rw [bh_keys]
  intro m
  obtain ⟨q, hq, e2⟩ := List.mem_map.mp m
  have e3 := keyP_inj e2
  subst e3
  obtain ⟨i, hi⟩ := List.mem_iff_getElem?.mp hq
  rw [List.getElem?_drop] at hi
  have a1 := idxOf_at hn h
  have a2 := idxOf_at hn hi
  omega
def nV (n : Nat) : V := .int (n : Nat)
/-- the numbers that a comprehension of bars has kept -/
structure Kept (H : Hp) (D : Addr) (ok : Nat → Prop) (n : Nat) (H2 : Hp) : Prop where
  at_ : ∃ rs : List Nat, H2 D = some (.lst (rs.map nV)) ∧ (∀ r ∈ rs, ok r) ∧ rs.length ≤ n
  same : Same H H2
theorem Kept.start {H : Hp} {D : Addr} {ok : Nat → Prop} (h : H D = none) : Kept H D ok 0 (upd H D (.lst [])) := ⟨⟨[], upd_same, fun _ z => (by cases z), Nat.le_refl _⟩, same_new h⟩
theorem Kept.mono {H H2 H3 : Hp} {D : Addr} {ok : Nat → Prop} {n : Nat} (k : Kept H D ok n H2) (s : Same H2 H3) : Kept H D ok (n + 1) H3 := by
  obtain ⟨⟨rs, h1, h2, h3⟩, h4⟩ := k
  exact ⟨⟨rs, s _ _ h1, h2, Nat.le_succ_of_le h3⟩, h4.trans s⟩
theorem Kept.push {H H2 H3 : Hp} {D : Addr} {ok : Nat → Prop} {n r : Nat} (k : Kept H D ok n H2) (hD : H D = none) (s : Same H2 H3) (hr : ok r) (hn : n ≤ 100) :
    ∃ acc, H3 D = some (.lst acc) ∧ acc.length < sizeLine ∧ Kept H D ok (n + 1) (upd H3 D (.lst (acc ++ [nV r]))) := by
  obtain ⟨⟨rs, h1, h2, h3⟩, h4⟩ := k
  refine ⟨_, s _ _ h1, ?_, ⟨rs ++ [r], ?_, fun q hq => ?_, ?_⟩, same_upd (h4.trans s) hD⟩
  · rw [List.length_map]; exact small1000 (by omega)
  · rw [upd_same, List.map_append]; rfl
  · rcases List.mem_append.mp hq with z | z
    · exact h2 q z
    · rw [List.mem_singleton.mp z]; exact hr
  · rw [List.length_append, List.length_singleton]; omega
end
end K55
set_option Elab.async false
set_option linter.all false
set_option maxRecDepth 100000
set_option maxHeartbeats 4000000
namespace K55
open PySem PySem.Spec PyProof.Rows L2
section
variable {P : Program} {w : World} {K : PySem.W.Frag} {mg : Str → Option Value} {base : Heap}
def spBars (K : PySem.W.Frag) : SpG0 := fun vs H Q => ∃ (t d b : Addr) (z : Str) (g : Grid) (bh : List Pr) (i j : Nat), vs = [.ref t, .ref d, .ref b, .str z] ∧ TabAt K H t g ∧ Rect g ∧ BhAt H d bh ∧ PrA H b (i, j) ∧ (cell g i j).isSome = true ∧
  (∀ q ∈ bh, q ∈ spots g) ∧ NoBar g (kcol z) (krow z) bh i j ∧ ∀ H' : Hp, Same H H' → Q H'
theorem zero_add_nat (r : Nat) : ((0 : Int) + (r : Nat)) = (r : Nat) := Int.zero_add _
theorem dec_ne {a b : Nat} : decide (V.int ((a : Nat) : Int) = V.int ((b : Nat) : Int)) = decide (a = b) := by
  rw [dec_int]
  by_cases e : a = b
  · subst e; simp
  · rw [decide_eq_false e]
    exact beq_eq_false_iff_ne.mpr (by omega)
/-- [r for r in range(n) if r != i and (key of r) in behind]: its reading -/
theorem kept_turn {σ : L2.St} {H : Hp} {D d i n si slot s1 s2 db : Nat} {bh : List Pr} {f : Nat → Pr} {vs : List Nat} {Qd : Hp → Prop} (hbh : BhAt H d bh) (hD : H D = none) (hn : n ≤ 8)
    (hσ : ∀ r : Nat, ∃ u v : V, ((wipe σ vs).set slot (some (V.int r)))[slot]? = some (some (V.int r)) ∧ ((wipe σ vs).set slot (some (V.int r)))[si]? = some (some (.int (i : Nat))) ∧ ((wipe σ vs).set slot (some (V.int r)))[s1]? = some (some u) ∧ ((wipe σ vs).set slot (some (V.int r)))[s2]? = some (some v) ∧
      ((wipe σ vs).set slot (some (V.int r)))[db]? = some (some (.ref d)) ∧ [u, v] = tupP (f r) ∧ wipe ((wipe σ vs).set slot (some (V.int r))) vs = wipe σ vs)
    (hd : ∀ H2, Kept H D (fun r => r ≠ i ∧ f r ∈ bh) n H2 → Qd H2) :
    ∃ W : Nat → Nat → Hp → Prop, (∃ m, W 0 m (upd H D (.lst []))) ∧ ∀ k m H, W k m H → ((Itr 0 n).stop k H ∧ Qd H) ∨ ((Itr 0 n).go k H ∧ ∃ Nx : Hp → Prop, (∀ H', Nx H' → ∃ m', m' < m ∧ W (k + 1) m' H') ∧
      ∀ x H', (Itr 0 n).yld k H x H' → gName slot x (wipe σ vs) H' fun σ2 H2 => wipe σ2 vs = wipe σ vs ∧ tAnd (tTest (tOp rNe (tVar slot) (tVar si))) (tB (tDIn (tTup (tCons (tVar s1) (tCons (tVar s2) tNil))) (tVar db))) σ2 H2 fun b H3 =>
        if b = true then tVar slot σ2 H3 fun y H4 => ∃ acc, H4 D = some (.lst acc) ∧ acc.length < sizeLine ∧ Nx (upd H4 D (.lst (acc ++ [y]))) else Nx H3) := by
  refine walk_by (walk_range (lo := 0) (n := n)) (fun k H2 => Kept H D (fun r => r ≠ i ∧ f r ∈ bh) k H2) (Kept.start hD) (fun _ _ _ _ => trivial) ?_ (fun H2 p => hd H2 p)
  rintro k x H2 H3 hk p ⟨rfl, rfl⟩
  show gName slot (V.int (0 + ((k : Nat) : Int))) _ _ _
  rw [zero_add_nat]
  obtain ⟨u, v, e1, e2, e3, e4, e5, e6, e7⟩ := hσ k
  refine ⟨e7, _, e1, _, e2, rfl, _, rfl, ?_⟩
  rw [dec_ne]
  by_cases hki : k = i
  · rw [decide_eq_true hki]
    exact iteF (iteF (p.mono (Same.refl _)))
  · rw [decide_eq_false hki]
    refine iteT ⟨_, e3, _, e4, (by show 2 ≤ sizeLine; decide), fun q nq => ⟨_, e5, d, _, rfl, DGet.t (k := keyP (f k)) (upd_keep (p.same _ _ hbh) nq) (by rw [upd_same, e6]; rfl), _, rfl, ?_⟩⟩
    rw [valV_bh]
    by_cases hm : f k ∈ bh
    · rw [decide_eq_true hm]
      refine iteT ⟨_, e1, ?_⟩
      exact p.push hD (same_new nq) ⟨hki, hm⟩ (by omega)
    · rw [decide_eq_false hm]
      exact iteF (p.mono (same_new nq))
def lineT (K : PySem.W.Frag) (f : Str → Bool) (lst slot : Nat) (cmp : TT) : TS := tIfS (tB (tCall (spKc f) [] E0 (tCons (tVar 3) tNil))) (tFor (iList K (tVar lst)) (gName slot) (tIfS cmp tNever tNext)) tNext
theorem line_ok {f : Str → Bool} {z : Str} {lst slot : Nat} {L : Addr} {rs : List Nat} {cmp : TT} {D : Ends} {σ : L2.St} {H : Hp} {u0 : Option V} (h3 : σ[3]? = some (some (.str z))) (hL : σ[lst]? = some (some (.ref L))) (hs : σ = σ.set slot u0) (hl : H L = some (.lst (rs.map nV)))
    (hc : f z = true → ∀ r ∈ rs, ∀ Q : Bool → Hp → Prop, Q false H → cmp (σ.set slot (some (nV r))) H Q) (hd : ∀ u, D.nx (σ.set slot u) H) : lineT K f lst slot cmp D σ H := by
  refine ⟨_, h3, z, rfl, _, rfl, ?_⟩
  cases hz : f z with
  | false =>
    refine iteF ?_
    show D.nx σ H
    rw [hs]
    exact hd _
  | true =>
    refine iteT ⟨_, hL, L, rfl, ⟨_, SqL.of hl⟩, for_it (walk_list (K := K) (a := L) (xs := rs.map nV)) (fun n σ' H4 => H4 = H ∧ ∃ u, σ' = σ.set slot u) ⟨rfl, _, hs⟩ (fun n σ' H4 _ p => by rw [p.1]; exact SqL.of hl) ?_ ?_⟩
    · rintro n x σ' H4 H5 hn ⟨rfl, u, rfl⟩ ⟨rfl, hx⟩
      rw [List.getElem?_map] at hx
      cases e : rs[n]? with
      | none => rw [e] at hx; cases hx
      | some r =>
        rw [e] at hx
        have hx : nV r = x := Option.some.inj hx
        subst hx
        show tIfS cmp tNever tNext _ ((σ.set slot u).set slot (some (nV r))) _
        rw [List.set_set]
        exact hc hz r (List.mem_of_getElem? e) _ (iteF ⟨rfl, _, rfl⟩)
    · rintro σ' H4 ⟨rfl, u, rfl⟩
      exact hd u
theorem df_bars (T : Txt K mg) : ∃ fd, GFn0 P w K mg base 2 (He.ga K "bars") fd ["table", "behind", "pair", "kind"] (spBars K) ∧ Binds K fd ["table", "behind", "pair", "kind"] [] ∧ PySem.W.keepIn K (.ref (He.ga K "bars")) = true := by
  obtain ⟨fd, F⟩ := T.D_bars
  obtain ⟨oc, od, dV, kV, doc, pm, an, cdv, ct, osl, rfl, lk, hcd, hD, hK⟩ := id F.ex
  refine ⟨_, gfn0_of lk hcd sc_bars (fun vs H Q h => ?_) (fun A outer s H vs Q hr h => ?_), F.bindsN (fun _ _ _ _ _ _ us hl => match us, hl with | [_, _, _, _], _ => rfl), F.kp⟩
  · obtain ⟨t, d, b, z, g, bh, i, j, rfl, _⟩ := h
    rfl
  · obtain ⟨t, d, b, z, g, bh, i, j, rfl, ht, R, hbh, hb, hs, hsub, nb, k⟩ := h
    obtain ⟨l1, l2⟩ := R.lt hs
    have hu := hu_of hr
    obtain ⟨r1, r2, r3, r4, r5⟩ := id R
    have cs : ∀ {r c : Nat}, (r, c) ∈ bh → (cell g r c).isSome = true := fun h => mem_spots.mp (hsub _ h)
    refine ⟨_, pss_cons (ps_set (i := 4) sc_bars.nd rfl (Or.inl rfl) (pd_meth0 (pv 0) T.c_Table T.m_T_rows (df_T_rows T) hr)) (pss_cons (ps_asg (pv 2) (pg_tup (by rfl) (pgs_cons (pg_name (i := 5) sc_bars.nd rfl (Or.inr rfl)) (pgs_cons (pg_name (i := 6) sc_bars.nd rfl (Or.inr rfl)) pgs_nil))))
      (pss_cons (ps_setLc (i := 7) (own := [("r", 9)]) (g := gName 9) rfl sc_bars.nd rfl rfl (sw_true rfl rfl rfl (by decide +kernel)) (pi_range1 (by rfl) T.f_range (pa_cons (pe_callB (r := rLenOf K) (id := "len") call_len_seq (by rfl) T.f_len (by decide +kernel) (pa_cons (pv 4) pa_nil)) pa_nil)) (blkOk_by (N := ["table", "behind", "pair", "kind", "grid", "i", "j", "stocks", "wishes", "r", "s"]) (sc := defScope s_bars) (by decide +kernel))
        (fun _ _ _ _ _ => pg_name (i := 9) sc_bars.nd rfl (Or.inl rfl)) (fun _ _ _ _ _ => pts_one (PW.pt (pw_and (pt_cmpR op_ne (pv 9) (pv 5) (nomark _)) (pw_and1 (pt_cmp (pc_din hu (pe_tup (pa_cons (pv 9) (pa_cons (pv 6) pa_nil))) (pv 1))))))) (fun _ _ _ _ _ => pv 9))
      (pss_cons (ps_setLc (i := 8) (own := [("s", 10)]) (g := gName 10) rfl sc_bars.nd rfl rfl (sw_true rfl rfl rfl (by decide +kernel)) (pi_range1 (by rfl) T.f_range (pa_cons (pe_callB (r := rLenOf K) (id := "len") call_len_seq (by rfl) T.f_len (by decide +kernel) (pa_cons (pe_ix (r := rIxL K) ix_list (pv 4) (pe_int) (fun _ _ => rfl)) pa_nil)) pa_nil)) (blkOk_by (N := ["table", "behind", "pair", "kind", "grid", "i", "j", "stocks", "wishes", "r", "s"]) (sc := defScope s_bars) (by decide +kernel))
        (fun _ _ _ _ _ => pg_name (i := 10) sc_bars.nd rfl (Or.inl rfl)) (fun _ _ _ _ _ => pts_one (PW.pt (pw_and (pt_cmpR op_ne (pv 10) (pv 6) (nomark _)) (pw_and1 (pt_cmp (pc_din hu (pe_tup (pa_cons (pv 5) (pa_cons (pv 10) pa_nil))) (pv 1))))))) (fun _ _ _ _ _ => pv 10))
      (pss_cons (ps_for PassesOwn.never rfl (pi_list (pv 7)) (pg_name (i := 9) sc_bars.nd rfl (Or.inl rfl)) (pss_one (ps_for PassesOwn.never rfl (pi_list (pv 8)) (pg_name (i := 10) sc_bars.nd rfl (Or.inl rfl))
        (pss_one (ps_if (pt_val (pd_call (df_is_dearer T) (hr) (by rfl) T.g_is_dearer (pa_cons (pv 4) (pa_cons (pv 2) (pa_cons (pe_tup (pa_cons (pv 9) (pa_cons (pv 10) pa_nil))) pa_nil))))) pss_never pss_nil)))))
      (pss_cons (ps_if (pt_val (pd_call (df_counts_columns T) (hr) (by rfl) T.g_counts_columns (pa_cons (pv 3) pa_nil))) (pss_one (ps_for PassesOwn.never rfl (pi_list (pv 7)) (pg_name (i := 9) sc_bars.nd rfl (Or.inl rfl))
        (pss_one (ps_if (pt_cmpR op_gt (pe_ix (r := rIxL K) ix_list (pe_ix (r := rIxL K) ix_list (pv 4) (pv 5) (fun _ _ => rfl)) (pv 6) (fun _ _ => rfl)) (pe_ix (r := rIxL K) ix_list (pe_ix (r := rIxL K) ix_list (pv 4) (pv 9) (fun _ _ => rfl)) (pv 6) (fun _ _ => rfl)) (nomark _)) pss_never pss_nil)))) pss_nil)
      (pss_one (ps_if (pt_val (pd_call (df_counts_rows T) (hr) (by rfl) T.g_counts_rows (pa_cons (pv 3) pa_nil))) (pss_one (ps_for PassesOwn.never rfl (pi_list (pv 8)) (pg_name (i := 10) sc_bars.nd rfl (Or.inl rfl))
        (pss_one (ps_if (pt_cmpR op_gt (pe_ix (r := rIxL K) ix_list (pe_ix (r := rIxL K) ix_list (pv 4) (pv 5) (fun _ _ => rfl)) (pv 6) (fun _ _ => rfl)) (pe_ix (r := rIxL K) ix_list (pe_ix (r := rIxL K) ix_list (pv 4) (pv 5) (fun _ _ => rfl)) (pv 10) (fun _ _ => rfl)) (nomark _)) pss_never pss_nil)))) pss_nil))))))), ?_⟩
    obtain ⟨dx, ga, t1, t2⟩ := id ht
    refine ⟨_, rfl, t, dx, _, rfl, t1, look_no_grid _ (by decide +kernel), t, g, rfl, ht, by omega, fun gr H1 n1 => ?_⟩
    have hg1 : GA H1 gr g := n1.at_
    have hb1 := hb.mono n1.same
    have hbh1 : BhAt H1 d bh := n1.same _ _ hbh
    obtain ⟨as, e1, e2⟩ := id hg1
    have hl : (as.map V.ref).length = g.length := refs_len e2
    refine ⟨_, rfl, b, _, rfl, SqT.of hb1, rfl, _, _, rfl, _, _, rfl, rfl, ?_⟩
    -- stocks
    refine ⟨_, rfl, gr, _, rfl, Or.inl (SqL.of e1), _, rfl, by omega, by omega, ?_⟩
    rw [hl, Int.toNat_natCast]
    intro D1 hD1
    refine kept_turn (f := fun r => (r, j)) hbh1 hD1 (by omega) (fun r => ⟨_, _, rfl, rfl, rfl, rfl, rfl, rfl, rfl⟩) fun H2 k2 => ?_
    -- wishes
    obtain ⟨⟨rs, f1, f2, f3⟩, s2⟩ := k2
    have hg2 := hg1.mono s2
    obtain ⟨as', b0, r0, w1, w2, w3, w4, w5⟩ := hg2.row (i := 0) (by omega)
    have ew : r0.length = wid g := by rw [w5]; rfl
    have hlo : (r0.map oV).length = wid g := by rw [len_oV, ew]
    refine ⟨_, rfl, _, _, _, _, rfl, rfl, SqL.of w1, atI_nat (j := 0) w2, b0, _, rfl, Or.inl (SqL.of w3), _, rfl, by omega, by omega, ?_⟩
    rw [hlo, Int.toNat_natCast]
    intro D2 hD2
    refine kept_turn (f := fun s => (i, s)) (s2 _ _ hbh1) hD2 (by omega) (fun r => ⟨_, _, rfl, rfl, rfl, rfl, rfl, rfl, rfl⟩) fun H3 k3 => ?_
    obtain ⟨⟨ss, g1, g2, g3⟩, s3⟩ := k3
    have sA : Same H1 H3 := s2.trans s3
    have hg3 := hg1.mono sA
    have hb3 := hb1.mono sA
    have f1' : H3 D1 = some (.lst (rs.map nV)) := s3 _ _ f1
    -- the crosses
    refine ⟨_, rfl, D1, rfl, ⟨_, SqL.of f1'⟩, for_it (walk_list (K := K) (a := D1) (xs := rs.map nV)) (fun n σ H4 => Same H3 H4 ∧ ∃ u v, σ = [some (.ref t), some (.ref d), some (.ref b), some (.str z), some (.ref gr), some (.int (i : Nat)), some (.int (j : Nat)), some (.ref D1), some (.ref D2), u, v]) ⟨Same.refl _, none, none, rfl⟩ (fun n σ H4 _ p => SqL.of (p.1 _ _ f1')) ?_ ?_⟩
    · rintro n x σ H4 H5 hn ⟨s4, u, v, rfl⟩ ⟨rfl, hx⟩
      obtain ⟨r, hr1, rfl⟩ : ∃ r, r ∈ rs ∧ x = nV r := by
        rw [List.getElem?_map] at hx
        cases e : rs[n]? with
        | none => rw [e] at hx; cases hx
        | some r => rw [e] at hx; exact ⟨r, List.mem_of_getElem? e, (Option.some.inj hx).symm⟩
      obtain ⟨hri, hrb⟩ := f2 r hr1
      have g1' : H5 D2 = some (.lst (ss.map nV)) := s4 _ _ g1
      refine ⟨_, rfl, D2, rfl, ⟨_, SqL.of g1'⟩, for_it (walk_list (K := K) (a := D2) (xs := ss.map nV)) (fun m σ H6 => Same H3 H6 ∧ ∃ v, σ = [some (.ref t), some (.ref d), some (.ref b), some (.str z), some (.ref gr), some (.int (i : Nat)), some (.int (j : Nat)), some (.ref D1), some (.ref D2), some (nV r), v]) ⟨s4, v, rfl⟩ (fun m σ H6 _ p => SqL.of (p.1 _ _ g1)) ?_ ?_⟩
      · rintro m y σ H6 H7 hm ⟨s6, v, rfl⟩ ⟨rfl, hy⟩
        obtain ⟨c, hc1, rfl⟩ : ∃ c, c ∈ ss ∧ y = nV c := by
          rw [List.getElem?_map] at hy
          cases e : ss[m]? with
          | none => rw [e] at hy; cases hy
          | some c => rw [e] at hy; exact ⟨c, List.mem_of_getElem? e, (Option.some.inj hy).symm⟩
        obtain ⟨hcj, hcb⟩ := g2 c hc1
        refine ⟨_, rfl, _, rfl, _, rfl, _, rfl, (by show 2 ≤ sizeLine; decide), fun q nq => ?_⟩
        have s7 := s6.trans (same_new (o := .tup [nV r, nV c]) nq)
        refine ⟨gr, b, q, g, i, j, r, c, rfl, hg3.mono s7, R, hb3.mono s7, upd_same, hs, cs hcb, cs hrb, _, rfl, ?_⟩
        rw [nb.cr r c hri hcj hrb hcb]
        exact iteF ⟨s7, _, rfl⟩
      · rintro σ H6 ⟨s6, v, rfl⟩
        exact ⟨s6, _, _, rfl⟩
    · rintro σ H4 ⟨s4, u, v, rfl⟩
      have hg4 := hg3.mono s4
      have cols : ∀ r ∈ rs, (cell g r j).isSome = true := fun r h => cs (f2 r h).2
      refine line_ok (K := K) (f := kcol) (z := z) (lst := 7) (slot := 9) (L := D1) (rs := rs) rfl rfl rfl (s4 _ _ f1') (fun hz r hr1 Q' hQ => ?_) fun u => ?_
      · obtain ⟨hri, hrb⟩ := f2 r hr1
        obtain ⟨l3, _⟩ := R.lt (cs hrb)
        obtain ⟨x1, b1, y1, m1, m2, m3, m4⟩ := hg4.cellAt R l1 l2
        obtain ⟨x2, b2, y2, o1, o2, o3, o4⟩ := hg4.cellAt R l3 l2
        refine ⟨_, rfl, _, rfl, _, _, _, _, rfl, rfl, SqL.of m1, m2, _, rfl, _, _, _, _, rfl, rfl, SqL.of m3, m4, _, rfl, _, rfl, _, _, _, _, rfl, rfl, SqL.of o1, o2, _, rfl, _, _, _, _, rfl, rfl, SqL.of o3, o4, _, _, some_val hs, some_val (cs hrb), _, rfl, ?_⟩
        rw [decide_eq_false (nb.co hz r hri hrb)]
        exact hQ
      · refine line_ok (K := K) (f := krow) (z := z) (lst := 8) (slot := 10) (L := D2) (rs := ss) rfl rfl rfl (s4 _ _ g1) (fun hz c hc1 Q' hQ => ?_) fun u => ?_
        · obtain ⟨hcj, hcb⟩ := g2 c hc1
          obtain ⟨_, l4⟩ := R.lt (cs hcb)
          obtain ⟨x1, b1, y1, m1, m2, m3, m4⟩ := hg4.cellAt R l1 l2
          obtain ⟨x2, b2, y2, o1, o2, o3, o4⟩ := hg4.cellAt R l1 l4
          refine ⟨_, rfl, _, rfl, _, _, _, _, rfl, rfl, SqL.of m1, m2, _, rfl, _, _, _, _, rfl, rfl, SqL.of m3, m4, _, rfl, _, rfl, _, _, _, _, rfl, rfl, SqL.of o1, o2, _, rfl, _, _, _, _, rfl, rfl, SqL.of o3, o4, _, _, some_val hs, some_val (cs hcb), _, rfl, ?_⟩
          rw [decide_eq_false (nb.ro hz c hcj hcb)]
          exact hQ
        · exact k _ (n1.same.trans (sA.trans s4))
end
end K55
set_option Elab.async false
set_option linter.all false
set_option maxRecDepth 100000
set_option maxHeartbeats 4000000
namespace K55
open PySem PySem.Spec PyProof.Rows L2
section
variable {P : Program} {w : World} {K : PySem.W.Frag} {mg : Str → Option Value} {base : Heap}
def spFirstBar (K : PySem.W.Frag) : Sp := fun vs H Q _ => spBars K vs H (fun H' => Q .non H')
theorem df_first_bar (T : Txt K mg) : Def P w K mg base 6 (He.ga K "first_bar") ["table", "behind", "pair", "kind"] (spFirstBar K) := by
  obtain ⟨fd, F⟩ := T.D_first_bar
  refine mkDef F sc_first_bar (fun _ _ _ _ _ _ us hl => match us, hl with | [_, _, _, _], _ => rfl) (fun vs H Q E h => ?len) (fun cdv A outer s H vs Q E hr h => ?body)
  case len =>
    obtain ⟨t, d, b, z, g, bh, i, j, rfl, _⟩ := h
    rfl
  case body =>
    obtain ⟨fb, G, B, kp⟩ := df_bars (P := P) (w := w) (base := base) T
    obtain ⟨t, d, b, z, g, bh, i, j, rfl, hrest⟩ := h
    refine ⟨_, pss_cons (ps_forG0 PassesOwn.never G (hr.mono (by decide)) (by rfl) T.g_bars kp B (pa_cons (pv 0) (pa_cons (pv 1) (pa_cons (pv 2) (pa_cons (pv 3) pa_nil))))) (pss_one (ps_ret pe_non)), ?_⟩
    exact ⟨_, rfl, _, rfl, _, rfl, _, rfl, t, d, b, z, g, bh, i, j, rfl, hrest⟩
/-- {pair: True for pair in a list}: its reading -/
theorem dict_turn {σ : L2.St} {H : Hp} {D a : Addr} {slot : Nat} {ps : List Pr} {as : List Addr} {Qd : Hp → Prop} (e1 : H a = some (.lst (as.map V.ref))) (e2 : Paired (PrA H) as ps) (hD : H D = none) (hn : ps.Nodup) (hz : ps.length ≤ 36) (hs : slot < σ.length)
    (hd : ∀ H2, Same H H2 → BhAt H2 D ps → Qd H2) :
    ∃ W : Nat → Nat → Hp → Prop, (∃ m, W 0 m (upd H D (.dT []))) ∧ ∀ i m H, W i m H → ((Itl K a).stop i H ∧ Qd H) ∨ ((Itl K a).go i H ∧ ∃ Nx : Hp → Prop, (∀ H', Nx H' → ∃ m', m' < m ∧ W (i + 1) m' H') ∧
      ∀ x H', (Itl K a).yld i H x H' → DcTurn D σ (gName slot) tYes (tVar slot) (tC (.bl true)) [slot] Nx x H') := by
  have hl : (as.map V.ref).length = ps.length := refs_len e2
  refine walk_by (walk_list (K := K) (a := a) (xs := as.map V.ref)) (fun i H2 => Same H H2 ∧ H2 D = some (.dT ((ps.take i).map bhE))) ⟨same_new hD, by rw [upd_same]; rfl⟩ (fun i H2 _ p => SqL.of (p.1 _ _ e1)) ?_ ?_
  · rintro i x H2 H3 hi ⟨s, hd2⟩ ⟨rfl, hx⟩
    obtain ⟨b, q, rfl, eq, rb⟩ := refs_at e2 hx
    have hv : valV ((ps.take i).map bhE) (keyP q) = none := valV_out (by rw [bh_keys]; exact keys_out hn eq)
    have hsl : slot < (wipe σ [slot]).length := by rw [wipe_length]; exact hs
    refine ⟨?_, yesT ?_⟩
    · show (((σ.set slot none).set slot _).set slot none) = σ.set slot none
      simp
    · refine ⟨.ref b, by rw [List.getElem?_set_self hsl], _, keyP q, b, rfl, s _ _ rb, hd2, ?_, same_upd s hD, ?_⟩
      · rw [List.length_map, List.length_take]
        exact small1000 (by omega)
      · rw [upd_same, putK_new _ hv, take_snoc eq, List.map_append]; rfl
  · rintro H2 ⟨s, hd2⟩
    rw [hl, List.take_length] at hd2
    exact hd H2 s hd2
/-- what holds of a right order of a table -/
structure RightAt (K : PySem.W.Frag) (H : Hp) (t o : Addr) (z : Str) (g : Grid) (ps : List Pr) : Prop where
  tb : TabAt K H t g
  od : OrdAt K H o ps
  R : Rect g
  right : Ord (nds g (kcol z) (krow z)) ps
theorem RightAt.mono {H H' : Hp} {t o : Addr} {z : Str} {g : Grid} {ps : List Pr} (h : RightAt K H t o z g ps) (s : Same H H') : RightAt K H' t o z g ps := ⟨h.tb.mono s, h.od.mono s, h.R, h.right⟩
theorem RightAt.sub {H : Hp} {t o : Addr} {z : Str} {g : Grid} {ps : List Pr} (h : RightAt K H t o z g ps) : ∀ p ∈ ps, p ∈ spots g := fun p hp => by
  have := h.right.sub p hp
  rw [nds_keys] at this
  exact this
theorem RightAt.len {H : Hp} {t o : Addr} {z : Str} {g : Grid} {ps : List Pr} (h : RightAt K H t o z g ps) : ps.length = (spots g).length := by rw [h.right.len, nds_length]
theorem RightAt.le {H : Hp} {t o : Addr} {z : Str} {g : Grid} {ps : List Pr} (h : RightAt K H t o z g ps) : ps.length ≤ 36 := by rw [h.len]; exact spots_len h.R
def spFirstFault (K : PySem.W.Frag) : Sp := fun vs H Q _ => ∃ (t o : Addr) (z : Str) (g : Grid) (ps : List Pr), vs = [.ref t, .ref o, .str z] ∧ RightAt K H t o z g ps ∧ z ∈ kindsS ∧ ∀ H' : Hp, Same H H' → Q .non H'
theorem df_first_fault (T : Txt K mg) : ∃ fd, FnOk P w K mg base CX0 7 (He.ga K "first_fault") fd ["table", "order", "kind"] (spFirstFault K) ∧ KBn K fd ["table", "order", "kind"] 2 ["kind"] (fun us ws => us ++ ws) (fun vs zs => vs ++ zs) ∧ PySem.W.keepIn K (.ref (He.ga K "first_fault")) = true := by
  obtain ⟨fd, F⟩ := T.D_first_fault
  refine ⟨fd, F.ok sc_first_fault (fun vs H Q E h => ?len) (fun cdv A outer s H vs Q E hr h => ?body), ?kb, F.kp⟩
  case kb =>
    obtain ⟨oc, od, dV, kV, doc, pm, an, cdv, ct, osl, rfl, lk, hcd, hD, hK⟩ := F.ex
    refine ⟨fun s us ws X l1 l2 => ?_, fun r1 r2 => r1.append r2⟩
    rcases hD with ⟨_, rfl⟩ | ⟨e, _⟩
    · match us, ws, l1, l2 with
      | [_, _], [_], _, _ => exact .of_eq rfl
    · exact absurd rfl e
  case len =>
    obtain ⟨t, o, z, g, ps, rfl, _⟩ := h
    rfl
  case body =>
    obtain ⟨t, o, z, g, ps, rfl, ra, hz, k⟩ := h
    have hu := hu_of hr
    refine ⟨_, PSs.nox (pss_cons (ps_expr (pd_call (df_check_order T) (hr.mono (by decide)) (by rfl) T.g_check_order (pa_cons (pv 0) (pa_cons (pv 1) pa_nil)))) (pss_cons (ps_expr (pd_call (df_check_kind T) (hr.mono (by decide)) (by rfl) T.g_check_kind (pa_cons (pv 2) pa_nil)))
      (pss_cons (ps_setDcT (i := 3) (own := [("pair", 4)]) (g := gName 4) (tt := tYes) rfl hu sc_first_fault.nd rfl rfl (sw_trueD rfl rfl rfl (by decide +kernel)) (pi_list (pd_meth0 (pv 1) T.c_Order T.m_O_pairs (df_O_pairs T) (hr.mono (by decide)))) (blkOk_by (N := ["table", "order", "kind", "behind", "pair", "bar"]) (sc := defScope s_first_fault) (by decide +kernel))
        (fun _ _ _ _ _ => pg_name (i := 4) sc_first_fault.nd rfl (Or.inl rfl)) (fun _ _ _ _ _ => pts_nil) (fun _ _ _ _ _ => pv 4) (fun _ _ _ _ _ => pe_bl))
      (pss_cons (ps_for PassesOwn.never rfl (pi_list (pd_meth0 (pv 1) T.c_Order T.m_O_pairs (df_O_pairs T) (hr.mono (by decide)))) (pg_name (i := 4) sc_first_fault.nd rfl (Or.inl rfl))
        (pss_cons (ps_ddelT hu (pv 3) (pv 4)) (pss_one (ps_ifW (ptw_cmp op_notN (pew_named (i := 5) sc_first_fault.nd rfl (Or.inl rfl) (pew_of (pd_call (df_first_bar T) (hr) (by rfl) T.g_first_bar (pa_cons (pv 0) (pa_cons (pv 3) (pa_cons (pv 4) (pa_cons (pv 2) pa_nil))))))) pe_non (nomark _)) pss_never pss_nil))))
      (pss_one (ps_ret pe_non)))))), ?_⟩
    refine ⟨_, rfl, _, rfl, t, o, g, ps, rfl, ra.tb, ra.od, ra.R, ra.len, ra.sub, fun H1 s1 => ?_⟩
    have ra1 := ra.mono s1
    obtain ⟨dx, l, d0, o1, o2⟩ := id ra1.od
    refine ⟨_, rfl, z, rfl, hz, ?_⟩
    refine ⟨_, rfl, o, dx, _, rfl, o1, ofs_no l d0 (by decide +kernel) (by decide +kernel), o, ps, rfl, ra1.od, fun a H2 n2 => ?_⟩
    obtain ⟨as, e1, e2⟩ := n2.at_
    refine ⟨a, rfl, ⟨_, SqL.of e1⟩, fun D hD => dict_turn e1 e2 hD ra.right.nodup ra.le (show 4 < 6 by decide) fun H3 s3 hb3 => ?_⟩
    have ra2 := ra1.mono n2.same
    have ra3 := ra2.mono s3
    obtain ⟨dx3, l3, d3, p1, p2⟩ := id ra3.od
    refine ⟨_, rfl, o, dx3, _, rfl, p1, ofs_no l3 d3 (by decide +kernel) (by decide +kernel), o, ps, rfl, ra3.od, fun c H4 n4 => ?_⟩
    obtain ⟨cs, f1, f2⟩ := n4.at_
    have hcl : (cs.map V.ref).length = ps.length := refs_len f2
    have hb4 : BhAt H4 D ps := n4.same _ _ hb3
    have hcD : c ≠ D := fun q => by have := n4.new; rw [q, show H3 D = _ from hb3] at this; cases this
    -- what stands beside the dict
    have s24 : Same H2 (Wo H4 [D]) := Wo_to (s3.trans n4.same) fun d hd => by rw [List.mem_singleton.mp hd]; exact hD
    have fW : Wo H4 [D] c = some (.lst (cs.map V.ref)) := by rw [Wo_out (fun q => hcD (List.mem_singleton.mp q))]; exact f1
    have gW : Paired (PrA (Wo H4 [D])) cs ps := Paired.mapP f2 fun b p q => by
      show Wo H4 [D] b = _
      rw [Wo_out (fun y => by have q2 : H4 b = _ := q; rw [List.mem_singleton.mp y, show H4 D = _ from hb4] at q2; cases q2)]
      exact q
    refine ⟨c, rfl, ⟨_, SqL.of f1⟩, for_it (walk_list (K := K) (a := c) (xs := cs.map V.ref)) (fun i σ H5 => Same (Wo H4 [D]) (Wo H5 [D]) ∧ BhAt H5 D (ps.drop i) ∧ ∃ u v, σ = [some (.ref t), some (.ref o), some (.str z), some (.ref D), u, v]) ⟨Same.refl _, hb4, none, none, rfl⟩ (fun i σ H5 _ p => SqL.of ((p.1.trans (Wo_same _ _)) _ _ fW)) ?_ ?_⟩
    · rintro i x σ H5 H6 hi ⟨s5, hb5, u, v, rfl⟩ ⟨rfl, hx⟩
      obtain ⟨b, q, rfl, eq, rb⟩ := refs_at gW hx
      have rb6 : PrA H6 b q := (s5.trans (Wo_same _ _)) _ _ rb
      obtain ⟨hil, _⟩ := List.getElem?_eq_some_iff.mp eq
      have hmem : q ∈ ps.drop i := List.mem_iff_getElem?.mpr ⟨0, by rw [List.getElem?_drop]; exact eq⟩
      refine ⟨_, rfl, _, rfl, D, _, keyP q, b, rfl, hb5, rfl, rb6, by rw [valV_bh]; exact decide_eq_true hmem, ?_⟩
      rw [drop_bh ra.right.nodup eq]
      have eW : Wo (upd H6 D (.dT ((ps.drop (i + 1)).map bhE))) [D] = Wo H6 [D] := Wo_upd (List.mem_singleton.mpr rfl)
      have s6 : Same (Wo H4 [D]) (upd H6 D (.dT ((ps.drop (i + 1)).map bhE))) := by
        have y := s5
        rw [← eW] at y
        exact y.trans (Wo_same _ _)
      obtain ⟨qi, qj⟩ := q
      refine ⟨_, rfl, _, rfl, _, rfl, _, rfl, t, D, b, z, g, ps.drop (i + 1), qi, qj, rfl, ra2.tb.mono (s24.trans s6), ra.R, upd_same, s6 _ _ rb, mem_spots.mp (ra.sub _ (List.mem_of_getElem? eq)), fun y hy => ra.sub y (List.mem_of_mem_drop hy), noBar_of_ord ra.R ra.right eq, fun H7 s7 => ?_⟩
      refine ⟨rfl, _, rfl, iteF ?_⟩
      refine ⟨?_, s7 _ _ upd_same, _, _, rfl⟩
      have y := Wo_of (ds := [D]) s7
      rw [eW] at y
      exact s5.trans y
    · rintro σ H5 ⟨s5, hb5, u, v, rfl⟩
      exact k H5 (s1.trans (n2.same.trans (s24.trans (s5.trans (Wo_same _ _)))))
def spCheckRight (K : PySem.W.Frag) : Sp := spFirstFault K
theorem df_check_right (T : Txt K mg) : Def P w K mg base 8 (He.ga K "check_right") ["table", "order", "kind"] (spCheckRight K) := by
  obtain ⟨fd, F⟩ := T.D_check_right
  refine mkDef F sc_check_right (fun _ _ _ _ _ _ us hl => match us, hl with | [_, _, _], _ => rfl) (fun vs H Q E h => ?len) (fun cdv A outer s H vs Q E hr h => ?body)
  case len =>
    obtain ⟨t, o, z, g, ps, rfl, _⟩ := h
    rfl
  case body =>
    obtain ⟨ff, G, B, kp⟩ := df_first_fault (P := P) (w := w) (base := base) T
    obtain ⟨t, o, z, g, ps, rfl, ra, hz, k⟩ := h
    refine ⟨_, pss_cons (ps_set (i := 3) sc_check_right.nd rfl (Or.inl rfl) (pe_callN (k := 7) G hr (by rfl) T.g_first_fault kp B pass0 (pa_cons (pv 0) (pa_cons (pv 1) pa_nil)) (pk_cons (pv 2) pk_nil))) (pss_one (ps_if (pt_cmpR op_notN (pv 3) pe_non (nomark _)) pss_never pss_nil)), ?_⟩
    refine ⟨_, rfl, _, rfl, _, rfl, rfl, rfl, t, o, z, g, ps, rfl, ra, hz, fun H' s' => ?_⟩
    exact ⟨_, rfl, rfl, _, rfl, iteF (k H' s')⟩
def spCheckBoth (K : PySem.W.Frag) : Sp := fun vs H Q _ => ∃ (t a b : Addr) (z : Str) (g : Grid) (ps qs : List Pr), vs = [.ref t, .ref a, .ref b, .str z] ∧ RightAt K H t a z g ps ∧ RightAt K H t b z g qs ∧ z ∈ kindsS ∧ ∀ H' : Hp, Same H H' → Q .non H'
theorem df_check_both (T : Txt K mg) : Def P w K mg base 9 (He.ga K "check_both") ["table", "one", "other", "kind"] (spCheckBoth K) := by
  obtain ⟨fd, F⟩ := T.D_check_both
  refine mkDef F sc_check_both (fun _ _ _ _ _ _ us hl => match us, hl with | [_, _, _, _], _ => rfl) (fun vs H Q E h => ?len) (fun cdv A outer s H vs Q E hr h => ?body)
  case len =>
    obtain ⟨t, a, b, z, g, ps, qs, rfl, _⟩ := h
    rfl
  case body =>
    obtain ⟨t, a, b, z, g, ps, qs, rfl, r1, r2, hz, k⟩ := h
    refine ⟨_, pss_cons (ps_expr (pd_call (df_check_order T) (hr.mono (by decide)) (by rfl) T.g_check_order (pa_cons (pv 0) (pa_cons (pv 1) pa_nil)))) (pss_cons (ps_expr (pd_call (df_check_order T) (hr.mono (by decide)) (by rfl) T.g_check_order (pa_cons (pv 0) (pa_cons (pv 2) pa_nil))))
      (pss_cons (ps_expr (pd_call (df_check_kind T) (hr.mono (by decide)) (by rfl) T.g_check_kind (pa_cons (pv 3) pa_nil))) (pss_cons (ps_expr (pd_call (df_check_right T) (hr) (by rfl) T.g_check_right (pa_cons (pv 0) (pa_cons (pv 1) (pa_cons (pv 3) pa_nil)))))
      (pss_one (ps_expr (pd_call (df_check_right T) (hr) (by rfl) T.g_check_right (pa_cons (pv 0) (pa_cons (pv 2) (pa_cons (pv 3) pa_nil))))))))), ?_⟩
    refine ⟨_, rfl, _, rfl, t, a, g, ps, rfl, r1.tb, r1.od, r1.R, r1.len, r1.sub, fun H1 s1 => ?_⟩
    have q2 := r2.mono s1
    refine ⟨_, rfl, _, rfl, t, b, g, qs, rfl, q2.tb, q2.od, q2.R, q2.len, q2.sub, fun H2 s2 => ?_⟩
    refine ⟨_, rfl, z, rfl, hz, ?_⟩
    refine ⟨_, rfl, _, rfl, _, rfl, t, a, z, g, ps, rfl, r1.mono (s1.trans s2), hz, fun H3 s3 => ?_⟩
    exact ⟨_, rfl, _, rfl, _, rfl, t, b, z, g, qs, rfl, r2.mono (s1.trans (s2.trans s3)), hz, fun H4 s4 => k H4 (s1.trans (s2.trans (s3.trans s4)))⟩
end
end K55
set_option Elab.async false
set_option linter.all false
set_option maxRecDepth 100000
set_option maxHeartbeats 4000000
namespace K55
open PySem PySem.Spec PyProof.Rows L2
section
variable {P : Program} {w : World} {K : PySem.W.Frag} {mg : Str → Option Value} {base : Heap}
/-- the places of a list's pairs -/
def PlcTo (H : Hp) (d : Addr) (ps : List Pr) (n : Nat) : Prop := ∃ kvs : List (List L2.Key × V), H d = some (.dT kvs) ∧ kvs.length = n ∧ ∀ q, valV kvs (keyP q) = if q ∈ ps.take n then some (nV (ps.idxOf q)) else none
def PlcAt (H : Hp) (d : Addr) (ps : List Pr) : Prop := PlcTo H d ps ps.length
theorem PlcAt.get {H : Hp} {d b : Addr} {ps : List Pr} {q : Pr} (h : PlcAt H d ps) (hb : PrA H b q) (hq : q ∈ ps) : DGet H d (.ref b) (some (nV (ps.idxOf q))) := by
  obtain ⟨kvs, h1, h2, h3⟩ := h
  have e := h3 q
  rw [List.take_length, if_pos hq] at e
  rw [← e]
  exact DGet.t h1 hb
theorem PlcAt.mono {H H' : Hp} {d : Addr} {ps : List Pr} (h : PlcAt H d ps) (s : Same H H') : PlcAt H' d ps := by
  obtain ⟨kvs, h1, h2⟩ := h
  exact ⟨kvs, s _ _ h1, h2⟩
def spPlaces : Sp := fun vs H Q _ => ∃ (a : Addr) (ps : List Pr), vs = [.ref a] ∧ PrL H a ps ∧ ps.Nodup ∧ ps.length ≤ 36 ∧ ∀ (D : Addr) (H' : Hp), Same H H' → H D = none → PlcAt H' D ps → Q (.ref D) H'
theorem df_places_of (T : Txt K mg) : Def P w K mg base 1 (He.ga K "places_of") ["listed"] spPlaces := by
  obtain ⟨fd, F⟩ := T.D_places_of
  refine mkDef F sc_places_of (fun _ _ _ _ _ _ us hl => match us, hl with | [_], _ => rfl) (fun vs H Q E h => ?len) (fun cdv A outer s H vs Q E hr h => ?body)
  case len =>
    obtain ⟨a, ps, rfl, _⟩ := h
    rfl
  case body =>
    obtain ⟨a, ps, rfl, ha, hn, hz, k⟩ := h
    obtain ⟨as, e1, e2⟩ := id ha
    have hl : (as.map V.ref).length = ps.length := refs_len e2
    have hu := hu_of hr
    refine ⟨_, pss_one (ps_ret (pe_dcT (own := [("place", 1), ("pair", 2)]) (g := gTup K 2 (gCons (gName 1) (gCons (gName 2) gNil))) (tt := tYes) (tk := tVar 2) (tv := tVar 1) (wi := iEnum K (tCons (tVar 0) tNil)) rfl hu sc_places_of.nd (pi_enum (by rfl) T.f_enumerate (pa_cons (pv 0) pa_nil)) (blkOk_by (N := ["listed", "place", "pair"]) (sc := defScope s_places_of) (by decide +kernel))
        (fun _ _ _ _ _ => pg_tup (by rfl) (pgs_cons (pg_name (i := 1) sc_places_of.nd rfl (Or.inl rfl)) (pgs_cons (pg_name (i := 2) sc_places_of.nd rfl (Or.inl rfl)) pgs_nil))) (fun _ _ _ _ _ => pts_nil) (fun _ _ _ _ _ => pv 2) (fun _ _ _ _ _ => pv 1))), ?_⟩
    refine ⟨_, rfl, a, _, rfl, SqL.of e1, fun D hD => ?_⟩
    refine walk_by (walk_enum (K := K) (a := a) (xs := as.map V.ref)) (fun i H2 => Same H H2 ∧ PlcTo H2 D ps i) ⟨same_new hD, [], upd_same, rfl, fun q => by rw [List.take_zero]; rfl⟩ (fun i H2 _ p => SqL.of (p.1 _ _ e1)) ?_ ?_
    · rintro i x H2 H3 hi ⟨s, kvs, h1, h2, h3⟩ ⟨p, y1, y2, rfl, np, rfl, hy1, hy2⟩
      cases hy1
      obtain ⟨b, q, rfl, eq, rb⟩ := refs_at e2 hy2
      have s3 : Same H (upd H2 p (.tup [.int (i : Nat), .ref b])) := s.trans (same_new np)
      refine ⟨p, _, rfl, SqT.of upd_same, rfl, _, _, rfl, _, _, rfl, rfl, rfl, yesT ⟨.ref b, rfl, .int (i : Nat), rfl, ?_⟩⟩
      have hv : valV kvs (keyP q) = none := by
        rw [h3 q, if_neg (not_in_take hn eq (Nat.le_refl i))]
      have hi36 : i < ps.length := (List.getElem?_eq_some_iff.mp eq).1
      refine ⟨kvs, keyP q, b, rfl, s3 _ _ rb, upd_keep h1 np, small1000 (by omega), same_upd s3 hD, _, upd_same, ?_, fun q' => ?_⟩
      · rw [putK_new _ hv, List.length_append, h2]; rfl
      · rw [valV_put, take_snoc eq]
        by_cases e : q' = q
        · subst e
          rw [if_pos rfl, if_pos (List.mem_append_right _ (List.mem_singleton.mpr rfl)), idxOf_at hn eq]
          rfl
        · rw [if_neg (fun z => e (keyP_inj z)), h3 q']
          by_cases m : q' ∈ ps.take i
          · rw [if_pos m, if_pos (List.mem_append_left _ m)]
          · rw [if_neg m, if_neg (fun z => (List.mem_append.mp z).elim m (fun w => e (List.mem_singleton.mp w)))]
    · rintro H2 ⟨s, hp⟩
      rw [hl] at hp
      exact k D H2 s hD hp
theorem paired_drop {α β : Type} {F : α → β → Prop} : ∀ {l : List α} {m : List β}, Paired F l m → ∀ n, Paired F (l.drop n) (m.drop n)
  | _, _, h, 0 => h
  | _, _, .nil, _ + 1 => .nil
  | _, _, .cons _ t, n + 1 => paired_drop t n
theorem paired_take {α β : Type} {F : α → β → Prop} : ∀ {l : List α} {m : List β}, Paired F l m → ∀ n, Paired F (l.take n) (m.take n)
  | _, _, _, 0 => .nil
  | _, _, .nil, _ + 1 => .nil
  | _, _, .cons r t, n + 1 => .cons r (paired_take t n)
/-- xs[k:] -/
theorem cut_from (xs : List V) (k : Nat) : cutV xs (some (k : Int)) none = xs.drop k := by
  unfold cutV
  rw [HT.sIx_nat, HT.sIx_none]
  by_cases h : k ≤ xs.length
  · rw [Nat.min_eq_left h, List.take_of_length_le (by rw [List.length_drop]; exact Nat.le_refl _)]
  · rw [Nat.min_eq_right (by omega), List.drop_length, List.drop_eq_nil_of_le (by omega), List.take_nil]
def invAt (two one : List Pr) : Nat := inv (fun q => two.idxOf q) one
def spUnlike (K : PySem.W.Frag) : Sp := fun vs H Q _ => ∃ (a b : Addr) (ps qs : List Pr), vs = [.ref a, .ref b] ∧ OrdAt K H a ps ∧ OrdAt K H b qs ∧ ps.Perm qs ∧ ps.Nodup ∧ ps.length ≤ 36 ∧ ∀ H' : Hp, Same H H' → Q (.int (invAt qs ps : Nat)) H'
theorem inv_cons {two : List Pr} {ps : List Pr} {i : Nat} {q : Pr} (h : ps[i]? = some q) : invAt two (ps.drop i) = (ps.drop (i + 1)).countP (fun y => decide (two.idxOf y < two.idxOf q)) + invAt two (ps.drop (i + 1)) := by
  obtain ⟨hl, e⟩ := List.getElem?_eq_some_iff.mp h
  rw [List.drop_eq_getElem_cons hl, e]
  rfl
theorem cnt_cons {l : List Pr} {i : Nat} {q : Pr} (f : Pr → Bool) (h : l[i]? = some q) : (l.drop i).countP f = (if f q = true then 1 else 0) + (l.drop (i + 1)).countP f := by
  obtain ⟨hl, e⟩ := List.getElem?_eq_some_iff.mp h
  rw [List.drop_eq_getElem_cons hl, e, List.countP_cons, Nat.add_comm]
theorem df_unlike (T : Txt K mg) : Def P w K mg base 2 (He.ga K "unlike") ["one", "other"] (spUnlike K) := by
  obtain ⟨fd, F⟩ := T.D_unlike
  refine mkDef F sc_unlike (fun _ _ _ _ _ _ us hl => match us, hl with | [_, _], _ => rfl) (fun vs H Q E h => ?len) (fun cdv A outer s H vs Q E hr h => ?body)
  case len =>
    obtain ⟨a, b, ps, qs, rfl, _⟩ := h
    rfl
  case body =>
    obtain ⟨a, b, ps, qs, rfl, ha, hb, hpm, hn, hz, k⟩ := h
    have hu := hu_of hr
    refine ⟨_, pss_cons (ps_set (i := 2) sc_unlike.nd rfl (Or.inl rfl) (pd_meth0 (pv 0) T.c_Order T.m_O_pairs (df_O_pairs T) hr)) (pss_cons (ps_set (i := 3) sc_unlike.nd rfl (Or.inl rfl) (pd_call (df_places_of T) (hr) (by rfl) T.g_places_of (pa_cons (pd_meth0 (pv 1) T.c_Order T.m_O_pairs (df_O_pairs T) hr) pa_nil)))
      (pss_cons (ps_if (pt_cmpR op_ne (pe_callB call_len_dT (by rfl) T.f_len (by decide +kernel) (pa_cons (pv 3) pa_nil)) (pe_callB (r := rLenOf K) (id := "len") call_len_seq (by rfl) T.f_len (by decide +kernel) (pa_cons (pv 2) pa_nil)) (nomark _)) pss_never pss_nil)
      (pss_cons (ps_for PassesOwn.never rfl (pi_list (pv 2)) (pg_name (i := 4) sc_unlike.nd rfl (Or.inl rfl)) (pss_one (ps_if (pt_cmp (pc_dnotin hu (pv 4) (pv 3))) pss_never pss_nil)))
      (pss_cons (ps_set (i := 5) sc_unlike.nd rfl (Or.inl rfl) (pe_int))
      (pss_cons (ps_for PassesOwn.never rfl (pi_enum (by rfl) T.f_enumerate (pa_cons (pv 2) pa_nil)) (pg_tup (by rfl) (pgs_cons (pg_name (i := 6) sc_unlike.nd rfl (Or.inl rfl)) (pgs_cons (pg_name (i := 4) sc_unlike.nd rfl (Or.inl rfl)) pgs_nil))) (pss_one (ps_for PassesOwn.never rfl (pi_list (pe_slice sl_list (pv 2) (po_some (pe_op op_add (pv 6) pe_int)) po_none)) (pg_name (i := 7) sc_unlike.nd rfl (Or.inl rfl))
        (pss_one (ps_if (pt_cmpR op_lt (pe_dget hu (pv 3) (pv 7) (fun _ _ => rfl)) (pe_dget hu (pv 3) (pv 4) (fun _ _ => rfl)) (nomark _)) (pss_one (ps_aug (i := 5) sc_unlike.nd rfl (Or.inl rfl) pe_int ip_add)) pss_nil)))))
      (pss_one (ps_ret (pv 5)))))))), ?_⟩
    obtain ⟨dx, l, d0, o1, o2⟩ := id ha
    refine ⟨_, rfl, a, dx, _, rfl, o1, ofs_no l d0 (by decide +kernel) (by decide +kernel), a, ps, rfl, ha, fun L H1 n1 => ?_⟩
    have hb1 := hb.mono n1.same
    obtain ⟨dx2, l2, d2, p1, p2⟩ := id hb1
    refine ⟨_, rfl, b, dx2, _, rfl, p1, ofs_no l2 d2 (by decide +kernel) (by decide +kernel), b, qs, rfl, hb1, fun L2 H2 n2 => ?_⟩
    have hzq : qs.length ≤ 36 := by rw [← hpm.length_eq]; exact hz
    refine ⟨L2, qs, rfl, n2.at_, hpm.nodup_iff.mp hn, hzq, fun D H3 s3 hD plc => ?_⟩
    have s13 : Same H1 H3 := n2.same.trans s3
    obtain ⟨as, e1, e2⟩ := PrL.mono n1.at_ s13
    have hl : (as.map V.ref).length = ps.length := refs_len e2
    obtain ⟨kvs, k1, k2, k3⟩ := id plc
    refine ⟨_, rfl, D, kvs, rfl, k1, _, rfl, L, _, rfl, Or.inl (SqL.of e1), rfl, _, rfl, ?_⟩
    rw [hl, k2, hpm.length_eq]
    refine iteNS rfl ?_
    refine ⟨_, rfl, L, rfl, ⟨_, SqL.of e1⟩, for_it (walk_list (K := K) (a := L) (xs := as.map V.ref)) (fun i σ H4 => H4 = H3 ∧ ∃ v, σ = [some (.ref a), some (.ref b), some (.ref L), some (.ref D), v, none, none, none]) ⟨rfl, none, rfl⟩ (fun i σ H4 _ p => by rw [p.1]; exact SqL.of e1) ?_ ?_⟩
    · rintro i x σ H4 H5 hi ⟨rfl, v, rfl⟩ ⟨rfl, hx⟩
      obtain ⟨c, q, rfl, eq, rc⟩ := refs_at e2 hx
      refine ⟨_, rfl, _, rfl, D, _, rfl, plc.get rc (hpm.mem_iff.mp (List.mem_of_getElem? eq)), _, rfl, iteF ?_⟩
      exact ⟨rfl, _, rfl⟩
    rintro σ H4 ⟨rfl, v, rfl⟩
    refine ⟨_, rfl, L, _, rfl, SqL.of e1, for_it (walk_enum (K := K) (a := L) (xs := as.map V.ref)) (fun i σ H5 => Same H4 H5 ∧ ∃ (v u w : Option V) (n : Nat), n + invAt qs (ps.drop i) = invAt qs ps ∧ σ = [some (.ref a), some (.ref b), some (.ref L), some (.ref D), v, some (.int (n : Nat)), u, w]) ⟨Same.refl _, _, none, none, 0, by simp, rfl⟩ (fun i σ H5 _ p => SqL.of (p.1 _ _ e1)) ?_ ?_⟩
    · rintro i x σ H5 H6 hi ⟨s5, v, u, w, n, hni, rfl⟩ ⟨p, y1, y2, rfl, np, rfl, hy1, hy2⟩
      cases hy1
      obtain ⟨c, q, rfl, eq, rc⟩ := refs_at e2 hy2
      have s6 : Same H4 (upd H5 p (.tup [.int (i : Nat), .ref c])) := s5.trans (same_new np)
      refine ⟨p, _, rfl, SqT.of upd_same, rfl, _, _, rfl, _, _, rfl, rfl, ?_⟩
      refine ⟨_, rfl, _, rfl, _, _, rfl, rfl, _, rfl, L, _, rfl, SqL.of (s6 _ _ e1), fun R hR => ?_⟩
      rw [show ((i : Nat) : Int) + 1 = ((i + 1 : Nat) : Int) from rfl, cut_from, ← List.map_drop]
      have s7 := s6.trans (same_new (o := .lst ((as.drop (i + 1)).map V.ref)) hR)
      have e2' : Paired (PrA H4) (as.drop (i + 1)) (ps.drop (i + 1)) := paired_drop e2 _
      have hil : i < ps.length := (List.getElem?_eq_some_iff.mp eq).1
      rw [inv_cons eq] at hni
      have hl2 : ((as.drop (i + 1)).map V.ref).length = (ps.drop (i + 1)).length := refs_len e2'
      refine ⟨R, rfl, ⟨_, SqL.of upd_same⟩, for_it (walk_list (K := K) (a := R) (xs := (as.drop (i + 1)).map V.ref)) (fun j σ H7 => Same H4 H7 ∧ H7 R = some (.lst ((as.drop (i + 1)).map V.ref)) ∧ ∃ (w : Option V) (m : Nat), m + ((ps.drop (i + 1)).drop j).countP (fun y => decide (qs.idxOf y < qs.idxOf q)) + invAt qs (ps.drop (i + 1)) = invAt qs ps ∧ σ = [some (.ref a), some (.ref b), some (.ref L), some (.ref D), some (.ref c), some (.int (m : Nat)), some (.int (i : Nat)), w])
        ⟨s7, upd_same, w, n, by rw [List.drop_zero]; omega, rfl⟩ (fun j σ H7 _ p => SqL.of p.2.1) ?_ ?_⟩
      · rintro j y σ H7 H8 hj ⟨s8, r8, w, m, hm, rfl⟩ ⟨rfl, hy⟩
        obtain ⟨f, q2, rfl, eq2, rf⟩ := refs_at e2' hy
        have m1 : q2 ∈ qs := hpm.mem_iff.mp (List.mem_of_mem_drop (List.mem_of_getElem? eq2))
        have m2 : q ∈ qs := hpm.mem_iff.mp (List.mem_of_getElem? eq)
        have plc8 := plc.mono s8
        refine ⟨_, rfl, _, rfl, D, _, rfl, plc8.get (s8 _ _ rf) m1, _, rfl, _, rfl, D, _, rfl, plc8.get (s8 _ _ rc) m2, _, _, rfl, rfl, _, rfl, ?_⟩
        rw [cnt_cons _ eq2] at hm
        by_cases hlt : qs.idxOf q2 < qs.idxOf q
        · rw [decide_eq_true (show ((qs.idxOf q2 : Nat) : Int) < (qs.idxOf q : Nat) by omega)]
          rw [if_pos (decide_eq_true hlt)] at hm
          exact iteT ⟨_, rfl, _, _, rfl, rfl, s8, r8, _, m + 1, by omega, rfl⟩
        · rw [decide_eq_false (show ¬ ((qs.idxOf q2 : Nat) : Int) < (qs.idxOf q : Nat) by omega)]
          rw [if_neg (by simpa using hlt)] at hm
          exact iteF ⟨s8, r8, _, m, by omega, rfl⟩
      · rintro σ H7 ⟨s8, r8, w, m, hm, rfl⟩
        rw [hl2, List.drop_length] at hm
        exact ⟨s8, _, _, _, m, by simpa using hm, rfl⟩
    · rintro σ H5 ⟨s5, v, u, w, n, hn2, rfl⟩
      rw [hl, List.drop_length] at hn2
      have hn2 : n + 0 = invAt qs ps := hn2
      refine ⟨_, rfl, ?_⟩
      rw [show n = invAt qs ps by omega]
      exact k _ (n1.same.trans (s13.trans s5))
end
end K55
set_option Elab.async false
set_option linter.all false
set_option maxRecDepth 100000
set_option maxHeartbeats 4000000
namespace K55
open PySem PySem.Spec PyProof.Rows L2
section
variable {P : Program} {w : World} {K : PySem.W.Frag} {mg : Str → Option Value} {base : Heap}
theorem hu65_of {A : Around} {k : Nat} (hr : Room k A) : A.units + 65 < cLine := by have := hr.un; omega
/-! pairs as data -/
def pD (p : Pr) : PyData := .tuple [.int p.1, .int p.2]
theorem pD_eqv (p q : Pr) : PyData.eqv (pD p) (pD q) = decide (p = q) := by
  obtain ⟨a, b⟩ := p
  obtain ⟨c, d⟩ := q
  unfold pD
  simp only [PyData.eqv, PyData.eqvAll, Bool.and_true]
  by_cases e : (a, b) = (c, d)
  · obtain ⟨rfl, rfl⟩ := Prod.mk.inj e
    simp
  · rw [decide_eq_false e]
    by_cases e1 : a = c
    · have e2 : ¬ b = d := fun z => e (by rw [e1, z])
      simp [e2]
      omega
    · simp
      omega
theorem pD_lay (p : Pr) : (pD p).canLay0 = true := by
  unfold pD
  simp only [PyData.canLay0, PyData.canLayAll0, Bool.and_true]
theorem pD_depth (p : Pr) : (pD p).depth = 1 := by
  unfold pD
  simp only [PyData.depth, PyData.depthAll]
  rfl
theorem pD_shaped (p : Pr) : SeqAt.shaped (pD p) = true := by
  unfold SeqAt.shaped
  rw [pD_lay, pD_depth]
  rfl
theorem pDs_lay : ∀ ps : List Pr, PyData.canLayAll0 (ps.map pD) = true
  | [] => by simp only [List.map_nil, PyData.canLayAll0]
  | p :: ps => by
    simp only [List.map_cons, PyData.canLayAll0, pD_lay, pDs_lay ps, Bool.and_true]
theorem pDs_depth : ∀ ps : List Pr, PyData.depthAll (ps.map pD) ≤ 1
  | [] => by simp only [List.map_nil, PyData.depthAll]; exact Nat.zero_le _
  | p :: ps => by
    simp only [List.map_cons, PyData.depthAll, pD_depth]
    exact Nat.max_le.mpr ⟨Nat.le_refl _, pDs_depth ps⟩
theorem pDs_shaped (ps : List Pr) : SeqAt.shaped (.list (ps.map pD)) = true := by
  unfold SeqAt.shaped
  rw [Bool.and_eq_true]
  refine ⟨?_, decide_eq_true ?_⟩
  · simp only [PyData.canLay0]
    exact pDs_lay ps
  · simp only [PyData.depth]
    have := pDs_depth ps
    omega
theorem dp_pr {H : Hp} {a : Addr} {p : Pr} (h : PrA H a p) : Dp K H (.ref a) (pD p) := .tup (SqT.of h) (.cons (.int _) (.cons (.int _) .nil))
theorem dp_all {H : Hp} : ∀ {as : List Addr} {ps : List Pr}, Paired (PrA H) as ps → DpAll K H (as.map V.ref) (ps.map pD)
  | _, _, .nil => .nil
  | _, _, .cons h t => .cons (dp_pr h) (dp_all t)
theorem dp_list {H : Hp} {a : Addr} {ps : List Pr} (h : PrL H a ps) : Dp K H (.ref a) (.list (ps.map pD)) := by
  obtain ⟨as, h1, h2⟩ := h
  exact .lst (SqL.of h1) (dp_all h2)
/-- l.index(p) of a list of pairs, each once -/
theorem index_ok {H : Hp} {a b : Addr} {ps : List Pr} {q : Pr} {Q : VK} (h : PrL H a ps) (hb : PrA H b q) (hn : ps.Nodup) (hq : q ∈ ps) (k : Q (.int (ps.idxOf q : Nat)) H) : rIndexD K (.ref a) [.ref b] H Q := by
  have hl := List.idxOf_lt_length_of_mem hq
  refine ⟨a, _, pD q, ps.map pD, ps.idxOf q, pD q, rfl, rfl, dp_list h, dp_pr hb, pDs_shaped ps, pD_shaped q, ?_, by rw [pD_eqv]; simp, fun m z hm hz => ?_, k⟩
  · rw [List.getElem?_map, List.getElem?_eq_getElem hl, List.getElem_idxOf]; rfl
  · rw [List.getElem?_map] at hz
    cases e : ps[m]? with
    | none => rw [e] at hz; cases hz
    | some q' =>
      rw [e] at hz
      have hz : pD q' = z := Option.some.inj hz
      rw [← hz, pD_eqv, decide_eq_false]
      intro z2
      rw [z2] at e
      have := idxOf_at hn e
      omega
theorem ixN_nat {n k : Nat} (h : k < n) : ixN n ((k : Nat) : Int) = some k := by
  unfold ixN
  rw [if_pos (by omega), if_pos (by omega), Int.toNat_natCast]
theorem paired_set {α β : Type} {F : α → β → Prop} : ∀ {l : List α} {m : List β} {x : α} {y : β}, Paired F l m → F x y → ∀ n, Paired F (l.set n x) (m.set n y)
  | _, _, _, _, .nil, _, _ => .nil
  | _, _, _, _, .cons _ t, r, 0 => .cons r t
  | _, _, _, _, .cons h t, r, n + 1 => .cons h (paired_set t r n)
theorem inv_le (idx : Pr → Nat) : ∀ l : List Pr, inv idx l ≤ l.length * l.length
  | [] => Nat.zero_le _
  | x :: l => by
    have h1 := inv_le idx l
    have h2 : l.countP (fun y => decide (idx y < idx x)) ≤ l.length := List.countP_le_length
    show l.countP _ + inv idx l ≤ (l.length + 1) * (l.length + 1)
    have e : (l.length + 1) * (l.length + 1) = l.length * l.length + l.length + (l.length + 1) := by
      rw [Nat.succ_mul, Nat.mul_succ]
    omega
theorem invAt_le {qs ps : List Pr} (h : ps.length ≤ 36) : invAt qs ps ≤ 1296 := Nat.le_trans (inv_le _ _) (Nat.mul_le_mul h h)
/-- two lists of our own in front of the heap: the order that is being changed, the exchanges told -/
structure LedH (H : Hp) (p e : Addr) (now : List Pr) (told : List Nat) (H2 : Hp) : Prop where
  same : Same H (Wo H2 [p, e])
  ls : ∃ as : List Addr, H2 p = some (.lst (as.map V.ref)) ∧ Paired (PrA (Wo H2 [p, e])) as now
  ex : H2 e = some (.lst (told.map nV))
theorem LedH.sm {H : Hp} {p e : Addr} {now : List Pr} {told : List Nat} {H2 : Hp} (h : LedH H p e now told H2) : Same H H2 := h.same.trans (Wo_same _ _)
theorem LedH.mono {H : Hp} {p e : Addr} {now : List Pr} {told : List Nat} {H2 H3 : Hp} (h : LedH H p e now told H2) (s : Same H2 H3) : LedH H p e now told H3 := by
  obtain ⟨h1, ⟨as, h2, h3⟩, h4⟩ := h
  exact ⟨h1.trans (Wo_of s), ⟨as, s _ _ h2, Paired.mapP h3 fun b y z => (Wo_of s) _ _ z⟩, s _ _ h4⟩
theorem LedH.prl {H : Hp} {p e : Addr} {now : List Pr} {told : List Nat} {H2 : Hp} (h : LedH H p e now told H2) : PrL H2 p now := by
  obtain ⟨h1, ⟨as, h2, h3⟩, h4⟩ := h
  exact ⟨as, h2, Paired.mapP h3 fun b y z => Wo_same _ _ _ _ z⟩
theorem LedH.start {H1 H2 H4 : Hp} {p e : Addr} {ps : List Pr} (n : NewL PrA H1 p ps H2) (he : H2 e = none) (s : Same (upd H2 e (.lst [])) H4) : LedH (Wo H4 [p, e]) p e ps [] H4 ∧ Same H1 (Wo H4 [p, e]) := by
  obtain ⟨as, h1, h2⟩ := n.at_
  have s2 : Same H2 H4 := (same_new he).trans s
  refine ⟨⟨Same.refl _, ⟨as, s2 _ _ h1, Paired.mapP h2 fun b y z => ?_⟩, s _ _ upd_same⟩, fun b o q => ?_⟩
  · have z : H2 b = some (.tup (tupP y)) := z
    show Wo H4 [p, e] b = _
    rw [Wo_out]
    · exact s2 _ _ z
    · intro m
      rcases List.mem_cons.mp m with m | m
      · rw [m, h1] at z; cases z
      · rw [List.mem_singleton.mp m, he] at z; cases z
  · rw [Wo_out]
    · exact s2 _ _ (n.same _ _ q)
    · intro m
      rcases List.mem_cons.mp m with m | m
      · rw [m, n.new] at q; cases q
      · have q2 := n.same _ _ q
        rw [List.mem_singleton.mp m, he] at q2; cases q2
theorem LedH.put {H : Hp} {p e : Addr} {now now' : List Pr} {told told' : List Nat} {H2 : Hp} (L : LedH H p e now told H2) (ne : p ≠ e) (o1 : HO) {as' : List Addr} (h' : Paired (PrA (Wo H2 [p, e])) as' now') :
    LedH H p e now' told' (upd (upd (upd H2 p o1) p (.lst (as'.map V.ref))) e (.lst (told'.map nV))) := by
  have m1 : p ∈ [p, e] := List.mem_cons_self
  have m2 : e ∈ [p, e] := List.mem_cons_of_mem _ (List.mem_singleton.mpr rfl)
  have eW : Wo (upd (upd (upd H2 p o1) p (.lst (as'.map V.ref))) e (.lst (told'.map nV))) [p, e] = Wo H2 [p, e] := by
    rw [Wo_upd m2, Wo_upd m1, Wo_upd m1]
  refine ⟨by rw [eW]; exact L.same, ⟨as', by rw [upd_ne ne, upd_same], by rw [eW]; exact h'⟩, upd_same⟩
def spLed (K : PySem.W.Frag) : Sp := fun vs H Q _ => ∃ (t a b : Addr) (z : Str) (g : Grid) (ps qs : List Pr), vs = [.ref t, .ref a, .ref b, .str z] ∧ RightAt K H t a z g ps ∧ RightAt K H t b z g qs ∧ z ∈ kindsS ∧
  ∀ (e : Addr) (H' : Hp) (told : List Nat), Same H H' → H e = none → H' e = some (.lst (told.map nV)) → Lead (nds g (kcol z) (krow z)) ps told qs → told.length = invAt qs ps → Q (.ref e) H'
theorem df_led (T : Txt K mg) : ∃ fd, FnOk P w K mg base CX0 10 (He.ga K "led") fd ["table", "one", "other", "kind"] (spLed K) ∧ KBn K fd ["table", "one", "other", "kind"] 3 ["kind"] (fun us ws => us ++ ws) (fun vs zs => vs ++ zs) ∧
    (∃ ds, Vals [V.str "even"] ds ∧ Binds K fd ["table", "one", "other", "kind"] ds) ∧ PySem.W.keepIn K (.ref (He.ga K "led")) = true := by
  obtain ⟨fd, F⟩ := T.D_led
  refine ⟨fd, F.ok sc_led (fun vs H Q E h => ?len) (fun cdv A outer s H vs Q E hr h => ?body), ?kb, ?kd, F.kp⟩
  case kd =>
    refine F.binds0 3 (by simp) rfl fun D doc pm an cdv ct us ks l1 l2 => ?_
    match us, ks, l1, l2 with
    | [_, _, _], [_], _, _ => exact ⟨_, _, _, _, _, _, rfl, rfl, rfl⟩
  case kb =>
    obtain ⟨oc, od, dV, kV, doc, pm, an, cdv, ct, osl, rfl, lk, hcd, hD, hK⟩ := F.ex
    refine ⟨fun s us ws X l1 l2 => ?_, fun r1 r2 => r1.append r2⟩
    rcases hD with ⟨_, rfl⟩ | ⟨e, _⟩
    · match us, ws, l1, l2 with
      | [_, _, _], [_], _, _ => exact .of_eq rfl
    · exact absurd rfl e
  case len =>
    obtain ⟨t, a, b, z, g, ps, qs, rfl, _⟩ := h
    rfl
  case body =>
    obtain ⟨t, a, b, z, g, ps, qs, rfl, r1, r2, hz, k⟩ := h
    have hu := hu_of hr
    refine ⟨_, PSs.nox (pss_cons (ps_expr (pd_call (df_check_both T) (hr) (by rfl) T.g_check_both (pa_cons (pv 0) (pa_cons (pv 1) (pa_cons (pv 2) (pa_cons (pv 3) pa_nil)))))) (pss_cons (ps_set (i := 4) sc_led.nd rfl (Or.inl rfl) (pd_meth0 (pv 1) T.c_Order T.m_O_pairs (df_O_pairs T) (hr.mono (by decide))))
      (pss_cons (ps_set (i := 5) sc_led.nd rfl (Or.inl rfl) (pe_lst pa_nil))
      (pss_cons (ps_for PassesOwn.never rfl (pi_enum (by rfl) T.f_enumerate (pa_cons (pd_meth0 (pv 2) T.c_Order T.m_O_pairs (df_O_pairs T) (hr.mono (by decide))) pa_nil)) (pg_tup (by rfl) (pgs_cons (pg_name (i := 6) sc_led.nd rfl (Or.inl rfl)) (pgs_cons (pg_name (i := 7) sc_led.nd rfl (Or.inl rfl)) pgs_nil)))
        (pss_cons (ps_set (i := 8) sc_led.nd rfl (Or.inl rfl) (pe_bm PySem.F.plainAttrs_list PySem.F.slot_list_index PySem.F.type_list_index (mt_indexD (hu65_of hr)) (pv 4) (pa_cons (pv 7) pa_nil)))
        (pss_one (ps_while PassesOwn.never (pt_cmpR op_gt (pv 8) (pv 6) (nomark _))
          (pss_cons (ps_asg (pe_ix (r := rIxL K) ix_list (pv 4) (pe_op op_sub (pv 8) pe_int) (fun _ _ => rfl)) (pg_sub (pv 4) (pv 8) set_list))
          (pss_cons (ps_asg (pv 7) (pg_sub (pv 4) (pe_op op_sub (pv 8) pe_int) set_list))
          (pss_cons (ps_aug (i := 8) sc_led.nd rfl (Or.inl rfl) pe_int ip_sub)
          (pss_one (ps_expr (pe_bm PySem.F.plainAttrs_list PySem.F.slot_list_append PySem.F.type_list_append mt_append (pv 5) (pa_cons (pv 8) pa_nil)))))))))))
      (pss_one (ps_ret (pv 5))))))), ?_⟩
    refine ⟨_, rfl, _, rfl, _, rfl, _, rfl, t, a, b, z, g, ps, qs, rfl, r1, r2, hz, fun H1 s1 => ?_⟩
    have o1 := r1.od.mono s1
    obtain ⟨dx, l, d0, q1, q2⟩ := id o1
    refine ⟨_, rfl, a, dx, _, rfl, q1, ofs_no l d0 (by decide +kernel) (by decide +kernel), a, ps, rfl, o1, fun p H2 n2 => ?_⟩
    refine ⟨Nat.zero_le _, fun e he => ?_⟩
    have o2 := r2.od.mono (s1.trans (n2.same.trans (same_new (o := .lst []) he)))
    obtain ⟨dx2, l2, d2, p1, p2⟩ := id o2
    refine ⟨_, rfl, b, dx2, _, rfl, p1, ofs_no l2 d2 (by decide +kernel) (by decide +kernel), b, qs, rfl, o2, fun c H4 n4 => ?_⟩
    obtain ⟨cs, c1, c2⟩ := n4.at_
    have hep : p ≠ e := fun y => by
      obtain ⟨as, h1, _⟩ := n2.at_
      rw [y, he] at h1; cases h1
    obtain ⟨L0, sB⟩ := LedH.start n2 he n4.same
    have hcp : c ∉ [p, e] := fun m => by
      have w := n4.new
      rcases List.mem_cons.mp m with m | m
      · obtain ⟨as, h1, _⟩ := n2.at_
        rw [m, upd_ne hep, h1] at w; cases w
      · rw [List.mem_singleton.mp m, upd_same] at w; cases w
    have c1' : Wo H4 [p, e] c = some (.lst (cs.map V.ref)) := by rw [Wo_out hcp]; exact c1
    have c2' : Paired (PrA (Wo H4 [p, e])) cs qs := Paired.mapP c2 fun x y w => by
      have w : H4 x = some (.tup (tupP y)) := w
      show Wo H4 [p, e] x = _
      rw [Wo_out]
      · exact w
      · intro m
        rcases List.mem_cons.mp m with m | m
        · obtain ⟨as, h1, _⟩ := L0.ls
          rw [m, h1] at w; cases w
        · rw [List.mem_singleton.mp m, L0.ex] at w; cases w
    generalize Wo H4 [p, e] = B at L0 sB c1' c2'
    have hl : (cs.map V.ref).length = qs.length := refs_len c2'
    have hpm : ps.Perm qs := ord_perm r1.right r2.right
    have hle : invAt qs ps ≤ 1296 := invAt_le r1.le
    refine ⟨c, _, rfl, SqL.of c1, for_it (walk_enum (K := K) (a := c) (xs := cs.map V.ref)) (fun i σ H5 => ∃ (now : List Pr) (told : List Nat), LedH B p e now told H5 ∧ LedI (nds g (kcol z) (krow z)) ps qs i now told ∧ ∃ u v w, σ = [some (.ref t), some (.ref a), some (.ref b), some (.str z), some (.ref p), some (.ref e), u, v, w])
      ⟨ps, [], L0, ledI_start _ _ _, none, none, none, rfl⟩ (fun i σ H5 _ hp => by obtain ⟨now, told, L, _⟩ := hp; exact SqL.of (L.sm _ _ c1')) ?_ ?_⟩
    · rintro i x σ H5 H6 hi ⟨now, told, L5, I5, u, v, w, rfl⟩ ⟨y, y1, y2, rfl, ny, rfl, hy1, hy2⟩
      cases hy1
      obtain ⟨c', q, rfl, eq, rb⟩ := refs_at c2' hy2
      have L6 := L5.mono (same_new (o := .tup [.int (i : Nat), .ref c']) ny)
      refine ⟨y, _, rfl, SqT.of upd_same, rfl, _, _, rfl, _, _, rfl, rfl, ?_⟩
      have hnow : now.Nodup := (I5.perm.trans hpm).nodup_iff.mpr r2.right.nodup
      have hq : q ∈ now := (I5.perm.trans hpm).mem_iff.mpr (List.mem_of_getElem? eq)
      obtain ⟨W0, hlt0⟩ := ledW_start r2.right.nodup hpm I5 eq
      have hiq : i < qs.length := (List.getElem?_eq_some_iff.mp eq).1
      refine ⟨_, rfl, Or.inl ⟨rfl, _, SqL.of L6.prl.choose_spec.1⟩, _, rfl, ?_⟩
      unfold tNil
      show rIndexD K (.ref p) [.ref c'] _ _
      refine index_ok L6.prl (L6.sm _ _ rb) hnow hq ?_
      refine ⟨fun m σ H7 => ∃ (now : List Pr) (told : List Nat), LedH B p e now told H7 ∧ LedW (nds g (kcol z) (krow z)) ps qs i m now told ∧ m < now.length ∧ σ = [some (.ref t), some (.ref a), some (.ref b), some (.str z), some (.ref p), some (.ref e), some (.int (i : Nat)), some (.ref c'), some (.int (m : Nat))],
        ⟨_, now, told, L6, W0, hlt0, rfl⟩, ?_⟩
      rintro m σ H7 ⟨now, told, L7, W7, hlt, rfl⟩
      refine ⟨_, rfl, _, rfl, _, _, rfl, rfl, _, rfl, ?_⟩
      by_cases him : i < m
      · rw [decide_eq_true (show ((i : Nat) : Int) < (m : Nat) by omega)]
        obtain ⟨k, rfl⟩ : ∃ k, m = k + 1 := ⟨m - 1, by omega⟩
        have ek : ((k + 1 : Nat) : Int) - 1 = (k : Nat) := by omega
        refine iteT ⟨fun σ H7 => ∃ (now : List Pr) (told : List Nat), LedH B p e now told H7 ∧ LedW (nds g (kcol z) (krow z)) ps qs i k now told ∧ k < now.length ∧ σ = [some (.ref t), some (.ref a), some (.ref b), some (.str z), some (.ref p), some (.ref e), some (.int (i : Nat)), some (.ref c'), some (.int (k : Nat))],
          fun σ' H' w => ⟨k, by omega, w⟩, ?_⟩
        obtain ⟨as, a1, a2⟩ := L7.ls
        have hla : as.length = now.length := Paired.length a2
        obtain ⟨a0, ha0⟩ : ∃ a0, now[k]? = some a0 := ⟨_, List.getElem?_eq_getElem (show k < now.length by omega)⟩
        have hb0 : now[k + 1]? = some q := by rw [W7.here, eq]
        obtain ⟨x1, hx1, rx1⟩ := Paired.at a2 ha0
        have hx1' : (as.map V.ref)[k]? = some (.ref x1) := by rw [List.getElem?_map, hx1]; rfl
        have rcW : PrA (Wo H7 [p, e]) c' q := L7.same _ _ rb
        refine ⟨_, rfl, _, rfl, _, _, rfl, rfl, ?_⟩
        dsimp only
        rw [ek]
        refine ⟨_, _, _, _, rfl, rfl, SqL.of a1, atI_nat hx1', ?_⟩
        refine ⟨_, rfl, _, rfl, p, _, _, _, rfl, rfl, a1, ixN_nat (by rw [List.length_map]; omega), ?_⟩
        refine ⟨_, rfl, _, rfl, _, rfl, _, _, rfl, rfl, ?_⟩
        dsimp only
        rw [ek]
        refine ⟨p, _, _, _, rfl, rfl, upd_same, ixN_nat (by rw [List.length_set, List.length_map]; omega), ?_⟩
        refine ⟨_, rfl, _, _, rfl, rfl, ?_⟩
        dsimp only
        rw [ek]
        have hex : (upd (upd H7 p (.lst ((as.map V.ref).set (k + 1) (.ref x1)))) p (.lst (((as.map V.ref).set (k + 1) (.ref x1)).set k (.ref c')))) e = some (.lst (told.map nV)) := by
          rw [upd_ne hep.symm, upd_ne hep.symm]; exact L7.ex
        refine ⟨_, rfl, Or.inl ⟨rfl, _, SqL.of hex⟩, _, rfl, e, _, _, rfl, rfl, hex, ?_, ?_⟩
        · rw [List.length_map]
          have := W7.cnt
          have hsz : 1297 < sizeLine := by decide
          unfold invAt at hle
          omega
        · have W8 := ledW_step r2.right hpm W7 him hlt ha0 hb0
          refine ⟨_, _, ?_, W8, by rw [List.length_set, List.length_set]; omega, rfl⟩
          rw [← List.map_set, ← List.map_set, show told.map nV ++ [V.int (k : Nat)] = (told ++ [k]).map nV by rw [List.map_append]; rfl]
          exact L7.put hep _ (paired_set (paired_set a2 rx1 _) rcW _)
      · rw [decide_eq_false (show ¬ ((i : Nat) : Int) < (m : Nat) by omega)]
        have hle2 := W7.le
        obtain rfl : m = i := by omega
        exact iteF ⟨now, told, L7, ledW_end hpm hiq W7, _, _, _, rfl⟩
    · rintro σ H5 ⟨now, told, L5, I5, u, v, w, rfl⟩
      rw [hl] at I5
      obtain ⟨e1, e2⟩ := ledI_end r2.right.nodup hpm I5
      refine ⟨_, rfl, ?_⟩
      have hHe : H e = none := s1.free (n2.same.free he)
      exact k e H5 told (s1.trans (sB.trans L5.sm)) hHe L5.ex e1 e2
end
end K55
set_option Elab.async false
set_option linter.all false
set_option maxRecDepth 100000
set_option maxHeartbeats 4000000
namespace K55
open PySem PySem.Spec PyProof.Rows L2
section
variable {P : Program} {w : World} {K : PySem.W.Frag} {mg : Str → Option Value} {base : Heap}
/-- for x in range(n) -/
theorem for_rng {k n slot : Nat} {tb : TS} {D : Ends} {σ : L2.St} {H : Hp} (e : k = n) (Pv : Nat → L2.St → Hp → Prop) (h0 : Pv 0 σ H)
    (hs : ∀ i σ H, i < n → Pv i σ H → tb { D with nx := Pv (i + 1), ct := Pv (i + 1), bk := D.nx } (σ.set slot (some (.int (i : Nat)))) H) (hd : ∀ σ H, Pv n σ H → D.nx σ H) :
    ∃ W : Nat → Nat → L2.St → Hp → Prop, (∃ m, W 0 m σ H) ∧ ∀ i m σ H, W i m σ H →
      ((Itr 0 k).stop i H ∧ D.nx σ H) ∨ ((Itr 0 k).go i H ∧ ∃ N : L2.St → Hp → Prop, (∀ σ' H', N σ' H' → ∃ m', m' < m ∧ W (i + 1) m' σ' H') ∧ ∀ x H', (Itr 0 k).yld i H x H' → gName slot x σ H' fun σ2 H2 => tb { D with nx := N, ct := N, bk := D.nx } σ2 H2) := by
  subst e
  refine for_it (walk_range (lo := 0) (n := k)) Pv h0 (fun _ _ _ _ _ => trivial) ?_ hd
  rintro i x σ H H' hi p ⟨rfl, rfl⟩
  show gName slot (V.int (0 + ((i : Nat) : Int))) _ _ _
  rw [zero_add_nat]
  exact hs i σ _ hi p
def spLSpots : Sp := fun vs H Q _ => ∃ (a : Addr) (g : Grid), vs = [.ref a] ∧ GA H a g ∧ Rect g ∧ ∀ (p : Addr) (H' : Hp), NewL PrA H p (spots g) H' → Q (.ref p) H'
theorem df_l_spots (T : Txt K mg) : Def P w K mg base 1 (He.ga K "_law_spots") ["_law_grid_here"] spLSpots := by
  obtain ⟨fd, F⟩ := T.D_l_spots
  refine mkDef F sc_l_spots (fun _ _ _ _ _ _ us hl => match us, hl with | [_], _ => rfl) (fun vs H Q E h => ?len) (fun cdv A outer s H vs Q E hr h => ?body)
  case len =>
    obtain ⟨a, g, rfl, _⟩ := h
    rfl
  case body =>
    obtain ⟨a, g, rfl, hg, R, k⟩ := h
    refine ⟨_, pss_cons (ps_set (i := 1) sc_l_spots.nd rfl (Or.inl rfl) (pe_lst pa_nil)) (pss_cons (ps_for PassesOwn.never rfl (pi_enum (by rfl) T.f_enumerate (pa_cons (pv 0) pa_nil)) (pg_tup (by rfl) (pgs_cons (pg_name (i := 2) sc_l_spots.nd rfl (Or.inl rfl)) (pgs_cons (pg_name (i := 3) sc_l_spots.nd rfl (Or.inl rfl)) pgs_nil))) (pss_one (ps_for PassesOwn.never rfl (pi_enum (by rfl) T.f_enumerate (pa_cons (pv 3) pa_nil)) (pg_tup (by rfl) (pgs_cons (pg_name (i := 4) sc_l_spots.nd rfl (Or.inl rfl)) (pgs_cons (pg_name (i := 5) sc_l_spots.nd rfl (Or.inl rfl)) pgs_nil)))
      (pss_one (ps_if (pt_cmpR op_notN (pv 5) pe_non (nomark _)) (pss_one (ps_expr (pe_bm PySem.F.plainAttrs_list PySem.F.slot_list_append PySem.F.type_list_append mt_append (pv 1) (pa_cons (pe_tup (pa_cons (pv 2) (pa_cons (pv 4) pa_nil))) pa_nil)))) pss_nil)))))
      (pss_one (ps_ret (pv 1)))), ?_⟩
    obtain ⟨as, e1, e2⟩ := id hg
    have hl : (as.map V.ref).length = g.length := refs_len e2
    obtain ⟨r1, r2, r3, r4, r5⟩ := id R
    refine ⟨Nat.zero_le _, fun D hD => ?_⟩
    have g0 : Grow PrA H D [] (upd H D (.lst [])) := Grow.start hD
    refine ⟨_, rfl, a, _, rfl, SqL.of (g0.sm _ _ e1), for_it (walk_enum (K := K) (a := a) (xs := as.map V.ref)) (fun i σ H2 => Grow PrA H D (spotsTo g i) H2 ∧ ∃ x y z w, σ = [some (.ref a), some (.ref D), x, y, z, w]) ⟨g0, _, _, _, _, rfl⟩ (fun i σ H2 _ p => SqL.of (p.1.sm _ _ e1)) ?_ ?_⟩
    · rintro i v σ H2 H3 hi ⟨p, x, y, z, w, rfl⟩ ⟨q, y1, y2, rfl, np, rfl, hy1, hy2⟩
      cases hy1
      obtain ⟨b, r, rfl, er, rb⟩ := refs_at e2 hy2
      have hrl : r.length = wid g := r5 r (List.mem_of_getElem? er)
      have p3 := p.mono mono_PrA (same_new (o := .tup [.int (i : Nat), .ref b]) np)
      refine ⟨q, _, rfl, SqT.of upd_same, rfl, _, _, rfl, _, _, rfl, rfl, ?_⟩
      have rb3 : RA (upd H2 q (.tup [.int (i : Nat), .ref b])) b r := mono_RA _ _ _ _ (p.sm.trans (same_new np)) rb
      refine ⟨_, rfl, b, _, rfl, SqL.of rb3, for_it (walk_enum (K := K) (a := b) (xs := r.map oV)) (fun j σ H4 => Grow PrA H D (spotsTo g i ++ rowTo i r j) H4 ∧ ∃ z w, σ = [some (.ref a), some (.ref D), some (.int (i : Nat)), some (.ref b), z, w]) ⟨?_, _, _, rfl⟩ (fun j σ H4 _ p4 => SqL.of (mono_RA _ _ _ _ p4.1.sm rb)) ?_ ?_⟩
      · show Grow PrA H D (spotsTo g i ++ []) _
        rw [List.append_nil]
        exact p3
      · rintro j v σ H4 H5 hj ⟨p4, z, w, rfl⟩ ⟨q5, z1, z2, rfl, np5, rfl, hz1, hz2⟩
        cases hz1
        have hjr : j < r.length := by rw [← len_oV r]; exact hj
        have hz2 : (r.map oV)[j]? = some z2 := hz2
        rw [row_at hjr] at hz2
        cases hz2
        have p5 := p4.mono mono_PrA (same_new (o := .tup [.int (j : Nat), oV (r.getD j none)]) np5)
        refine ⟨q5, _, rfl, SqT.of upd_same, rfl, _, _, rfl, _, _, rfl, rfl, ?_⟩
        refine ⟨_, rfl, rfl, _, rfl, ?_⟩
        rw [oV_non, Bool.not_not]
        by_cases hs : (r.getD j none).isSome = true
        · rw [hs]
          refine iteT ?_
          obtain ⟨acc, f1, f2⟩ := p5.lst
          refine ⟨_, rfl, Or.inl ⟨rfl, _, SqL.of f1⟩, _, rfl, _, rfl, (by show 2 ≤ sizeLine; decide), fun l hl5 => ?_⟩
          have p6 := p5.mono mono_PrA (same_new (o := .tup [.int (i : Nat), .int (j : Nat)]) hl5)
          refine ⟨D, acc, _, rfl, rfl, upd_keep f1 hl5, ?_, grow_row p6 (upd_keep f1 hl5) hs upd_same, _, _, rfl⟩
          rw [f2, List.length_append]
          have h1 := spotsTo_len (k := 6) (g := g) (fun row hr => by rw [r5 row hr]; exact r4) i (by omega)
          have h2 := rowTo_len i r j
          exact small1000 (by omega)
        · rw [Bool.not_eq_true] at hs
          rw [hs]
          exact iteF ⟨grow_row' p5 (by rw [hs]; decide), _, _, rfl⟩
      · rintro σ H4 ⟨p4, z, w, rfl⟩
        rw [len_oV, rowTo_all, show r = g.getD i [] by rw [List.getD_eq_getElem?_getD, er]; rfl, ← spotsTo_succ] at p4
        exact ⟨p4, _, _, _, _, rfl⟩
    · rintro σ H2 ⟨p, x, y, z, w, rfl⟩
      rw [hl, spotsTo_all] at p
      exact ⟨_, rfl, k D H2 ⟨p.sm, hD, p.end mono_PrA⟩⟩
def spLCopy : Sp := fun vs H Q _ => ∃ (a : Addr) (g : Grid), vs = [.ref a] ∧ GA H a g ∧ g.length ≤ 8 ∧ ∀ (p : Addr) (H' : Hp), NewL RA H p g H' → Q (.ref p) H'
theorem df_l_copy (T : Txt K mg) : Def P w K mg base 1 (He.ga K "_law_copy") ["_law_grid_here"] spLCopy := by
  obtain ⟨fd, F⟩ := T.D_l_copy
  refine mkDef F sc_l_copy (fun _ _ _ _ _ _ us hl => match us, hl with | [_], _ => rfl) (fun vs H Q E h => ?len) (fun cdv A outer s H vs Q E hr h => ?body)
  case len =>
    obtain ⟨a, g, rfl, _⟩ := h
    rfl
  case body =>
    obtain ⟨a, g, rfl, hg, hz, k⟩ := h
    refine ⟨_, pss_one (ps_ret (pe_lc (own := [("_law_row", 1)]) (g := gName 1) (tt := tYes) rfl sc_l_copy.nd (pi_list (pv 0)) (blkOk_by (N := ["_law_grid_here", "_law_row"]) (sc := defScope s_l_copy) (by decide +kernel)) (fun _ _ _ _ _ => pg_name (i := 1) sc_l_copy.nd rfl (Or.inl rfl)) (fun _ _ _ _ _ => pts_nil) (fun _ _ _ _ _ => pe_callTy (r := rListOf K) (T := "list") call_list_of (by rfl) T.f_list (by decide +kernel) (pa_cons (pv 1) pa_nil)))), ?_⟩
    obtain ⟨as, e1, e2⟩ := id hg
    refine ⟨_, rfl, a, rfl, ⟨_, SqL.of e1⟩, fun D hD => copy_rows (Same.refl H) hg hD (show 1 < 2 by decide) hz fun H3 n => ?_⟩
    exact k D H3 n
def spLCross : Sp := fun vs H Q _ => ∃ (a : Addr) (g : Grid) (i j r s : Nat), vs = [.ref a, .int (i : Nat), .int (j : Nat), .int (r : Nat), .int (s : Nat)] ∧ GA H a g ∧ Rect g ∧ (cell g i j).isSome = true ∧ r < g.length ∧ s < wid g ∧ Q (.bl (cross g i j r s)) H
theorem dec_nn {a b : Nat} : decide (V.int ((a : Nat) : Int) = V.int ((b : Nat) : Int)) = decide (a = b) := dec_ne
theorem df_l_cross (T : Txt K mg) : Def P w K mg base 1 (He.ga K "_law_cross") ["_law_grid_here", "_law_i", "_law_j", "_law_r", "_law_s"] spLCross := by
  obtain ⟨fd, F⟩ := T.D_l_cross
  refine mkDef F sc_l_cross (fun _ _ _ _ _ _ us hl => match us, hl with | [_, _, _, _, _], _ => rfl) (fun vs H Q E h => ?len) (fun cdv A outer s H vs Q E hr h => ?body)
  case len =>
    obtain ⟨a, g, i, j, r, s, rfl, _⟩ := h
    rfl
  case body =>
    obtain ⟨a, g, i, j, r, s, rfl, ha, R, s1, l3, l4, q⟩ := h
    obtain ⟨l1, l2⟩ := R.lt s1
    have l1 : i < g.length := l1
    have l2 : j < wid g := l2
    obtain ⟨x1, b1, y1, f1, f2, f3, f4⟩ := ha.cellAt R l3 l4
    obtain ⟨x2, b2, y2, g1, g2, g3, g4⟩ := ha.cellAt R l1 l2
    obtain ⟨x3, b3, y3, k1, k2, k3, k4⟩ := ha.cellAt R l1 l4
    obtain ⟨x4, b4, y4, m1, m2, m3, m4⟩ := ha.cellAt R l3 l2
    refine ⟨_, pss_cons (ps_if (PW.pt (pw_or (pt_cmpR op_eq (pv 3) (pv 1) (nomark _)) (pw_or1 (pt_cmpR op_eq (pv 4) (pv 2) (nomark _))))) (pss_one (ps_ret pe_bl)) pss_nil)
      (pss_cons (ps_if (PW.pt (pw_or (pt_cmpR op_isN (pe_ix (r := rIxL K) ix_list (pe_ix (r := rIxL K) ix_list (pv 0) (pv 1) (fun _ _ => rfl)) (pv 4) (fun _ _ => rfl)) pe_non (nomark _)) (pw_or1 (pt_cmpR op_isN (pe_ix (r := rIxL K) ix_list (pe_ix (r := rIxL K) ix_list (pv 0) (pv 3) (fun _ _ => rfl)) (pv 2) (fun _ _ => rfl)) pe_non (nomark _))))) (pss_one (ps_ret pe_bl)) pss_nil)
      (pss_cons (ps_if (pt_cmpR op_isN (pe_ix (r := rIxL K) ix_list (pe_ix (r := rIxL K) ix_list (pv 0) (pv 3) (fun _ _ => rfl)) (pv 4) (fun _ _ => rfl)) pe_non (nomark _)) (pss_one (ps_ret pe_bl)) pss_nil)
      (pss_cons (ps_set (i := 5) sc_l_cross.nd rfl (Or.inl rfl) (pe_op op_add (pe_ix (r := rIxL K) ix_list (pe_ix (r := rIxL K) ix_list (pv 0) (pv 1) (fun _ _ => rfl)) (pv 2) (fun _ _ => rfl)) (pe_ix (r := rIxL K) ix_list (pe_ix (r := rIxL K) ix_list (pv 0) (pv 3) (fun _ _ => rfl)) (pv 4) (fun _ _ => rfl))))
      (pss_one (ps_ret (pe_cmpR op_gt (pv 5) (pe_op op_add (pe_ix (r := rIxL K) ix_list (pe_ix (r := rIxL K) ix_list (pv 0) (pv 1) (fun _ _ => rfl)) (pv 4) (fun _ _ => rfl)) (pe_ix (r := rIxL K) ix_list (pe_ix (r := rIxL K) ix_list (pv 0) (pv 3) (fun _ _ => rfl)) (pv 2) (fun _ _ => rfl))) (nomark _))))))), ?_⟩
    refine ⟨_, rfl, _, rfl, rfl, _, rfl, ?_⟩
    rw [dec_nn]
    unfold cross at q
    by_cases e1 : r = i
    · rw [decide_eq_true e1]
      rw [if_pos (Or.inl e1)] at q
      exact iteT (iteT q)
    rw [decide_eq_false e1]
    refine iteF ⟨_, rfl, _, rfl, rfl, _, rfl, ?_⟩
    rw [dec_nn]
    by_cases e2 : s = j
    · rw [decide_eq_true e2]
      rw [if_pos (Or.inr e2)] at q
      exact iteT q
    rw [decide_eq_false e2]
    rw [if_neg (fun z => z.elim e1 e2)] at q
    refine iteF ⟨_, rfl, _, rfl, _, _, _, _, rfl, rfl, SqL.of k1, k2, _, rfl, _, _, _, _, rfl, rfl, SqL.of k3, k4, rfl, _, rfl, ?_⟩
    rw [oV_non]
    cases e3 : cell g i s with
    | none =>
      rw [if_pos (Or.inl e3)] at q
      exact iteT (iteT q)
    | some u =>
      rw [e3] at k4
      refine iteF ⟨_, rfl, _, rfl, _, _, _, _, rfl, rfl, SqL.of m1, m2, _, rfl, _, _, _, _, rfl, rfl, SqL.of m3, m4, rfl, _, rfl, ?_⟩
      rw [oV_non]
      cases e4 : cell g r j with
      | none =>
        rw [if_pos (Or.inr e4)] at q
        exact iteT q
      | some v =>
        rw [e4] at m4
        rw [if_neg (by rw [e3, e4]; simp)] at q
        refine iteF ⟨_, rfl, _, rfl, _, _, _, _, rfl, rfl, SqL.of f1, f2, _, rfl, _, _, _, _, rfl, rfl, SqL.of f3, f4, rfl, _, rfl, ?_⟩
        rw [oV_non]
        unfold dearer at q
        cases e5 : cell g r s with
        | none =>
          rw [e5] at q
          exact iteT q
        | some w =>
          rw [e5] at q f4
          rw [e3, e4] at q
          refine iteF ⟨_, rfl, _, rfl, _, _, _, _, rfl, rfl, SqL.of g1, g2, _, rfl, _, _, _, _, rfl, rfl, SqL.of g3, g4, _, rfl, _, rfl, _, _, _, _, rfl, rfl, SqL.of f1, f2, _, rfl, _, _, _, _, rfl, rfl, SqL.of f3, f4, _, w, some_val s1, rfl, ?_⟩
          exact ⟨_, rfl, _, rfl, _, rfl, _, _, _, _, rfl, rfl, SqL.of k1, k2, _, rfl, _, _, _, _, rfl, rfl, SqL.of k3, k4, _, rfl, _, rfl, _, _, _, _, rfl, rfl, SqL.of m1, m2, _, rfl, _, _, _, _, rfl, rfl, SqL.of m3, m4, u, v, rfl, rfl, _, _, rfl, rfl, q⟩
end
end K55
set_option Elab.async false
set_option linter.all false
set_option maxRecDepth 100000
set_option maxHeartbeats 4000000
namespace K55
open PySem PySem.Spec PyProof.Rows L2
section
variable {P : Program} {w : World} {K : PySem.W.Frag} {mg : Str → Option Value} {base : Heap}
/-! the needs of a cell -/
theorem flat_succ {β : Type} (f : Nat → List β) (m : Nat) : (List.range (m + 1)).flatMap f = (List.range m).flatMap f ++ f m := by
  rw [List.range_succ, List.flatMap_append]
  simp
theorem flat_len {β : Type} {f : Nat → List β} {k : Nat} (h : ∀ i, (f i).length ≤ k) : ∀ m, ((List.range m).flatMap f).length ≤ m * k
  | 0 => Nat.zero_le _
  | m + 1 => by
    rw [flat_succ, List.length_append, Nat.succ_mul]
    have h1 := flat_len h m
    have h2 := h m
    omega
theorem one_len {β : Type} (c : Prop) [Decidable c] (x : β) : (if c then [x] else []).length ≤ 1 := by
  split
  · exact Nat.le_refl _
  · exact Nat.zero_le _
theorem crossRow_len (g : Grid) (i j r n : Nat) : (crossRow g i j r n).length ≤ n := by
  have := flat_len (f := fun s => if cross g i j r s = true then [[(i, s), (r, j)]] else []) (k := 1) (fun s => one_len _ _) n
  unfold crossRow
  omega
theorem crossNeeds_len (g : Grid) (i j m : Nat) : (crossNeeds g i j m).length ≤ m * wid g := flat_len (fun r => crossRow_len g i j r _) m
theorem colNeeds_len (g : Grid) (i j m : Nat) : (colNeeds g i j m).length ≤ m := by
  have := flat_len (f := fun r => if cheaper g r j i j = true then [[(r, j)]] else []) (k := 1) (fun s => one_len _ _) m
  unfold colNeeds
  omega
theorem rowNeeds_len (g : Grid) (i j n : Nat) : (rowNeeds g i j n).length ≤ n := by
  have := flat_len (f := fun s => if cheaper g i s i j = true then [[(i, s)]] else []) (k := 1) (fun s => one_len _ _) n
  unfold rowNeeds
  omega
theorem crossRow_succ (g : Grid) (i j r n : Nat) : crossRow g i j r (n + 1) = crossRow g i j r n ++ (if cross g i j r n = true then [[(i, n), (r, j)]] else []) := flat_succ _ n
theorem crossNeeds_succ (g : Grid) (i j m : Nat) : crossNeeds g i j (m + 1) = crossNeeds g i j m ++ crossRow g i j m (wid g) := flat_succ _ m
theorem colNeeds_succ (g : Grid) (i j m : Nat) : colNeeds g i j (m + 1) = colNeeds g i j m ++ (if cheaper g m j i j = true then [[(m, j)]] else []) := flat_succ _ m
theorem rowNeeds_succ (g : Grid) (i j n : Nat) : rowNeeds g i j (n + 1) = rowNeeds g i j n ++ (if cheaper g i n i j = true then [[(i, n)]] else []) := flat_succ _ n
theorem if_len {g : List (List Pr)} {b : Bool} {k : Nat} (h : g.length ≤ k) : (if b = true then g else []).length ≤ k := by
  cases b with
  | true => exact h
  | false => exact Nat.zero_le _
theorem needs_two {g : Grid} {c w : Bool} {i j : Nat} : ∀ need ∈ needsOf g c w i j, need.length ≤ 2 := by
  intro need h
  have k1 : ∀ (p : Prop) [Decidable p] (x : List Pr), need ∈ (if p then [x] else []) → need = x := by
    intro p _ x z
    split at z
    · exact List.mem_singleton.mp z
    · cases z
  unfold needsOf at h
  rcases List.mem_append.mp h with z | z
  · unfold crossNeeds crossRow at z
    obtain ⟨r, _, z⟩ := List.mem_flatMap.mp z
    obtain ⟨s, _, z⟩ := List.mem_flatMap.mp z
    rw [k1 _ _ z]
    exact Nat.le_refl _
  · rcases List.mem_append.mp z with z | z
    · cases c with
      | false => cases z
      | true =>
        unfold colNeeds at z
        obtain ⟨r, _, z⟩ := List.mem_flatMap.mp z
        rw [k1 _ _ z]
        exact Nat.le_succ 1
    · cases w with
      | false => cases z
      | true =>
        unfold rowNeeds at z
        obtain ⟨r, _, z⟩ := List.mem_flatMap.mp z
        rw [k1 _ _ z]
        exact Nat.le_succ 1
/-- one more need: two pairs, or one -/
theorem grow_two {H H2 : Hp} {D q1 q2 l : Addr} {ys : List (List Pr)} {acc : List V} {a b : Pr} (g : Grow PrL H D ys H2) (h : H2 D = some (.lst acc)) (h1 : H2 q1 = none) (h2 : (upd H2 q1 (.tup (tupP a))) q2 = none)
    (h3 : (upd (upd H2 q1 (.tup (tupP a))) q2 (.tup (tupP b))) l = none) :
    Grow PrL H D (ys ++ [[a, b]]) (upd (upd (upd (upd H2 q1 (.tup (tupP a))) q2 (.tup (tupP b))) l (.lst [.ref q1, .ref q2])) D (.lst (acc ++ [.ref l]))) ∧ (upd (upd (upd H2 q1 (.tup (tupP a))) q2 (.tup (tupP b))) l (.lst [.ref q1, .ref q2])) D = some (.lst acc) := by
  have s3 := ((same_new (o := .tup (tupP a)) h1).trans (same_new (o := .tup (tupP b)) h2)).trans (same_new (o := .lst [.ref q1, .ref q2]) h3)
  have hD := s3 _ _ h
  have ne : l ≠ D := fun z => by rw [z, upd_keep (upd_keep h h1) h2] at h3; cases h3
  refine ⟨(g.mono mono_PrL s3).push hD (PrL.wo ⟨[q1, q2], upd_same, .cons ?_ (.cons ?_ .nil)⟩ hD ne), hD⟩
  · exact upd_keep (upd_keep upd_same h2) h3
  · exact upd_keep upd_same h3
theorem grow_one {H H2 : Hp} {D q1 l : Addr} {ys : List (List Pr)} {acc : List V} {a : Pr} (g : Grow PrL H D ys H2) (h : H2 D = some (.lst acc)) (h1 : H2 q1 = none) (h3 : (upd H2 q1 (.tup (tupP a))) l = none) :
    Grow PrL H D (ys ++ [[a]]) (upd (upd (upd H2 q1 (.tup (tupP a))) l (.lst [.ref q1])) D (.lst (acc ++ [.ref l]))) ∧ (upd (upd H2 q1 (.tup (tupP a))) l (.lst [.ref q1])) D = some (.lst acc) := by
  have s3 := (same_new (o := .tup (tupP a)) h1).trans (same_new (o := .lst [.ref q1]) h3)
  have hD := s3 _ _ h
  have ne : l ≠ D := fun z => by rw [z, upd_keep h h1] at h3; cases h3
  refine ⟨(g.mono mono_PrL s3).push hD (PrL.wo ⟨[q1], upd_same, .cons ?_ .nil⟩ hD ne), hD⟩
  exact upd_keep upd_same h3
theorem kind_test {σ : L2.St} {H : Hp} {Q : Bool → Hp → Prop} {z a b : Str} {n : Nat} (h3 : σ[n]? = some (some (.str z))) (q : Q (decide (z = a) || decide (z = b)) H) :
    tOr (tTest (tOp rEq (tVar n) (tC (.str a)))) (tTest (tOp rEq (tVar n) (tC (.str b)))) σ H Q := by
  refine ⟨_, h3, rfl, _, rfl, ?_⟩
  rw [dec_s]
  by_cases e : z = a
  · rw [decide_eq_true e] at q ⊢
    exact iteT q
  · rw [decide_eq_false e] at q ⊢
    refine iteF ⟨_, h3, rfl, _, rfl, ?_⟩
    rw [dec_s]
    exact q
/-- if c: for x in range(n): .. -/
theorem if_for {c : TT} {wi : TI} {slot n : Nat} {body : TS} {D : Ends} {σ : L2.St} {H : Hp} (b : Bool) (hc : ∀ Q : Bool → Hp → Prop, Q b H → c σ H Q) (hw : ∀ R : It → Hp → Prop, (∀ k, k = n → R (Itr 0 k) H) → wi σ H R) (Pv : Nat → L2.St → Hp → Prop) (Ev : L2.St → Hp → Prop)
    (h0 : b = true → Pv 0 σ H) (hs : b = true → ∀ i σ H, i < n → Pv i σ H → body { D with nx := Pv (i + 1), ct := Pv (i + 1), bk := D.nx } (σ.set slot (some (.int (i : Nat)))) H) (h1 : b = true → ∀ σ H, Pv n σ H → Ev σ H) (h2 : b = false → Ev σ H) (hd : ∀ σ H, Ev σ H → D.nx σ H) :
    tIfS c (tFor wi (gName slot) body) tNext D σ H := by
  refine hc _ ?_
  cases b with
  | true => exact iteT (hw _ fun k hk => for_rng hk Pv (h0 rfl) (hs rfl) fun σ H p => hd σ H (h1 rfl σ H p))
  | false => exact iteF (hd σ H (h2 rfl))
theorem ifF0 (x : List (List Pr)) : (if false = true then x else []) = [] := rfl
theorem ifT0 (x : List (List Pr)) : (if true = true then x else []) = x := rfl
theorem cheaper_none {g : Grid} {r s i j : Nat} (h : cell g r s = none) : cheaper g r s i j = false := by
  unfold cheaper
  rw [decide_eq_true h]
  rfl
theorem cheaper_some {g : Grid} {r s i j : Nat} {z : Int} (h : cell g r s = some z) : cheaper g r s i j = decide (z < val (cell g i j)) := by
  unfold cheaper
  rw [h]
  show (!decide (some z = none) && decide (z < val (cell g i j))) = _
  rw [decide_eq_false (fun e => nomatch e)]
  rfl
def spLNeedsOf : Sp := fun vs H Q _ => ∃ (a : Addr) (g : Grid) (i j : Nat) (z : Str), vs = [.ref a, .int (i : Nat), .int (j : Nat), .str z] ∧ GA H a g ∧ Rect g ∧ (cell g i j).isSome = true ∧ ∀ (p : Addr) (H' : Hp), NewL PrL H p (needsOf g (kcol z) (krow z) i j) H' → Q (.ref p) H'
theorem df_l_needs_of (T : Txt K mg) : Def P w K mg base 2 (He.ga K "_law_needs_of") ["_law_grid_here", "_law_i", "_law_j", "_law_sort"] spLNeedsOf := by
  obtain ⟨fd, F⟩ := T.D_l_needs_of
  refine mkDef F sc_l_needs_of (fun _ _ _ _ _ _ us hl => match us, hl with | [_, _, _, _], _ => rfl) (fun vs H Q E h => ?len) (fun cdv A outer s H vs Q E hr h => ?body)
  case len =>
    obtain ⟨a, g, i, j, z, rfl, _⟩ := h
    rfl
  case body =>
    obtain ⟨a, g, i, j, z, rfl, ha, R, s1, k⟩ := h
    obtain ⟨l1, l2⟩ := R.lt s1
    have l1 : i < g.length := l1
    have l2 : j < wid g := l2
    obtain ⟨r1, r2, r3, r4, r5⟩ := id R
    obtain ⟨as, e1, e2⟩ := id ha
    have hl : (as.map V.ref).length = g.length := refs_len e2
    have lenG : ∀ m, m ≤ g.length → m * wid g ≤ 36 := fun m hm => Nat.le_trans (Nat.mul_le_mul (Nat.le_trans hm r2) r4) (by decide)
    refine ⟨_, pss_cons (ps_set (i := 4) sc_l_needs_of.nd rfl (Or.inl rfl) (pe_lst pa_nil))
      (pss_cons (ps_for PassesOwn.never rfl (pi_range1 (by rfl) T.f_range (pa_cons (pe_callB (r := rLenOf K) (id := "len") call_len_seq (by rfl) T.f_len (by decide +kernel) (pa_cons (pv 0) pa_nil)) pa_nil)) (pg_name (i := 5) sc_l_needs_of.nd rfl (Or.inl rfl)) (pss_one (ps_for PassesOwn.never rfl (pi_range1 (by rfl) T.f_range (pa_cons (pe_callB (r := rLenOf K) (id := "len") call_len_seq (by rfl) T.f_len (by decide +kernel) (pa_cons (pe_ix (r := rIxL K) ix_list (pv 0) (pe_int) (fun _ _ => rfl)) pa_nil)) pa_nil)) (pg_name (i := 6) sc_l_needs_of.nd rfl (Or.inl rfl))
        (pss_one (ps_if (pt_val (pd_call (df_l_cross T) (hr) (by rfl) T.g_l_cross (pa_cons (pv 0) (pa_cons (pv 1) (pa_cons (pv 2) (pa_cons (pv 5) (pa_cons (pv 6) pa_nil))))))) (pss_one (ps_expr (pe_bm PySem.F.plainAttrs_list PySem.F.slot_list_append PySem.F.type_list_append mt_append (pv 4) (pa_cons (pe_lst (pa_cons (pe_tup (pa_cons (pv 1) (pa_cons (pv 6) pa_nil))) (pa_cons (pe_tup (pa_cons (pv 5) (pa_cons (pv 2) pa_nil))) pa_nil))) pa_nil)))) pss_nil)))))
      (pss_cons (ps_if (PW.pt (pw_or (pt_cmpR op_eq (pv 3) pe_str (nomark _)) (pw_or1 (pt_cmpR op_eq (pv 3) pe_str (nomark _)))))
        (pss_one (ps_for PassesOwn.never rfl (pi_range1 (by rfl) T.f_range (pa_cons (pe_callB (r := rLenOf K) (id := "len") call_len_seq (by rfl) T.f_len (by decide +kernel) (pa_cons (pv 0) pa_nil)) pa_nil)) (pg_name (i := 5) sc_l_needs_of.nd rfl (Or.inl rfl)) (pss_one (ps_if (PW.pt (pw_and (pt_cmpR op_notN (pe_ix (r := rIxL K) ix_list (pe_ix (r := rIxL K) ix_list (pv 0) (pv 5) (fun _ _ => rfl)) (pv 2) (fun _ _ => rfl)) pe_non (nomark _)) (pw_and1 (pt_cmpR op_lt (pe_ix (r := rIxL K) ix_list (pe_ix (r := rIxL K) ix_list (pv 0) (pv 5) (fun _ _ => rfl)) (pv 2) (fun _ _ => rfl)) (pe_ix (r := rIxL K) ix_list (pe_ix (r := rIxL K) ix_list (pv 0) (pv 1) (fun _ _ => rfl)) (pv 2) (fun _ _ => rfl)) (nomark _)))))
          (pss_one (ps_expr (pe_bm PySem.F.plainAttrs_list PySem.F.slot_list_append PySem.F.type_list_append mt_append (pv 4) (pa_cons (pe_lst (pa_cons (pe_tup (pa_cons (pv 5) (pa_cons (pv 2) pa_nil))) pa_nil)) pa_nil)))) pss_nil)))) pss_nil)
      (pss_cons (ps_if (PW.pt (pw_or (pt_cmpR op_eq (pv 3) pe_str (nomark _)) (pw_or1 (pt_cmpR op_eq (pv 3) pe_str (nomark _)))))
        (pss_one (ps_for PassesOwn.never rfl (pi_range1 (by rfl) T.f_range (pa_cons (pe_callB (r := rLenOf K) (id := "len") call_len_seq (by rfl) T.f_len (by decide +kernel) (pa_cons (pe_ix (r := rIxL K) ix_list (pv 0) (pe_int) (fun _ _ => rfl)) pa_nil)) pa_nil)) (pg_name (i := 6) sc_l_needs_of.nd rfl (Or.inl rfl)) (pss_one (ps_if (PW.pt (pw_and (pt_cmpR op_notN (pe_ix (r := rIxL K) ix_list (pe_ix (r := rIxL K) ix_list (pv 0) (pv 1) (fun _ _ => rfl)) (pv 6) (fun _ _ => rfl)) pe_non (nomark _)) (pw_and1 (pt_cmpR op_lt (pe_ix (r := rIxL K) ix_list (pe_ix (r := rIxL K) ix_list (pv 0) (pv 1) (fun _ _ => rfl)) (pv 6) (fun _ _ => rfl)) (pe_ix (r := rIxL K) ix_list (pe_ix (r := rIxL K) ix_list (pv 0) (pv 1) (fun _ _ => rfl)) (pv 2) (fun _ _ => rfl)) (nomark _)))))
          (pss_one (ps_expr (pe_bm PySem.F.plainAttrs_list PySem.F.slot_list_append PySem.F.type_list_append mt_append (pv 4) (pa_cons (pe_lst (pa_cons (pe_tup (pa_cons (pv 1) (pa_cons (pv 6) pa_nil))) pa_nil)) pa_nil)))) pss_nil)))) pss_nil)
      (pss_one (ps_ret (pv 4)))))), ?_⟩
    refine ⟨Nat.zero_le _, fun D hD => ?_⟩
    have g0 : Grow PrL H D [] (upd H D (.lst [])) := Grow.start hD
    -- len(grid[0])
    have wid0 : ∀ {H2 : Hp}, Same H H2 → ∃ (xs : List V) (b : Addr) (ys : List V), H2 a = some (.lst xs) ∧ atI xs (0 : Int) = some (.ref b) ∧ H2 b = some (.lst ys) ∧ ys.length = wid g := fun s => by
      obtain ⟨as', b0, r0, w1, w2, w3, w4, w5⟩ := (ha.mono s).row (i := 0) (by omega)
      exact ⟨_, b0, _, w1, atI_nat (j := 0) w2, w3, by rw [len_oV, w5]; rfl⟩
    -- the crosses
    refine ⟨_, rfl, a, _, rfl, Or.inl (SqL.of (g0.sm _ _ e1)), _, rfl, by omega, by omega, for_rng (n := g.length) (by rw [hl, Int.toNat_natCast]) (fun r σ H2 => Grow PrL H D (crossNeeds g i j r) H2 ∧ ∃ u v, σ = [some (.ref a), some (.int (i : Nat)), some (.int (j : Nat)), some (.str z), some (.ref D), u, v]) ⟨g0, none, none, rfl⟩ ?_ ?_⟩
    · rintro r σ H2 hr2 ⟨gr, u, v, rfl⟩
      obtain ⟨xs, b0, ys, w1, w2, w3, w4⟩ := wid0 gr.sm
      refine ⟨_, rfl, _, _, _, _, rfl, rfl, SqL.of w1, w2, b0, _, rfl, Or.inl (SqL.of w3), _, rfl, by omega, by omega, for_rng (n := wid g) (by rw [w4, Int.toNat_natCast]) (fun s σ H3 => Grow PrL H D (crossNeeds g i j r ++ crossRow g i j r s) H3 ∧ ∃ v, σ = [some (.ref a), some (.int (i : Nat)), some (.int (j : Nat)), some (.str z), some (.ref D), some (.int (r : Nat)), v]) ⟨?_, v, rfl⟩ ?_ ?_⟩
      · show Grow PrL H D (crossNeeds g i j r ++ []) _
        rw [List.append_nil]
        exact gr
      · rintro s σ H3 hs3 ⟨gs, v, rfl⟩
        refine ⟨_, rfl, _, rfl, _, rfl, _, rfl, _, rfl, a, g, i, j, r, s, rfl, ha.mono gs.sm, R, s1, hr2, hs3, _, rfl, ?_⟩
        rw [crossRow_succ, ← List.append_assoc]
        by_cases hc : cross g i j r s = true
        · rw [hc]
          rw [if_pos rfl]
          obtain ⟨acc, f1, f2⟩ := gs.lst
          refine iteT ⟨_, rfl, Or.inl ⟨rfl, _, SqL.of f1⟩, _, rfl, _, rfl, (by show 2 ≤ sizeLine; decide), fun q1 h1 => ⟨_, rfl, _, rfl, (by show 2 ≤ sizeLine; decide), fun q2 h2 => ⟨(by show 2 ≤ sizeLine; decide), fun l h3 => ?_⟩⟩⟩
          obtain ⟨ga, gb⟩ := grow_two (a := (i, s)) (b := (r, j)) gs f1 h1 h2 h3
          refine ⟨D, acc, _, rfl, rfl, gb, ?_, ga, _, rfl⟩
          rw [f2, List.length_append]
          have b1 := crossNeeds_len g i j r
          have b2 := lenG r (by omega)
          have b3 := crossRow_len g i j r s
          exact small1000 (by omega)
        · rw [if_neg hc]
          rw [Bool.not_eq_true] at hc
          rw [hc, List.append_nil]
          exact iteF ⟨gs, _, rfl⟩
      · rintro σ H3 ⟨gs, v, rfl⟩
        rw [← crossNeeds_succ] at gs
        exact ⟨gs, _, _, rfl⟩
    rintro σ H2 ⟨gr, u0, v0, rfl⟩
    have b1 : (crossNeeds g i j g.length).length ≤ 36 := Nat.le_trans (crossNeeds_len g i j _) (lenG _ (Nat.le_refl _))
    have wgo : ∀ {H3 : Hp}, Same H H3 → ∀ {r : Nat}, r < g.length → ∀ {c : Nat}, c < wid g → ∃ (xs : List V) (b : Addr) (ys : List V), H3 a = some (.lst xs) ∧ atI xs (r : Int) = some (.ref b) ∧ H3 b = some (.lst ys) ∧ atI ys (c : Int) = some (oV (cell g r c)) := fun s _ hr _ hc => (ha.mono s).cellAt R hr hc
    -- by columns
    refine if_for (n := g.length) (kcol z) (fun Q q => kind_test rfl q) (fun T hT => ⟨_, rfl, a, _, rfl, Or.inl (SqL.of (gr.sm _ _ e1)), _, rfl, by omega, by omega, hT _ (by rw [hl, Int.toNat_natCast])⟩)
      (fun r σ H3 => Grow PrL H D (crossNeeds g i j g.length ++ colNeeds g i j r) H3 ∧ ∃ u v, σ = [some (.ref a), some (.int (i : Nat)), some (.int (j : Nat)), some (.str z), some (.ref D), u, v])
      (fun σ H3 => Grow PrL H D (crossNeeds g i j g.length ++ (if kcol z = true then colNeeds g i j g.length else [])) H3 ∧ ∃ u v, σ = [some (.ref a), some (.int (i : Nat)), some (.int (j : Nat)), some (.str z), some (.ref D), u, v])
      (fun _ => ⟨by rw [show colNeeds g i j 0 = [] from rfl, List.append_nil]; exact gr, _, _, rfl⟩) (fun _ => ?_) (fun hb σ H3 p => by rw [if_pos hb]; exact p) (fun hb => ⟨by rw [hb, if_neg (by decide), List.append_nil]; exact gr, _, _, rfl⟩) ?_
    · rintro r σ H3 hr3 ⟨gs, u, v, rfl⟩
      obtain ⟨x1, b1', y1, f1, f2, f3, f4⟩ := wgo gs.sm hr3 l2
      obtain ⟨x2, b2', y2, g1, g2, g3, g4⟩ := wgo gs.sm l1 l2
      refine ⟨_, rfl, _, rfl, _, _, _, _, rfl, rfl, SqL.of f1, f2, _, rfl, _, _, _, _, rfl, rfl, SqL.of f3, f4, rfl, _, rfl, ?_⟩
      rw [oV_non, Bool.not_not, colNeeds_succ, ← List.append_assoc]
      cases e3 : cell g r j with
      | none =>
        rw [cheaper_none e3, ifF0, List.append_nil]
        exact iteF (iteF ⟨gs, _, _, rfl⟩)
      | some y =>
        rw [e3] at f4
        rw [cheaper_some e3]
        refine iteT ⟨_, rfl, _, rfl, _, _, _, _, rfl, rfl, SqL.of f1, f2, _, rfl, _, _, _, _, rfl, rfl, SqL.of f3, f4, _, rfl, _, rfl, _, _, _, _, rfl, rfl, SqL.of g1, g2, _, rfl, _, _, _, _, rfl, rfl, SqL.of g3, g4, y, _, rfl, some_val s1, _, rfl, ?_⟩
        by_cases hc : y < val (cell g i j)
        · rw [decide_eq_true hc, ifT0]
          obtain ⟨acc, f5, f6⟩ := gs.lst
          refine iteT ⟨_, rfl, Or.inl ⟨rfl, _, SqL.of f5⟩, _, rfl, _, rfl, (by show 2 ≤ sizeLine; decide), fun q1 h1 => ⟨(by show 1 ≤ sizeLine; decide), fun l h3 => ?_⟩⟩
          obtain ⟨ga, gb⟩ := grow_one (a := (r, j)) gs f5 h1 h3
          refine ⟨D, acc, _, rfl, rfl, gb, ?_, ga, _, _, rfl⟩
          rw [f6, List.length_append]
          have b3 := colNeeds_len g i j r
          exact small1000 (by omega)
        · rw [decide_eq_false hc, ifF0, List.append_nil]
          exact iteF ⟨gs, _, _, rfl⟩
    rintro σ H3 ⟨gc, u1, v1, rfl⟩
    have b2 : (crossNeeds g i j g.length ++ (if kcol z = true then colNeeds g i j g.length else [])).length ≤ 44 := by
      rw [List.length_append]
      have := if_len (b := kcol z) (colNeeds_len g i j g.length)
      omega
    -- by rows
    obtain ⟨xs, b0, ys, w1, w2, w3, w4⟩ := wid0 gc.sm
    refine if_for (n := wid g) (krow z) (fun Q q => kind_test rfl q) (fun T hT => ⟨_, rfl, _, _, _, _, rfl, rfl, SqL.of w1, w2, b0, _, rfl, Or.inl (SqL.of w3), _, rfl, by omega, by omega, hT _ (by rw [w4, Int.toNat_natCast])⟩)
      (fun s σ H4 => Grow PrL H D ((crossNeeds g i j g.length ++ (if kcol z = true then colNeeds g i j g.length else [])) ++ rowNeeds g i j s) H4 ∧ ∃ u v, σ = [some (.ref a), some (.int (i : Nat)), some (.int (j : Nat)), some (.str z), some (.ref D), u, v])
      (fun σ H4 => Grow PrL H D ((crossNeeds g i j g.length ++ (if kcol z = true then colNeeds g i j g.length else [])) ++ (if krow z = true then rowNeeds g i j (wid g) else [])) H4 ∧ ∃ u v, σ = [some (.ref a), some (.int (i : Nat)), some (.int (j : Nat)), some (.str z), some (.ref D), u, v])
      (fun _ => ⟨by rw [show rowNeeds g i j 0 = [] from rfl, List.append_nil]; exact gc, _, _, rfl⟩) (fun _ => ?_) (fun hb σ H3 p => by rw [if_pos hb]; exact p) (fun hb => ⟨by rw [show (if krow z = true then rowNeeds g i j (wid g) else []) = [] by rw [hb]; rfl, List.append_nil]; exact gc, _, _, rfl⟩) ?_
    · rintro s σ H4 hr3 ⟨gs, u, v, rfl⟩
      obtain ⟨x1, b1', y1, f1, f2, f3, f4⟩ := wgo gs.sm l1 hr3
      obtain ⟨x2, b2', y2, g1, g2, g3, g4⟩ := wgo gs.sm l1 l2
      refine ⟨_, rfl, _, rfl, _, _, _, _, rfl, rfl, SqL.of f1, f2, _, rfl, _, _, _, _, rfl, rfl, SqL.of f3, f4, rfl, _, rfl, ?_⟩
      rw [oV_non, Bool.not_not, rowNeeds_succ, ← List.append_assoc]
      cases e3 : cell g i s with
      | none =>
        rw [cheaper_none e3, ifF0, List.append_nil]
        exact iteF (iteF ⟨gs, _, _, rfl⟩)
      | some y =>
        rw [e3] at f4
        rw [cheaper_some e3]
        refine iteT ⟨_, rfl, _, rfl, _, _, _, _, rfl, rfl, SqL.of f1, f2, _, rfl, _, _, _, _, rfl, rfl, SqL.of f3, f4, _, rfl, _, rfl, _, _, _, _, rfl, rfl, SqL.of g1, g2, _, rfl, _, _, _, _, rfl, rfl, SqL.of g3, g4, y, _, rfl, some_val s1, _, rfl, ?_⟩
        by_cases hc : y < val (cell g i j)
        · rw [decide_eq_true hc, ifT0]
          obtain ⟨acc, f5, f6⟩ := gs.lst
          refine iteT ⟨_, rfl, Or.inl ⟨rfl, _, SqL.of f5⟩, _, rfl, _, rfl, (by show 2 ≤ sizeLine; decide), fun q1 h1 => ⟨(by show 1 ≤ sizeLine; decide), fun l h3 => ?_⟩⟩
          obtain ⟨ga, gb⟩ := grow_one (a := (i, s)) gs f5 h1 h3
          refine ⟨D, acc, _, rfl, rfl, gb, ?_, ga, _, _, rfl⟩
          rw [f6, List.length_append]
          have b3 := rowNeeds_len g i j s
          exact small1000 (by omega)
        · rw [decide_eq_false hc, ifF0, List.append_nil]
          exact iteF ⟨gs, _, _, rfl⟩
    rintro σ H4 ⟨gd, u2, v2, rfl⟩
    refine ⟨_, rfl, k D H4 ⟨gd.sm, hD, ?_⟩⟩
    have z := gd.end mono_PrL
    rw [List.append_assoc] at z
    exact z
end
end K55
set_option Elab.async false
set_option linter.all false
set_option maxRecDepth 100000
set_option maxHeartbeats 4000000
namespace K55
open PySem PySem.Spec PyProof.Rows L2
section
variable {P : Program} {w : World} {K : PySem.W.Frag} {mg : Str → Option Value} {base : Heap}
/-! the needs of all cells: a dict -/
theorem PrL.woT {H : Hp} {a D : Addr} {ps : List Pr} {kvs : List (List L2.Key × V)} (h : PrL H a ps) (hD : H D = some (.dT kvs)) : PrL (Wo H [D]) a ps := by
  obtain ⟨as, h1, h2⟩ := h
  have ne : ∀ {b : Addr} {o : HO}, H b = some o → o ≠ .dT kvs → b ∉ [D] := fun e n m => by
    rw [List.mem_singleton.mp m, hD] at e
    exact n (Option.some.inj e).symm
  refine ⟨as, by rw [Wo_out (ne h1 (fun z => nomatch z))]; exact h1, Paired.mapP h2 fun b y z => ?_⟩
  have z : H b = some (.tup (tupP y)) := z
  show Wo H [D] b = _
  rw [Wo_out (ne z (fun z => nomatch z))]
  exact z
theorem NL.woT {H : Hp} {a D : Addr} {ps : List (List Pr)} {kvs : List (List L2.Key × V)} (h : NL H a ps) (hD : H D = some (.dT kvs)) : NL (Wo H [D]) a ps := by
  obtain ⟨as, h1, h2⟩ := h
  refine ⟨as, ?_, Paired.mapP h2 fun b y z => PrL.woT z hD⟩
  rw [Wo_out (fun m => by rw [List.mem_singleton.mp m, hD] at h1; cases h1)]
  exact h1
def NdE (H : Hp) (kv : List L2.Key × V) (e : Pr × List (List Pr)) : Prop := kv.1 = keyP e.1 ∧ ∃ b, kv.2 = .ref b ∧ NL H b e.2
/-- the dict of needs -/
def NdAt (H : Hp) (d : Addr) (nd : Nds) : Prop := ∃ kvs, H d = some (.dT kvs) ∧ Paired (NdE H) kvs nd
theorem NdE.mono {H H' : Hp} {kv : List L2.Key × V} {e : Pr × List (List Pr)} (h : NdE H kv e) (s : Same H H') : NdE H' kv e := by
  obtain ⟨h1, b, h2, h3⟩ := h
  exact ⟨h1, b, h2, h3.mono s⟩
theorem NdAt.mono {H H' : Hp} {d : Addr} {nd : Nds} (h : NdAt H d nd) (s : Same H H') : NdAt H' d nd := by
  obtain ⟨kvs, h1, h2⟩ := h
  exact ⟨kvs, s _ _ h1, Paired.mapP h2 fun b y z => z.mono s⟩
theorem nd_keys {H : Hp} : ∀ {kvs : List (List L2.Key × V)} {nd : Nds}, Paired (NdE H) kvs nd → kvs.map (·.1) = (nd.map (·.1)).map keyP
  | _, _, .nil => rfl
  | _, _, .cons h t => by
    rw [List.map_cons, List.map_cons, List.map_cons, h.1, nd_keys t]
theorem nd_get {H : Hp} {p : Pr} {own : List (List Pr)} : ∀ {kvs : List (List L2.Key × V)} {nd : Nds}, Paired (NdE H) kvs nd → (nd.map (·.1)).Nodup → (p, own) ∈ nd → ∃ b, valV kvs (keyP p) = some (.ref b) ∧ NL H b own
  | _, _, .nil, _, h => by cases h
  | kv :: kvs, e :: nd, .cons h t, hn, hm => by
    rw [List.map_cons] at hn
    obtain ⟨n1, n2⟩ := List.nodup_cons.mp hn
    obtain ⟨h1, b, h2, h3⟩ := h
    rcases List.mem_cons.mp hm with z | z
    · rw [← z] at h1 h3
      exact ⟨b, by rw [valV_pos h1, h2], h3⟩
    · obtain ⟨b', g1, g2⟩ := nd_get t n2 z
      refine ⟨b', ?_, g2⟩
      rw [valV_neg]
      · exact g1
      · intro y
        rw [h1] at y
        have := keyP_inj y
        exact n1 (List.mem_map.mpr ⟨(p, own), z, this.symm⟩)
theorem NdAt.get {H : Hp} {d b : Addr} {nd : Nds} {p : Pr} {own : List (List Pr)} (h : NdAt H d nd) (hn : (nd.map (·.1)).Nodup) (hm : (p, own) ∈ nd) (hb : PrA H b p) : ∃ c, DGet H d (.ref b) (some (.ref c)) ∧ NL H c own := by
  obtain ⟨kvs, h1, h2⟩ := h
  obtain ⟨c, g1, g2⟩ := nd_get h2 hn hm
  exact ⟨c, by rw [← g1]; exact DGet.t h1 hb, g2⟩
def spLNeeds : Sp := fun vs H Q _ => ∃ (a : Addr) (g : Grid) (z : Str), vs = [.ref a, .str z] ∧ GA H a g ∧ Rect g ∧ ∀ (d : Addr) (H' : Hp), Same H H' → NdAt H' d (nds g (kcol z) (krow z)) → Q (.ref d) H'
theorem df_l_needs (T : Txt K mg) : Def P w K mg base 3 (He.ga K "_law_needs") ["_law_grid_here", "_law_sort"] spLNeeds := by
  obtain ⟨fd, F⟩ := T.D_l_needs
  refine mkDef F sc_l_needs (fun _ _ _ _ _ _ us hl => match us, hl with | [_, _], _ => rfl) (fun vs H Q E h => ?len) (fun cdv A outer s H vs Q E hr h => ?body)
  case len =>
    obtain ⟨a, g, z, rfl, _⟩ := h
    rfl
  case body =>
    obtain ⟨a, g, z, rfl, ha, R, k⟩ := h
    have hu := hu_of hr
    refine ⟨_, pss_cons (ps_set (i := 2) sc_l_needs.nd rfl (Or.inl rfl) (pe_dnewT)) (pss_cons (ps_for PassesOwn.never rfl (pi_list (pd_call (df_l_spots T) (hr.mono (by decide)) (by rfl) T.g_l_spots (pa_cons (pv 0) pa_nil))) (pg_tup (by rfl) (pgs_cons (pg_name (i := 3) sc_l_needs.nd rfl (Or.inl rfl)) (pgs_cons (pg_name (i := 4) sc_l_needs.nd rfl (Or.inl rfl)) pgs_nil)))
      (pss_one (ps_dput hu (pv 2) (pe_tup (pa_cons (pv 3) (pa_cons (pv 4) pa_nil))) (pd_call (df_l_needs_of T) (hr) (by rfl) T.g_l_needs_of (pa_cons (pv 0) (pa_cons (pv 3) (pa_cons (pv 4) (pa_cons (pv 1) pa_nil))))) rfl)))
      (pss_one (ps_ret (pv 2)))), ?_⟩
    refine fun D hD => ?_
    have s0 : Same H (upd H D (.dT [])) := same_new hD
    refine ⟨_, rfl, a, g, rfl, ha.mono s0, R, fun p H2 n2 => ?_⟩
    obtain ⟨as, e1, e2⟩ := n2.at_
    have hl : (as.map V.ref).length = (spots g).length := refs_len e2
    have pD : p ≠ D := fun q => by have w := n2.new; rw [q, upd_same] at w; cases w
    have hD2 : H2 D = some (.dT []) := n2.same _ _ upd_same
    -- what stands beside the dict
    have sB : Same H (Wo H2 [D]) := Wo_to (s0.trans n2.same) fun d hd => by rw [List.mem_singleton.mp hd]; exact hD
    have pB : PrL (Wo H2 [D]) p (spots g) := PrL.woT ⟨as, e1, e2⟩ hD2
    obtain ⟨as', f1, f2⟩ := pB
    have easas : as.map V.ref = as'.map V.ref := by
      have w := Wo_same _ _ _ _ f1
      rw [e1] at w
      have w := Option.some.inj w
      injection w
    rw [← easas] at f1
    refine ⟨p, rfl, ⟨_, SqL.of e1⟩, for_it (walk_list (K := K) (a := p) (xs := as.map V.ref)) (fun i σ H3 => Same (Wo H2 [D]) (Wo H3 [D]) ∧ (∃ kvs, H3 D = some (.dT kvs) ∧ Paired (NdE (Wo H3 [D])) kvs ((nds g (kcol z) (krow z)).take i)) ∧ ∃ u v, σ = [some (.ref a), some (.str z), some (.ref D), u, v])
      ⟨Same.refl _, ⟨[], hD2, .nil⟩, none, none, rfl⟩ (fun i σ H3 _ q => SqL.of ((q.1.trans (Wo_same _ _)) _ _ f1)) ?_ ?_⟩
    · rintro i x σ H3 H4 hi ⟨s3, ⟨kvs, k1, k2⟩, u, v, rfl⟩ ⟨rfl, hx⟩
      rw [easas] at hx
      obtain ⟨b, q, rfl, eq, rb⟩ := refs_at f2 hx
      obtain ⟨qi, qj⟩ := q
      have s3' : Same (Wo H2 [D]) H4 := s3.trans (Wo_same _ _)
      have rb4 : PrA H4 b (qi, qj) := s3' _ _ rb
      refine ⟨b, _, rfl, SqT.of rb4, rfl, _, _, rfl, _, _, rfl, rfl, ?_⟩
      have hs : (cell g qi qj).isSome = true := mem_spots.mp (List.mem_of_getElem? eq)
      refine ⟨_, rfl, _, rfl, _, rfl, _, rfl, a, g, qi, qj, z, rfl, ha.mono (sB.trans s3'), R, hs, fun c H5 n5 => ?_⟩
      refine ⟨_, rfl, _, rfl, _, rfl, (by show 2 ≤ sizeLine; decide), fun t ht => ?_⟩
      have hD5 : H5 D = some (.dT kvs) := n5.same _ _ k1
      have hD6 : (upd H5 t (.tup (tupP (qi, qj)))) D = some (.dT kvs) := upd_keep hD5 ht
      have s6 : Same H5 (upd H5 t (.tup (tupP (qi, qj)))) := same_new ht
      have hlen : kvs.length = i := by
        have w := Paired.length k2
        rw [List.length_take, nds_length] at w
        omega
      have hi36 := spots_len R
      have hv : valV kvs (keyP (qi, qj)) = none := by
        refine valV_out ?_
        rw [nd_keys k2, List.map_take, nds_keys]
        exact keys_out (nodup_spots g) eq
      refine ⟨D, _, rfl, DPut.t (k := keyP (qi, qj)) hD6 upd_same (small1000 (by omega)), ?_⟩
      rw [putK_new _ hv]
      have eW : ∀ o : HO, Wo (upd (upd H5 t (.tup (tupP (qi, qj)))) D o) [D] = Wo (upd H5 t (.tup (tupP (qi, qj)))) [D] := fun o => Wo_upd (List.mem_singleton.mpr rfl)
      have s56 : Same (Wo H4 [D]) (Wo (upd H5 t (.tup (tupP (qi, qj)))) [D]) := Wo_of (n5.same.trans s6)
      refine ⟨(eW _).symm ▸ s3.trans s56, ⟨_, upd_same, ?_⟩, _, _, rfl⟩
      show Paired (NdE (Wo (upd (upd H5 t (.tup (tupP (qi, qj)))) D _) [D])) _ _
      rw [eW]
      have hnd : (nds g (kcol z) (krow z))[i]? = some ((qi, qj), needsOf g (kcol z) (krow z) qi qj) := by
        unfold nds
        rw [List.getElem?_map, eq]
        rfl
      rw [take_snoc hnd]
      refine Paired.snoc (Paired.mapP k2 fun x y w => w.mono s56) ⟨rfl, c, rfl, NL.woT (NL.mono n5.at_ s6) hD6⟩
    · rintro σ H3 ⟨s3, ⟨kvs, k1, k2⟩, u, v, rfl⟩
      rw [hl, ← nds_length g (kcol z) (krow z), List.take_length] at k2
      exact ⟨_, rfl, k D H3 (sB.trans (s3.trans (Wo_same _ _))) ⟨kvs, k1, Paired.mapP k2 fun x y w => w.mono (Wo_same _ _)⟩⟩
end
end K55
set_option Elab.async false
set_option linter.all false
set_option maxRecDepth 100000
set_option maxHeartbeats 4000000
namespace K55
open PySem PySem.Spec PyProof.Rows L2
section
variable {P : Program} {w : World} {K : PySem.W.Frag} {mg : Str → Option Value} {base : Heap}
theorem any_count (f : Pr → Bool) (l : List Pr) : l.any f = !decide (l.countP f = 0) := by
  by_cases h : l.countP f = 0
  · rw [decide_eq_true h]
    rw [List.countP_eq_zero] at h
    show l.any f = false
    rw [List.any_eq_false]
    exact h
  · rw [decide_eq_false h]
    show l.any f = true
    rw [List.any_eq_true]
    exact List.countP_pos_iff.mp (by omega)
theorem cnt_take {l : List Pr} {i : Nat} {q : Pr} (f : Pr → Bool) (h : l[i]? = some q) : (l.take (i + 1)).countP f = (l.take i).countP f + (if f q = true then 1 else 0) := by
  rw [take_snoc h, List.countP_append, List.countP_cons, List.countP_nil, Nat.zero_add]
def spLMet : Sp := fun vs H Q _ => ∃ (a d : Addr) (own : List (List Pr)) (placed : List Pr), vs = [.ref a, .ref d] ∧ NL H a own ∧ BhAt H d placed ∧ (∀ need ∈ own, need.length ≤ 2) ∧ ∀ H' : Hp, Same H H' → Q (.bl (met own placed)) H'
theorem df_l_met (T : Txt K mg) : Def P w K mg base 1 (He.ga K "_law_met") ["_law_own", "_law_placed"] spLMet := by
  obtain ⟨fd, F⟩ := T.D_l_met
  refine mkDef F sc_l_met (fun _ _ _ _ _ _ us hl => match us, hl with | [_, _], _ => rfl) (fun vs H Q E h => ?len) (fun cdv A outer s H vs Q E hr h => ?body)
  case len =>
    obtain ⟨a, d, own, placed, rfl, _⟩ := h
    rfl
  case body =>
    obtain ⟨a, d, own, placed, rfl, ha, hd, h2, k⟩ := h
    have hu := hu_of hr
    refine ⟨_, pss_cons (ps_for PassesOwn.never rfl (pi_list (pv 0)) (pg_name (i := 2) sc_l_met.nd rfl (Or.inl rfl)) (pss_one (ps_if (pt_cmpR op_eq (pe_callB (r := rLenOf K) (id := "len") call_len_seq (by rfl) T.f_len (by decide +kernel) (pa_cons (pe_lc (own := [("_law_spot", 3)]) (g := gName 3) (tt := tB (tDIn (tVar 3) (tVar 1))) (te := tVar 3) rfl sc_l_met.nd (pi_list (pv 2)) (blkOk_by (N := ["_law_own", "_law_placed", "_law_need", "_law_spot"]) (sc := defScope s_l_met) (by decide +kernel))
        (fun _ _ _ _ _ => pg_name (i := 3) sc_l_met.nd rfl (Or.inl rfl)) (fun _ _ _ _ _ => pts_one (pt_cmp (pc_din hu (pv 3) (pv 1)))) (fun _ _ _ _ _ => pv 3)) pa_nil)) pe_int (nomark _)) (pss_one (ps_ret pe_bl)) pss_nil)))
      (pss_one (ps_ret pe_bl)), ?_⟩
    obtain ⟨as, e1, e2⟩ := id ha
    have hl : (as.map V.ref).length = own.length := refs_len e2
    refine ⟨_, rfl, a, rfl, ⟨_, SqL.of e1⟩, for_it (walk_list (K := K) (a := a) (xs := as.map V.ref)) (fun i σ H2 => Same H H2 ∧ met (own.take i) placed = true ∧ ∃ u v, σ = [some (.ref a), some (.ref d), u, v])
      ⟨Same.refl _, rfl, none, none, rfl⟩ (fun i σ H2 _ p => SqL.of (p.1 _ _ e1)) ?_ ?_⟩
    · rintro i x σ H2 H3 hi ⟨s2, hm, u, v, rfl⟩ ⟨rfl, hx⟩
      obtain ⟨b, need, rfl, eq, rb⟩ := refs_at e2 hx
      obtain ⟨bs, f1, f2⟩ := PrL.mono rb s2
      have hbl : (bs.map V.ref).length = need.length := refs_len f2
      have hn2 : need.length ≤ 2 := h2 need (List.mem_of_getElem? eq)
      have hd3 : BhAt H3 d placed := s2 _ _ hd
      refine ⟨_, rfl, b, rfl, ⟨_, SqL.of f1⟩, fun D hD => ?_⟩
      refine walk_by (walk_list (K := K) (a := b) (xs := bs.map V.ref)) (fun j H4 => Same H3 H4 ∧ ∃ acc, H4 D = some (.lst acc) ∧ acc.length = (need.take j).countP (hit placed)) ⟨same_new hD, [], upd_same, rfl⟩ (fun j H4 _ p => SqL.of (p.1 _ _ f1)) ?_ ?_
      · rintro j y H4 H5 hj ⟨s4, acc, c1, c2⟩ ⟨rfl, hy⟩
        obtain ⟨c, q, rfl, eq2, rc⟩ := refs_at f2 hy
        refine ⟨rfl, _, rfl, _, rfl, d, _, rfl, DGet.t (k := keyP q) (s4 _ _ hd3) (s4 _ _ rc), _, rfl, ?_⟩
        rw [valV_bh]
        have ct := cnt_take (hit placed) eq2
        by_cases hp : q ∈ placed
        · rw [decide_eq_true hp]
          rw [if_pos (show hit placed q = true from decide_eq_true hp)] at ct
          have hle : (need.take j).countP (hit placed) ≤ need.length := Nat.le_trans List.countP_le_length (by rw [List.length_take]; exact Nat.min_le_right _ _)
          refine iteT ⟨_, rfl, acc, c1, small1000 (by omega), same_upd s4 hD, _, upd_same, ?_⟩
          rw [List.length_append, c2, ct]
          rfl
        · rw [decide_eq_false hp]
          rw [if_neg (by unfold hit; rw [decide_eq_false hp]; decide)] at ct
          exact iteF ⟨s4, acc, c1, by rw [c2, ct]; rfl⟩
      · rintro H4 ⟨s4, acc, c1, c2⟩
        rw [hbl, List.take_length] at c2
        refine ⟨D, acc, rfl, Or.inl (SqL.of c1), rfl, _, rfl, ?_⟩
        rw [c2, dec_int]
        have ea := any_count (hit placed) need
        have em : met (own.take (i + 1)) placed = (met (own.take i) placed && need.any (hit placed)) := by
          unfold met
          rw [take_snoc eq, List.all_append]
          simp
        by_cases hz : need.countP (hit placed) = 0
        · rw [hz]
          rw [decide_eq_true hz] at ea
          refine iteT ?_
          have hf : met own placed = false := by
            unfold met
            rw [List.all_eq_false]
            exact ⟨need, List.mem_of_getElem? eq, by rw [ea]; decide⟩
          rw [← hf]
          exact k H4 (s2.trans s4)
        · rw [decide_eq_false hz] at ea
          rw [show (((need.countP (hit placed) : Nat) : Int) == 0) = false from beq_eq_false_iff_ne.mpr (by omega)]
          exact iteF ⟨s2.trans s4, by rw [em, hm, ea]; rfl, _, _, rfl⟩
    · rintro σ H2 ⟨s2, hm, u, v, rfl⟩
      rw [hl, List.take_length] at hm
      show Q (.bl true) H2
      rw [← hm]
      exact k H2 s2
/-! the cells that may come next -/
theorem openL_succ {nd : Nds} {placed : List Pr} {i : Nat} {e : Pr × List (List Pr)} (h : nd[i]? = some e) : openL (nd.take (i + 1)) placed = openL (nd.take i) placed ++ (if (!hit placed e.1 && met e.2 placed) = true then [e.1] else []) := by
  unfold openL
  rw [take_snoc h, List.filter_append, List.map_append]
  congr 1
  by_cases c : (!hit placed e.1 && met e.2 placed) = true
  · rw [if_pos c, List.filter_cons, if_pos c]; rfl
  · rw [if_neg c, List.filter_cons, if_neg c]; rfl
theorem openL_len (nd : Nds) (placed : List Pr) (i : Nat) : (openL (nd.take i) placed).length ≤ nd.length := by
  unfold openL
  rw [List.length_map]
  refine Nat.le_trans (List.length_filter_le _ _) ?_
  rw [List.length_take]
  exact Nat.min_le_right _ _
/-- the needs' lists are short, the cells few, each once -/
structure NdOk (nd : Nds) : Prop where
  nodup : (nd.map (·.1)).Nodup
  two : ∀ e ∈ nd, ∀ need ∈ e.2, need.length ≤ 2
  le : nd.length ≤ 36
theorem nds_ok {g : Grid} (R : Rect g) (c w : Bool) : NdOk (nds g c w) := by
  refine ⟨keys_nodup g c w, ?_, by rw [nds_length]; exact spots_len R⟩
  rintro ⟨p, own⟩ h need hn
  obtain ⟨_, rfl⟩ := mem_nds.mp h
  exact needs_two need hn
theorem keys_paired {H : Hp} : ∀ {kvs : List (List L2.Key × V)} {nd : Nds} {bs : List Addr}, Paired (NdE H) kvs nd → ∀ {H1 : Hp}, IsKeys H1 kvs bs → Paired (PrA H1) bs (nd.map (·.1))
  | _, _, _, .nil, _, .nil => .nil
  | _, _, _, .cons h t, _, .cons h' t' => .cons (by
      have z := h'
      rw [h.1] at z
      exact z) (keys_paired t t')
def spLOpen : Sp := fun vs H Q _ => ∃ (d l : Addr) (nd : Nds) (placed : List Pr), vs = [.ref d, .ref l] ∧ NdAt H d nd ∧ NdOk nd ∧ BhAt H l placed ∧ ∀ (p : Addr) (H' : Hp), NewL PrA H p (openL nd placed) H' → Q (.ref p) H'
theorem df_l_open (T : Txt K mg) : Def P w K mg base 2 (He.ga K "_law_open") ["_law_needs_here", "_law_placed"] spLOpen := by
  obtain ⟨fd, F⟩ := T.D_l_open
  refine mkDef F sc_l_open (fun _ _ _ _ _ _ us hl => match us, hl with | [_, _], _ => rfl) (fun vs H Q E h => ?len) (fun cdv A outer s H vs Q E hr h => ?body)
  case len =>
    obtain ⟨d, l, nd, placed, rfl, _⟩ := h
    rfl
  case body =>
    obtain ⟨d, l, nd, placed, rfl, hd, ok, hp, k⟩ := h
    have hu := hu_of hr
    refine ⟨_, pss_cons (ps_set (i := 2) sc_l_open.nd rfl (Or.inl rfl) (pe_lst pa_nil)) (pss_cons (ps_for PassesOwn.never rfl (pi_list (pe_callTy (call_list_dT rfl) (by rfl) T.f_list (by decide +kernel) (pa_cons (pv 0) pa_nil))) (pg_name (i := 3) sc_l_open.nd rfl (Or.inl rfl))
      (pss_one (ps_if (PW.pt (pw_and (pt_cmp (pc_dnotin hu (pv 3) (pv 1))) (pw_and1 (pt_val (pd_call (df_l_met T) (hr) (by rfl) T.g_l_met (pa_cons (pe_dget hu (pv 0) (pv 3) (fun _ _ => rfl)) (pa_cons (pv 1) pa_nil))))))) (pss_one (ps_expr (pe_bm PySem.F.plainAttrs_list PySem.F.slot_list_append PySem.F.type_list_append mt_append (pv 2) (pa_cons (pv 3) pa_nil)))) pss_nil)))
      (pss_one (ps_ret (pv 2)))), ?_⟩
    refine ⟨Nat.zero_le _, fun D hD => ?_⟩
    have s0 : Same H (upd H D (.lst [])) := same_new hD
    obtain ⟨kvs, k1, k2⟩ := id hd
    refine ⟨_, rfl, d, kvs, rfl, .inl (s0 _ _ k1), fun p bs hp0 hk => ?_⟩
    have hbs : Paired (PrA (upd H D (.lst []))) bs (nd.map (·.1)) := keys_paired k2 hk
    have hl : (bs.map V.ref).length = nd.length := by rw [refs_len hbs, List.length_map]
    generalize hH1 : upd (upd H D (.lst [])) p (.lst (bs.map V.ref)) = H1
    have hpD : p ≠ D := fun z => by rw [z, upd_same] at hp0; cases hp0
    have g1 : Grow PrA H D (openL (nd.take 0) placed) H1 := by
      rw [← hH1]
      exact Grow.mono mono_PrA (Grow.start hD) (same_new hp0)
    have p1 : H1 p = some (.lst (bs.map V.ref)) := by rw [← hH1, upd_same]
    have t1 : Paired (PrA (Wo H1 [D])) bs (nd.map (·.1)) := Paired.mapP hbs fun b y z => by
      have z : (upd H D (.lst [])) b = some (.tup (tupP y)) := z
      show Wo H1 [D] b = _
      rw [Wo_out (fun m => by rw [List.mem_singleton.mp m, upd_same] at z; cases z), ← hH1]
      exact upd_keep z hp0
    have p1W : Wo H1 [D] p = some (.lst (bs.map V.ref)) := by rw [Wo_out (fun m => hpD (List.mem_singleton.mp m))]; exact p1
    refine ⟨p, rfl, ⟨_, SqL.of p1⟩, for_it (walk_list (K := K) (a := p) (xs := bs.map V.ref)) (fun i σ H2 => Same (Wo H1 [D]) (Wo H2 [D]) ∧ Grow PrA H D (openL (nd.take i) placed) H2 ∧ ∃ u, σ = [some (.ref d), some (.ref l), some (.ref D), u])
      ⟨Same.refl _, g1, none, rfl⟩ (fun i σ H2 _ q => SqL.of ((q.1.trans (Wo_same _ _)) _ _ p1W)) ?_ ?_⟩
    · rintro i x σ H2 H3 hi ⟨s2, g2, u, rfl⟩ ⟨rfl, hx⟩
      obtain ⟨b, q, rfl, eq, rb⟩ := refs_at t1 hx
      have rb3 : PrA H3 b q := (s2.trans (Wo_same _ _)) _ _ rb
      obtain ⟨⟨q', own⟩, en, eq'⟩ : ∃ e, nd[i]? = some e ∧ e.1 = q := by
        rw [List.getElem?_map] at eq
        cases w : nd[i]? with
        | none => rw [w] at eq; cases eq
        | some e => rw [w] at eq; exact ⟨e, rfl, Option.some.inj eq⟩
      have eq' : q' = q := eq'
      subst eq'
      have hp3 : BhAt H3 l placed := g2.sm _ _ hp
      refine ⟨_, rfl, _, rfl, l, _, rfl, DGet.t (k := keyP q') hp3 rb3, _, rfl, ?_⟩
      rw [valV_bh, openL_succ en]
      by_cases hq : q' ∈ placed
      · rw [decide_eq_true hq]
        rw [if_neg (c := (!hit placed q' && met own placed) = true) (by unfold hit; rw [decide_eq_true hq]; exact Bool.false_ne_true), List.append_nil]
        exact iteF (iteF ⟨s2, g2, _, rfl⟩)
      · rw [decide_eq_false hq]
        have hm : (q', own) ∈ nd := List.mem_of_getElem? en
        obtain ⟨c, c1, c2⟩ := (hd.mono g2.sm).get ok.nodup hm rb3
        refine iteT ⟨_, rfl, _, rfl, d, _, rfl, c1, _, rfl, c, l, own, placed, rfl, c2, hp3, ok.two _ hm, fun H4 s4 => ⟨_, rfl, ?_⟩⟩
        have g4 := g2.mono mono_PrA s4
        have s24 := s2.trans (Wo_of (ds := [D]) s4)
        have eh : hit placed q' = false := by unfold hit; rw [decide_eq_false hq]
        cases em : met own placed with
        | false =>
          rw [if_neg (c := (!hit placed q' && false) = true) (by rw [eh]; decide), List.append_nil]
          exact iteF ⟨s24, g4, _, rfl⟩
        | true =>
          rw [if_pos (c := (!hit placed q' && true) = true) (by rw [eh]; rfl)]
          obtain ⟨acc, f1, f2⟩ := g4.lst
          refine iteT ⟨_, rfl, Or.inl ⟨rfl, _, SqL.of f1⟩, _, rfl, D, acc, _, rfl, rfl, f1, ?_, ?_, g4.push f1 (PrA.wo (s4 _ _ rb3) f1), _, rfl⟩
          · rw [f2]
            have := openL_len nd placed i
            have := ok.le
            exact small1000 (by omega)
          · show Same (Wo H1 [D]) (Wo (upd H4 D _) [D])
            rw [Wo_upd (List.mem_singleton.mpr rfl)]
            exact s24
    · rintro σ H2 ⟨s2, g2, u, rfl⟩
      rw [hl, List.take_length] at g2
      exact ⟨_, rfl, k D H2 ⟨g2.sm, hD, g2.end mono_PrA⟩⟩
end
end K55
set_option Elab.async false
set_option linter.all false
set_option maxRecDepth 100000
set_option maxHeartbeats 4000000
namespace K55
open PySem PySem.Spec PyProof.Rows L2
section
variable {P : Program} {w : World} {K : PySem.W.Frag} {mg : Str → Option Value} {base : Heap}
theorem BhAt.put {H : Hp} {D : Addr} {placed : List Pr} {q : Pr} (hn : q ∉ placed) : putK (placed.map bhE) (keyP q) (.bl true) = (placed ++ [q]).map bhE := by
  have hv : valV (placed.map bhE) (keyP q) = none := valV_out (by
    rw [bh_keys]
    intro m
    obtain ⟨p, hp, e⟩ := List.mem_map.mp m
    rw [keyP_inj e] at hp
    exact hn hp)
  rw [putK_new _ hv, List.map_append]
  rfl
theorem Ord.own {nd : Nds} {one : List Pr} (o : Ord nd one) {i : Nat} {q : Pr} (h : one[i]? = some q) : ∃ own, (q, own) ∈ nd ∧ met own (one.take i) = true := by
  obtain ⟨⟨q', own⟩, hm, e⟩ := List.mem_map.mp (o.sub q (List.mem_of_getElem? h))
  have e : q' = q := e
  subst e
  exact ⟨own, hm, o.ok i q' own h hm⟩
theorem Ord.le {nd : Nds} {one : List Pr} (o : Ord nd one) (ok : NdOk nd) : one.length ≤ 36 := by rw [o.len]; exact ok.le
def spLIsRight : Sp := fun vs H Q _ => ∃ (d a : Addr) (nd : Nds) (one : List Pr), vs = [.ref d, .ref a] ∧ NdAt H d nd ∧ NdOk nd ∧ PrL H a one ∧ Ord nd one ∧ ∀ H' : Hp, Same H H' → Q (.bl true) H'
theorem df_l_is_right (T : Txt K mg) : Def P w K mg base 2 (He.ga K "_law_is_right") ["_law_needs_here", "_law_listed"] spLIsRight := by
  obtain ⟨fd, F⟩ := T.D_l_is_right
  refine mkDef F sc_l_is_right (fun _ _ _ _ _ _ us hl => match us, hl with | [_, _], _ => rfl) (fun vs H Q E h => ?len) (fun cdv A outer s H vs Q E hr h => ?body)
  case len =>
    obtain ⟨d, a, nd, one, rfl, _⟩ := h
    rfl
  case body =>
    obtain ⟨d, a, nd, one, rfl, hd, ok, ha, o, k⟩ := h
    have hu := hu_of hr
    refine ⟨_, pss_cons (ps_set (i := 2) sc_l_is_right.nd rfl (Or.inl rfl) (pe_dnewT)) (pss_cons (ps_for PassesOwn.never rfl (pi_list (pv 1)) (pg_name (i := 3) sc_l_is_right.nd rfl (Or.inl rfl))
      (pss_cons (ps_if (pt_not (pt_val (pd_call (df_l_met T) (hr) (by rfl) T.g_l_met (pa_cons (pe_dget hu (pv 0) (pv 3) (fun _ _ => rfl)) (pa_cons (pv 2) pa_nil))))) (pss_one (ps_ret pe_bl)) pss_nil)
      (pss_one (ps_dput hu (pv 2) (pv 3) pe_bl rfl))))
      (pss_one (ps_ret pe_bl))), ?_⟩
    refine fun D hD => ?_
    obtain ⟨as, e1, e2⟩ := id ha
    have hl : (as.map V.ref).length = one.length := refs_len e2
    have s0 : Same H (upd H D (.dT [])) := same_new hD
    have hle := o.le ok
    refine ⟨_, rfl, a, rfl, ⟨_, SqL.of (s0 _ _ e1)⟩, for_it (walk_list (K := K) (a := a) (xs := as.map V.ref)) (fun i σ H2 => Same H H2 ∧ BhAt H2 D (one.take i) ∧ ∃ u, σ = [some (.ref d), some (.ref a), some (.ref D), u])
      ⟨s0, upd_same, none, rfl⟩ (fun i σ H2 _ q => SqL.of (q.1 _ _ e1)) ?_ ?_⟩
    · rintro i x σ H2 H3 hi ⟨s2, hb, u, rfl⟩ ⟨rfl, hx⟩
      obtain ⟨b, q, rfl, eq, rb⟩ := refs_at e2 hx
      obtain ⟨own, hm, hmet⟩ := o.own eq
      have rb3 : PrA H3 b q := s2 _ _ rb
      obtain ⟨c, c1, c2⟩ := (hd.mono s2).get ok.nodup hm rb3
      refine ⟨_, rfl, _, rfl, d, _, rfl, c1, _, rfl, c, D, own, one.take i, rfl, c2, hb, ok.two _ hm, fun H4 s4 => ⟨_, rfl, ?_⟩⟩
      rw [hmet]
      refine iteF ⟨_, rfl, _, rfl, D, _, rfl, DPut.t (k := keyP q) (s4 _ _ hb) (s4 _ _ rb3) ?_, ?_⟩
      · rw [List.length_map, List.length_take]
        exact small1000 (by omega)
      · rw [BhAt.put (H := H) (D := D) (not_in_take o.nodup eq (Nat.le_refl i)), ← take_snoc eq]
        exact ⟨same_upd (s2.trans s4) hD, upd_same, _, rfl⟩
    · rintro σ H2 ⟨s2, hb, u, rfl⟩
      exact k H2 s2
def IntL (H : Hp) (b : Addr) (ds : List Int) : Prop := H b = some (.lst (ds.map V.int))
theorem bh_paired {H : Hp} : ∀ {ps : List Pr} {bs : List Addr}, IsKeys H (ps.map bhE) bs → Paired (PrA H) bs ps
  | [], _, .nil => .nil
  | _ :: _, _, .cons h t => .cons h (bh_paired t)
theorem atI_pos {xs : List V} {j : Nat} {i : Int} {v : V} (e : i = (j : Int)) (h : xs[j]? = some v) : atI xs i = some v := by
  rw [e]
  exact atI_nat h
theorem ints_at {ds : List Int} {j : Nat} (h : j < ds.length) : (ds.map V.int)[j]? = some (.int (ds[j])) := by
  rw [List.getElem?_map, List.getElem?_eq_getElem h]; rfl
def spLWalk : Sp := fun vs H Q _ => ∃ (d b : Addr) (nd : Nds) (ds : List Int), vs = [.ref d, .ref b] ∧ NdAt H d nd ∧ NdOk nd ∧ IntL H b ds ∧ nd.length ≤ ds.length ∧
  (∀ (p : Addr) (H' : Hp) (one : List Pr), NewL PrA H p one H' → Ord nd one → Q (.ref p) H') ∧ ∀ H' : Hp, Same H H' → ¬ NoStuck nd → Q .non H'
theorem df_l_walk (T : Txt K mg) : Def P w K mg base 3 (He.ga K "_law_walk") ["_law_needs_here", "_law_picks"] spLWalk := by
  obtain ⟨fd, F⟩ := T.D_l_walk
  refine mkDef F sc_l_walk (fun _ _ _ _ _ _ us hl => match us, hl with | [_, _], _ => rfl) (fun vs H Q E h => ?len) (fun cdv A outer s H vs Q E hr h => ?body)
  case len =>
    obtain ⟨d, b, nd, ds, rfl, _⟩ := h
    rfl
  case body =>
    obtain ⟨d, b, nd, ds, rfl, hd, ok, hb, hz, k1, k2⟩ := h
    have hu := hu_of hr
    refine ⟨_, pss_cons (ps_set (i := 2) sc_l_walk.nd rfl (Or.inl rfl) (pe_dnewT)) (pss_cons (ps_for PassesOwn.never rfl (pi_range1 (by rfl) T.f_range (pa_cons (pe_callB call_len_dT (by rfl) T.f_len (by decide +kernel) (pa_cons (pv 0) pa_nil)) pa_nil)) (pg_name (i := 3) sc_l_walk.nd rfl (Or.inl rfl))
      (pss_cons (ps_set (i := 4) sc_l_walk.nd rfl (Or.inl rfl) (pd_call (df_l_open T) (hr) (by rfl) T.g_l_open (pa_cons (pv 0) (pa_cons (pv 2) pa_nil))))
      (pss_cons (ps_if (pt_cmpR op_eq (pe_callB (r := rLenOf K) (id := "len") call_len_seq (by rfl) T.f_len (by decide +kernel) (pa_cons (pv 4) pa_nil)) pe_int (nomark _)) (pss_one (ps_ret pe_non)) pss_nil)
      (pss_one (ps_dput hu (pv 2) (pe_ix (r := rIxL K) ix_list (pv 4) (pe_op op_mod (pe_callTy call_int1 (by rfl) T.f_int (by decide +kernel) (pa_cons (pe_ix (r := rIxL K) ix_list (pv 1) (pv 3) (fun _ _ => rfl)) pa_nil)) (pe_callB (r := rLenOf K) (id := "len") call_len_seq (by rfl) T.f_len (by decide +kernel) (pa_cons (pv 4) pa_nil))) (fun _ _ => rfl)) pe_bl rfl)))))
      (pss_one (ps_ret (pe_callTy (call_list_dT rfl) (by rfl) T.f_list (by decide +kernel) (pa_cons (pv 2) pa_nil))))), ?_⟩
    refine fun D hD => ?_
    have s0 : Same H (upd H D (.dT [])) := same_new hD
    obtain ⟨kvs, n1, n2⟩ := id hd
    have hkl : kvs.length = nd.length := Paired.length n2
    have hle := ok.le
    refine ⟨_, rfl, d, kvs, rfl, s0 _ _ n1, _, rfl, by omega, by omega, for_rng (n := nd.length) (by rw [hkl, Int.toNat_natCast]) (fun i σ H2 => Same H H2 ∧ (∃ placed, BhAt H2 D placed ∧ Part nd placed ∧ placed.length = i) ∧ ∃ u v, σ = [some (.ref d), some (.ref b), some (.ref D), u, v])
      ⟨s0, ⟨[], upd_same, part_nil nd, rfl⟩, none, none, rfl⟩ ?_ ?_⟩
    · rintro i σ H2 hi ⟨s2, ⟨placed, hp, pt, pl⟩, u, v, rfl⟩
      refine ⟨_, rfl, _, rfl, d, D, nd, placed, rfl, hd.mono s2, ok, hp, fun p H3 n3 => ?_⟩
      obtain ⟨as, f1, f2⟩ := n3.at_
      have hfl : (as.map V.ref).length = (openL nd placed).length := refs_len f2
      refine ⟨_, rfl, p, _, rfl, Or.inl (SqL.of f1), rfl, _, rfl, ?_⟩
      rw [hfl, dec_int]
      by_cases hz0 : (openL nd placed).length = 0
      · rw [hz0]
        refine iteT (k2 H3 (s2.trans n3.same) fun ns => ?_)
        exact ns placed (by omega) (List.length_eq_zero_iff.mp hz0)
      · rw [show (((openL nd placed).length : Int) == 0) = false from beq_eq_false_iff_ne.mpr (by omega)]
        have s3 := s2.trans n3.same
        have hids : i < ds.length := by omega
        obtain ⟨j, hj, ej⟩ : ∃ j : Nat, j < (openL nd placed).length ∧ ds[i] % ((openL nd placed).length : Nat) = (j : Int) := by
          have m1 := Int.emod_nonneg ds[i] (show (((openL nd placed).length : Nat) : Int) ≠ 0 by omega)
          have m2 := Int.emod_lt_of_pos ds[i] (show (0 : Int) < (((openL nd placed).length : Nat) : Int) by omega)
          exact ⟨(ds[i] % ((openL nd placed).length : Nat)).toNat, by omega, by omega⟩
        obtain ⟨c, c1, c2⟩ := Paired.at f2 (List.getElem?_eq_getElem hj)
        have c1' : (as.map V.ref)[j]? = some (.ref c) := by rw [List.getElem?_map, c1]; rfl
        have hq : (openL nd placed)[j] ∈ openL nd placed := List.getElem_mem hj
        generalize (openL nd placed)[j] = q at c2 hq
        have hp3 : BhAt H3 D placed := n3.same _ _ hp
        have hb3 : IntL H3 b ds := s3 _ _ hb
        refine iteF ⟨_, rfl, _, rfl, _, rfl, _, rfl, _, _, _, _, rfl, rfl, SqL.of hb3, atI_nat (ints_at hids), Or.inl ⟨_, rfl, ?_⟩⟩
        refine ⟨_, rfl, p, _, rfl, Or.inl (SqL.of f1), _, _, rfl, rfl, ?_, ?_⟩
        · rw [hfl]; omega
        rw [hfl]
        refine ⟨_, _, _, _, rfl, rfl, SqL.of f1, atI_pos ej c1', ?_⟩
        refine ⟨D, _, rfl, DPut.t (k := keyP q) hp3 c2 ?_, ?_⟩
        · rw [List.length_map]
          exact small1000 (by omega)
        · rw [BhAt.put (H := H) (D := D) (mem_openL.mp hq).1]
          exact ⟨same_upd s3 hD, ⟨_, upd_same, part_snoc ok.nodup pt hq, by rw [List.length_append, pl]; rfl⟩, _, _, rfl⟩
    · rintro σ H2 ⟨s2, ⟨placed, hp, pt, pl⟩, u, v, rfl⟩
      refine ⟨_, rfl, D, _, rfl, .inl hp, fun p bs hp0 hk => ?_⟩
      have hbs := bh_paired hk
      refine k1 p _ placed ⟨same_upd s2 (s2.free hp0), s2.free hp0, bs, upd_same, Paired.mapP hbs fun x y z => upd_keep z hp0⟩ ⟨pt, pl⟩
end
end K55
set_option Elab.async false
set_option linter.all false
set_option maxRecDepth 100000
set_option maxHeartbeats 4000000
namespace K55
open PySem PySem.Spec PyProof.Rows L2
section
variable {P : Program} {w : World} {K : PySem.W.Frag} {mg : Str → Option Value} {base : Heap}
def spLUnlike : Sp := fun vs H Q _ => ∃ (a b : Addr) (ps qs : List Pr), vs = [.ref a, .ref b] ∧ PrL H a ps ∧ PrL H b qs ∧ ps.Perm qs ∧ ps.Nodup ∧ ps.length ≤ 36 ∧ ∀ H' : Hp, Same H H' → Q (.int (invAt qs ps : Nat)) H'
theorem df_l_unlike (T : Txt K mg) : Def P w K mg base 1 (He.ga K "_law_unlike") ["_law_one", "_law_two"] spLUnlike := by
  obtain ⟨fd, F⟩ := T.D_l_unlike
  refine mkDef F sc_l_unlike (fun _ _ _ _ _ _ us hl => match us, hl with | [_, _], _ => rfl) (fun vs H Q E h => ?len) (fun cdv A outer s H vs Q E hr h => ?body)
  case len =>
    obtain ⟨a, b, ps, qs, rfl, _⟩ := h
    rfl
  case body =>
    obtain ⟨a, b, ps, qs, rfl, ha, hb, hpm, hn, hz, k⟩ := h
    have hu := hu_of hr
    have hu65 := hu65_of hr
    refine ⟨_, pss_cons (ps_set (i := 2) sc_l_unlike.nd rfl (Or.inl rfl) (pe_int))
      (pss_cons (ps_for PassesOwn.never rfl (pi_enum (by rfl) T.f_enumerate (pa_cons (pv 0) pa_nil)) (pg_tup (by rfl) (pgs_cons (pg_name (i := 3) sc_l_unlike.nd rfl (Or.inl rfl)) (pgs_cons (pg_name (i := 4) sc_l_unlike.nd rfl (Or.inl rfl)) pgs_nil)))
        (pss_cons (ps_set (i := 5) sc_l_unlike.nd rfl (Or.inr rfl) (pe_bm PySem.F.plainAttrs_list PySem.F.slot_list_index PySem.F.type_list_index (mt_indexD hu65) (pv 1) (pa_cons (pv 4) pa_nil)))
        (pss_one (ps_aug (i := 2) sc_l_unlike.nd rfl (Or.inl rfl) (pe_callB (r := rLenOf K) (id := "len") call_len_seq (by rfl) T.f_len (by decide +kernel) (pa_cons (pe_lc (own := [("_law_k", 6)]) (g := gName 6) (tt := tTest (tOp (rI0 fun i j => .bl (decide (i < j))) (tBM K "list" (rIndexD K) (tVar 1) (tCons (tVar 6) tNil)) (tVar 5))) (te := tVar 6) rfl sc_l_unlike.nd (pi_list (pe_slice sl_list (pv 0) (po_some (pe_op op_add (pv 3) pe_int)) po_none)) (blkOk_by (N := ["_law_one", "_law_two", "_law_total", "_law_at", "_law_spot", "_law_here", "_law_k"]) (sc := defScope s_l_unlike) (by decide +kernel))
          (fun _ _ _ _ _ => pg_name (i := 6) sc_l_unlike.nd rfl (Or.inl rfl)) (fun _ _ _ _ _ => pts_one (pt_cmpR op_lt (pe_bm PySem.F.plainAttrs_list PySem.F.slot_list_index PySem.F.type_list_index (mt_indexD hu65) (pv 1) (pa_cons (pv 6) pa_nil)) (pv 5) (nomark _))) (fun _ _ _ _ _ => pv 6)) pa_nil)) ip_add))))
      (pss_one (ps_ret (pv 2)))), ?_⟩
    obtain ⟨as, e1, e2⟩ := id ha
    have hl : (as.map V.ref).length = ps.length := refs_len e2
    have hnq : qs.Nodup := hpm.nodup_iff.mp hn
    refine ⟨_, rfl, a, _, rfl, SqL.of e1, for_it (walk_enum (K := K) (a := a) (xs := as.map V.ref)) (fun i σ H5 => Same H H5 ∧ ∃ (x y z w : Option V) (n : Nat), n + invAt qs (ps.drop i) = invAt qs ps ∧ σ = [some (.ref a), some (.ref b), some (.int (n : Nat)), x, y, z, w]) ⟨Same.refl _, none, none, none, none, 0, by simp, rfl⟩ (fun i σ H5 _ p => SqL.of (p.1 _ _ e1)) ?_ ?_⟩
    · rintro i v σ H5 H6 hi ⟨s5, x, y, z, w, n, hni, rfl⟩ ⟨p, y1, y2, rfl, np, rfl, hy1, hy2⟩
      cases hy1
      obtain ⟨c, q, rfl, eq, rc⟩ := refs_at e2 hy2
      have s6 : Same H (upd H5 p (.tup [.int (i : Nat), .ref c])) := s5.trans (same_new np)
      have hb6 := hb.mono s6
      have hq : q ∈ qs := hpm.mem_iff.mp (List.mem_of_getElem? eq)
      refine ⟨p, _, rfl, SqT.of upd_same, rfl, _, _, rfl, _, _, rfl, rfl, ?_⟩
      refine ⟨_, rfl, Or.inl ⟨rfl, _, SqL.of hb6.choose_spec.1⟩, _, rfl, ?_⟩
      unfold tNil
      show rIndexD K (.ref b) [.ref c] _ _
      refine index_ok hb6 (s6 _ _ rc) hnq hq ?_
      refine ⟨_, rfl, _, rfl, _, rfl, _, _, rfl, rfl, _, rfl, a, _, rfl, SqL.of (s6 _ _ e1), fun R hR => ?_⟩
      rw [show ((i : Nat) : Int) + 1 = ((i + 1 : Nat) : Int) from rfl, cut_from, ← List.map_drop]
      have e2' : Paired (PrA H) (as.drop (i + 1)) (ps.drop (i + 1)) := paired_drop e2 _
      have hil : i < ps.length := (List.getElem?_eq_some_iff.mp eq).1
      rw [inv_cons eq] at hni
      have hl2 : ((as.drop (i + 1)).map V.ref).length = (ps.drop (i + 1)).length := refs_len e2'
      generalize hH7 : upd (upd H5 p (.tup [.int (i : Nat), .ref c])) R (.lst ((as.drop (i + 1)).map V.ref)) = H7
      have s7 : Same H H7 := by rw [← hH7]; exact s6.trans (same_new hR)
      have r7 : H7 R = some (.lst ((as.drop (i + 1)).map V.ref)) := by rw [← hH7, upd_same]
      refine ⟨R, rfl, ⟨_, SqL.of r7⟩, fun D hD => ?_⟩
      refine walk_by (walk_list (K := K) (a := R) (xs := (as.drop (i + 1)).map V.ref)) (fun j H8 => Same H7 H8 ∧ ∃ acc, H8 D = some (.lst acc) ∧ acc.length = ((ps.drop (i + 1)).take j).countP (fun y => decide (qs.idxOf y < qs.idxOf q))) ⟨same_new hD, [], upd_same, rfl⟩ (fun j H8 _ p => SqL.of (p.1 _ _ r7)) ?_ ?_
      · rintro j u H8 H9 hj ⟨s8, acc, c1, c2⟩ ⟨rfl, hu8⟩
        obtain ⟨f, q2, rfl, eq2, rf⟩ := refs_at e2' hu8
        have m1 : q2 ∈ qs := hpm.mem_iff.mp (List.mem_of_mem_drop (List.mem_of_getElem? eq2))
        have hb9 := hb.mono (s7.trans s8)
        refine ⟨rfl, _, rfl, Or.inl ⟨rfl, _, SqL.of hb9.choose_spec.1⟩, _, rfl, ?_⟩
        show rIndexD K (.ref b) [.ref f] _ _
        refine index_ok hb9 ((s7.trans s8) _ _ rf) hnq m1 ?_
        refine ⟨_, rfl, _, _, rfl, rfl, _, rfl, ?_⟩
        have ct := cnt_take (fun y => decide (qs.idxOf y < qs.idxOf q)) eq2
        by_cases hlt : qs.idxOf q2 < qs.idxOf q
        · rw [decide_eq_true (show ((qs.idxOf q2 : Nat) : Int) < (qs.idxOf q : Nat) by omega)]
          rw [if_pos (decide_eq_true hlt)] at ct
          have hle : ((ps.drop (i + 1)).take j).countP (fun y => decide (qs.idxOf y < qs.idxOf q)) ≤ ps.length := Nat.le_trans List.countP_le_length (by rw [List.length_take, List.length_drop]; omega)
          refine iteT ⟨_, rfl, acc, c1, small1000 (by omega), same_upd s8 hD, _, upd_same, ?_⟩
          rw [List.length_append, c2, ct]
          rfl
        · rw [decide_eq_false (show ¬ ((qs.idxOf q2 : Nat) : Int) < (qs.idxOf q : Nat) by omega)]
          rw [if_neg (by simpa using hlt)] at ct
          exact iteF ⟨s8, acc, c1, by rw [c2, ct]; rfl⟩
      · rintro H8 ⟨s8, acc, c1, c2⟩
        rw [hl2, List.take_length] at c2
        refine ⟨D, acc, rfl, Or.inl (SqL.of c1), _, _, rfl, rfl, ?_⟩
        exact ⟨s7.trans s8, _, _, _, _, n + acc.length, by rw [c2]; omega, rfl⟩
    · rintro σ H5 ⟨s5, x, y, z, w, n, hn2, rfl⟩
      rw [hl, List.drop_length] at hn2
      have hn2 : n + 0 = invAt qs ps := hn2
      refine ⟨_, rfl, ?_⟩
      rw [show n = invAt qs ps by omega]
      exact k _ s5
theorem eqv_pDs : ∀ ps : List Pr, PyData.eqvAll (ps.map pD) (ps.map pD) = true
  | [] => by simp only [List.map_nil, PyData.eqvAll]
  | p :: ps => by
    simp only [List.map_cons, PyData.eqvAll, pD_eqv, eqv_pDs ps, Bool.and_true, decide_true]
theorem eqv_pL (ps : List Pr) : PyData.eqv (.list (ps.map pD)) (.list (ps.map pD)) = true := by
  simp only [PyData.eqv]
  exact eqv_pDs ps
/-- two lists of the same pairs are equal -/
theorem eq_pairs {H : Hp} {a b : Addr} {ps : List Pr} {Q : VK} (ha : PrL H a ps) (hb : PrL H b ps) (k : Q (.bl true) H) : rEqD K (.ref a) (.ref b) H Q := by
  refine ⟨_, _, dp_list ha, dp_list hb, pDs_shaped ps, pDs_shaped ps, ?_⟩
  rw [eqv_pL]
  exact k
theorem cut_to {xs : List V} {k : Nat} (h : k ≤ xs.length) : cutV xs none (some (k : Int)) = xs.take k := by
  unfold cutV
  rw [HT.sIx_nat, HT.sIx_none, List.drop_zero, Nat.min_eq_left h]
  rfl
theorem PrL.at {H : Hp} {a : Addr} {ps : List Pr} (h : PrL H a ps) {k : Nat} (hk : k < ps.length) : ∃ (as : List Addr) (b : Addr), H a = some (.lst (as.map V.ref)) ∧ (as.map V.ref)[k]? = some (.ref b) ∧ PrA H b (ps.getD k (0, 0)) := by
  obtain ⟨as, b, h1, h2, h3⟩ := LL.at h (List.getElem?_eq_getElem hk)
  exact ⟨as, b, h1, h2, by rw [getD_in _ hk]; exact h3⟩
/-- the state of a lead behind i steps -/
def ledAt (one : List Pr) (told : List Nat) (i : Nat) : List Pr := (told.take i).foldl swapAt one
theorem ledAt_succ {one : List Pr} {told : List Nat} {i k : Nat} (h : told[i]? = some k) : ledAt one told (i + 1) = swapAt (ledAt one told i) k := by
  unfold ledAt
  rw [take_snoc h, List.foldl_append]
  rfl
theorem paired_append {α β : Type} {F : α → β → Prop} : ∀ {l l' : List α} {m m' : List β}, Paired F l m → Paired F l' m' → Paired F (l ++ l') (m ++ m')
  | _, _, _, _, .nil, h => h
  | _, _, _, _, .cons r t, h => .cons r (paired_append t h)
theorem pairs_swap {H : Hp} {as : List Addr} {now : List Pr} {k : Nat} {b0 b1 : Addr} (h : Paired (PrA H) as now) (h0 : PrA H b0 (now.getD k (0, 0))) (h1 : PrA H b1 (now.getD (k + 1) (0, 0))) : Paired (PrA H) (as.take k ++ ([b1, b0] ++ as.drop (k + 2))) (swapAt now k) :=
  paired_append (paired_take h k) (.cons h1 (.cons h0 (paired_drop h (k + 2))))
def spLLeads : Sp := fun vs H Q _ => ∃ (d a b c : Addr) (nd : Nds) (one two : List Pr) (told : List Nat), vs = [.ref d, .ref a, .ref b, .ref c] ∧ NdAt H d nd ∧ NdOk nd ∧ PrL H a one ∧ PrL H b two ∧ H c = some (.lst (told.map nV)) ∧
  Ord nd one ∧ Ord nd two ∧ Lead nd one told two ∧ told.length = invAt two one ∧ ∀ H' : Hp, Same H H' → Q (.bl true) H'
theorem df_l_leads (T : Txt K mg) : Def P w K mg base 2 (He.ga K "_law_leads") ["_law_needs_here", "_law_one", "_law_two", "_law_told"] spLLeads := by
  obtain ⟨fd, F⟩ := T.D_l_leads
  refine mkDef F sc_l_leads (fun _ _ _ _ _ _ us hl => match us, hl with | [_, _, _, _], _ => rfl) (fun vs H Q E h => ?len) (fun cdv A outer s H vs Q E hr h => ?body)
  case len =>
    obtain ⟨d, a, b, c, nd, one, two, told, rfl, _⟩ := h
    rfl
  case body =>
    obtain ⟨d, a, b, c, nd, one, two, told, rfl, hd, ok, ha, hb, hc, o1, o2, L, hlen, k⟩ := h
    have hu := hu_of hr
    have hu65 := hu65_of hr
    have hpm := ord_perm o1 o2
    have h36 := o1.le ok
    refine ⟨_, pss_cons (ps_if (PW.pt (pw_or (pt_not (pt_val (pe_callB call_isi (by rfl) T.f_isinstance (by decide +kernel) (pa_cons (pv 3) (pa_cons (pe_bltn (v := .ty "list") (by rfl) T.f_list (by decide +kernel) rfl) pa_nil))))) (pw_or1 (pt_cmpR op_ne (pe_callB (r := rLenOf K) (id := "len") call_len_seq (by rfl) T.f_len (by decide +kernel) (pa_cons (pv 3) pa_nil)) (pd_call (df_l_unlike T) (hr) (by rfl) T.g_l_unlike (pa_cons (pv 1) (pa_cons (pv 2) pa_nil))) (nomark _))))) (pss_one (ps_ret pe_bl)) pss_nil)
      (pss_cons (ps_set (i := 4) sc_l_leads.nd rfl (Or.inl rfl) (pe_callTy (r := rListOf K) (T := "list") call_list_of (by rfl) T.f_list (by decide +kernel) (pa_cons (pv 1) pa_nil)))
      (pss_cons (ps_for PassesOwn.never rfl (pi_list (pv 3)) (pg_name (i := 5) sc_l_leads.nd rfl (Or.inl rfl))
        (pss_cons (ps_if (PW.pt (pw_or (pt_not (pt_val (pe_callB call_isi (by rfl) T.f_isinstance (by decide +kernel) (pa_cons (pv 5) (pa_cons (pe_bltn (v := .ty "int") (by rfl) T.f_int (by decide +kernel) rfl) pa_nil))))) (pw_or1 (pt_val (pe_callB call_isi (by rfl) T.f_isinstance (by decide +kernel) (pa_cons (pv 5) (pa_cons (pe_bltn (v := .ty "bool") (by rfl) T.f_bool (by decide +kernel) rfl) pa_nil))))))) (pss_one (ps_ret pe_bl)) pss_nil)
        (pss_cons (ps_if (PW.pt (pw_or (pt_cmpR op_lt (pv 5) pe_int (nomark _)) (pw_or1 (pt_cmpR op_gt (pv 5) (pe_op op_sub (pe_callB (r := rLenOf K) (id := "len") call_len_seq (by rfl) T.f_len (by decide +kernel) (pa_cons (pv 4) pa_nil)) pe_int) (nomark _))))) (pss_one (ps_ret pe_bl)) pss_nil)
        (pss_cons (ps_set (i := 6) sc_l_leads.nd rfl (Or.inl rfl) (pe_dnewT))
        (pss_cons (ps_for PassesOwn.never rfl (pi_list (pe_slice sl_list (pv 4) po_none (po_some (pv 5)))) (pg_name (i := 7) sc_l_leads.nd rfl (Or.inl rfl)) (pss_one (ps_dput hu (pv 6) (pv 7) pe_bl rfl)))
        (pss_cons (ps_if (pt_not (pt_val (pd_call (df_l_met T) (hr) (by rfl) T.g_l_met (pa_cons (pe_dget hu (pv 0) (pe_ix (r := rIxL K) ix_list (pv 4) (pe_op op_add (pv 5) pe_int) (fun _ _ => rfl)) (fun _ _ => rfl)) (pa_cons (pv 6) pa_nil))))) (pss_one (ps_ret pe_bl)) pss_nil)
        (pss_one (ps_set (i := 4) sc_l_leads.nd rfl (Or.inl rfl) (pe_op op_cat (pe_op op_cat (pe_slice sl_list (pv 4) po_none (po_some (pv 5))) (pe_lst (pa_cons (pe_ix (r := rIxL K) ix_list (pv 4) (pe_op op_add (pv 5) pe_int) (fun _ _ => rfl)) (pa_cons (pe_ix (r := rIxL K) ix_list (pv 4) (pv 5) (fun _ _ => rfl)) pa_nil)))) (pe_slice sl_list (pv 4) (po_some (pe_op op_add (pv 5) pe_int)) po_none))))))))))
      (pss_one (ps_ret (pe_cmpR (op_eqD (Nat.lt_of_le_of_lt (Nat.le_succ _) hu65)) (pv 4) (pv 2) (nomark _)))))), ?_⟩
    refine ⟨_, rfl, _, _, _, _, true, rfl, .ty "list", .base (.lst hc), kit_ty (by decide +kernel), _, rfl, iteF ?_⟩
    refine ⟨_, rfl, c, _, rfl, Or.inl (SqL.of hc), _, rfl, _, rfl, a, b, one, two, rfl, ha, hb, hpm, o1.nodup, h36, fun H1 s1 => ⟨rfl, _, rfl, ?_⟩⟩
    rw [List.length_map, hlen]
    refine iteNS rfl ?_
    obtain ⟨as0, e1, e2⟩ := id ha
    refine ⟨_, rfl, a, _, rfl, Or.inl (SqL.of (s1 _ _ e1)), fun n0 hn0 => ?_⟩
    generalize hH2 : upd H1 n0 (.lst (as0.map V.ref)) = H2
    have s2 : Same H H2 := by rw [← hH2]; exact s1.trans (same_new hn0)
    have p2 : PrL H2 n0 (ledAt one told 0) := ⟨as0, by rw [← hH2, upd_same], Paired.mapP e2 fun x y z => s2 _ _ z⟩
    have hc2 := s2 _ _ hc
    have hlt : (told.map nV).length = told.length := List.length_map _
    refine ⟨_, rfl, c, rfl, ⟨_, SqL.of hc2⟩, for_it (walk_list (K := K) (a := c) (xs := told.map nV)) (fun i σ H3 => Same H2 H3 ∧ ∃ n, PrL H3 n (ledAt one told i) ∧ ∃ u v w, σ = [some (.ref d), some (.ref a), some (.ref b), some (.ref c), some (.ref n), u, v, w])
      ⟨Same.refl _, n0, p2, none, none, none, rfl⟩ (fun i σ H3 _ q => SqL.of (q.1 _ _ hc2)) ?_ ?_⟩
    · rintro i x σ H3 H4 hi ⟨s3, n, pn, u, v, w, rfl⟩ ⟨rfl, hx⟩
      obtain ⟨k', ek, rfl⟩ : ∃ k', told[i]? = some k' ∧ x = nV k' := by
        rw [List.getElem?_map] at hx
        cases e : told[i]? with
        | none => rw [e] at hx; cases hx
        | some r => rw [e] at hx; exact ⟨r, rfl, (Option.some.inj hx).symm⟩
      obtain ⟨hk2, hmp⟩ := L.ok i k' ek
      have eL : (told.take i).foldl swapAt one = ledAt one told i := rfl
      rw [eL] at hk2 hmp
      have hpi : (ledAt one told i).Perm one := lead_len L i (by
        have : i < told.length := (List.getElem?_eq_some_iff.mp ek).1
        omega)
      rw [ledAt_succ ek]
      generalize ledAt one told i = now at pn hk2 hmp hpi
      have hnow : now.Nodup := hpi.nodup_iff.mpr o1.nodup
      have hnl : now.length ≤ 36 := by rw [hpi.length_eq]; exact h36
      obtain ⟨as, f1, f2⟩ := id pn
      have hal : (as.map V.ref).length = now.length := refs_len f2
      obtain ⟨b0, hb0, rb0⟩ := Paired.at f2 (show now[k']? = some (now.getD k' (0, 0)) by rw [getD_in _ (show k' < now.length by omega)]; exact List.getElem?_eq_getElem _)
      obtain ⟨b1, hb1, rb1⟩ := Paired.at f2 (show now[k' + 1]? = some (now.getD (k' + 1) (0, 0)) by rw [getD_in _ (show k' + 1 < now.length by omega)]; exact List.getElem?_eq_getElem _)
      have ib0 : (as.map V.ref)[k']? = some (.ref b0) := by rw [List.getElem?_map, hb0]; rfl
      have ib1 : (as.map V.ref)[k' + 1]? = some (.ref b1) := by rw [List.getElem?_map, hb1]; rfl
      -- the step is an int in its bounds
      refine ⟨_, rfl, _, _, _, _, true, rfl, .ty "int", .base (.int _), kit_ty (by decide +kernel), _, rfl, iteF ?_⟩
      refine ⟨_, rfl, _, _, _, _, false, rfl, .ty "bool", .base (.int _), kit_ty (by decide +kernel), _, rfl, iteF ?_⟩
      refine ⟨_, rfl, _, _, rfl, rfl, _, rfl, ?_⟩
      rw [decide_eq_false (show ¬ ((k' : Nat) : Int) < 0 by omega)]
      refine iteF ⟨_, rfl, _, rfl, n, _, rfl, Or.inl (SqL.of f1), _, _, rfl, rfl, _, _, rfl, rfl, _, rfl, ?_⟩
      rw [hal, decide_eq_false (show ¬ ((now.length : Nat) : Int) - 2 < (k' : Nat) by omega)]
      refine iteF ?_
      -- what stands in front of the step
      refine fun D hD => ?_
      have hDn : D ≠ n := fun z => by rw [z, f1] at hD; cases hD
      have s4 : Same H4 (upd H4 D (.dT [])) := same_new hD
      refine ⟨_, rfl, _, rfl, _, rfl, n, _, rfl, SqL.of (s4 _ _ f1), fun R hR => ?_⟩
      rw [cut_to (by omega), ← List.map_take]
      have s5 := s4.trans (same_new (o := .lst ((as.take k').map V.ref)) hR)
      have g2 : Paired (PrA H4) (as.take k') (now.take k') := paired_take f2 k'
      have hgl : ((as.take k').map V.ref).length = (now.take k').length := refs_len g2
      have hRD : R ≠ D := fun z => by rw [z, upd_same] at hR; cases hR
      have hR4 : H4 R = none := s4.free hR
      refine ⟨R, rfl, ⟨_, SqL.of upd_same⟩, for_it (walk_list (K := K) (a := R) (xs := (as.take k').map V.ref)) (fun j σ H5 => Same H4 H5 ∧ H5 R = some (.lst ((as.take k').map V.ref)) ∧ BhAt H5 D ((now.take k').take j) ∧ ∃ w, σ = [some (.ref d), some (.ref a), some (.ref b), some (.ref c), some (.ref n), some (nV k'), some (.ref D), w])
        ⟨s5, upd_same, by rw [List.take_zero]; exact upd_keep upd_same hR, w, rfl⟩ (fun j σ H5 _ q => SqL.of q.2.1) ?_ ?_⟩
      · rintro j y σ H5 H6 hj ⟨s6, r6, b6, w, rfl⟩ ⟨rfl, hy⟩
        obtain ⟨x1, q1, rfl, eq1, rx1⟩ := refs_at g2 hy
        refine ⟨_, rfl, _, rfl, D, _, rfl, DPut.t (k := keyP q1) b6 (s6 _ _ rx1) ?_, ?_⟩
        · rw [List.length_map, List.length_take, List.length_take]
          exact small1000 (by omega)
        · rw [BhAt.put (H := H) (D := D) (not_in_take (hnow.sublist (List.take_sublist _ _)) eq1 (Nat.le_refl j)), ← take_snoc eq1]
          exact ⟨same_upd s6 hD, by rw [upd_ne hRD]; exact r6, upd_same, _, rfl⟩
      rintro σ H5 ⟨s6, _, b6, w, rfl⟩
      rw [hgl, List.take_length] at b6
      have f15 := s6 _ _ f1
      have sH5 : Same H H5 := s2.trans (s3.trans s6)
      -- the pair behind the step has what it needs
      have hin : now.getD (k' + 1) (0, 0) ∈ one := by
        rw [getD_in _ (show k' + 1 < now.length by omega)]
        exact hpi.mem_iff.mp (List.getElem_mem _)
      obtain ⟨⟨q', own⟩, hm, e⟩ := List.mem_map.mp (o1.sub _ hin)
      have e : q' = now.getD (k' + 1) (0, 0) := e
      have hmet := hmp own (by rw [← e]; exact hm)
      have rb15 : PrA H5 b1 q' := by rw [e]; exact s6 _ _ rb1
      obtain ⟨c', c1, c2⟩ := (hd.mono sH5).get ok.nodup hm rb15
      refine ⟨_, rfl, _, rfl, _, rfl, _, _, rfl, rfl, _, _, _, _, rfl, rfl, SqL.of f15, atI_pos (j := k' + 1) rfl ib1, d, _, rfl, c1, _, rfl, c', D, own, now.take k', rfl, c2, b6, ok.two _ hm, fun H6 s7 => ⟨_, rfl, ?_⟩⟩
      rw [hmet]
      refine iteF ?_
      have f16 := s7 _ _ f15
      -- the new list
      refine ⟨_, rfl, _, rfl, _, rfl, n, _, rfl, SqL.of f16, fun R1 h1 => ?_⟩
      rw [cut_to (by omega)]
      refine ⟨_, rfl, _, rfl, _, _, rfl, rfl, _, _, _, _, rfl, rfl, SqL.of (upd_keep f16 h1), atI_pos (j := k' + 1) rfl ib1, _, rfl, _, rfl, _, _, _, _, rfl, rfl, SqL.of (upd_keep f16 h1), atI_nat ib0, (by show 2 ≤ sizeLine; decide), fun R2 h2 => ?_⟩
      refine ⟨R1, R2, _, _, rfl, rfl, upd_keep upd_same h2, upd_same, ?_, fun R3 h3 => ?_⟩
      · rw [List.length_take]
        exact Nat.le_of_lt (small1000 (show min k' (as.map V.ref).length + 2 ≤ 1000 by omega))
      refine ⟨_, rfl, _, rfl, _, _, rfl, rfl, _, rfl, n, _, rfl, SqL.of (upd_keep (upd_keep (upd_keep f16 h1) h2) h3), fun R4 h4 => ?_⟩
      rw [show ((k' : Nat) : Int) + 2 = ((k' + 2 : Nat) : Int) from rfl, cut_from]
      refine ⟨R3, R4, _, _, rfl, rfl, upd_keep upd_same h4, upd_same, ?_, fun R5 h5 => ?_⟩
      · rw [List.length_append, List.length_take, List.length_drop]
        exact Nat.le_of_lt (small1000 (show min k' (as.map V.ref).length + 2 + ((as.map V.ref).length - (k' + 2)) ≤ 1000 by omega))
      have sE := (((same_new (o := .lst ((as.map V.ref).take k')) h1).trans (same_new h2)).trans (same_new h3)).trans ((same_new h4).trans (same_new (o := .lst (((as.map V.ref).take k' ++ [.ref b1, .ref b0]) ++ (as.map V.ref).drop (k' + 2))) h5))
      have sF := s6.trans (s7.trans sE)
      refine ⟨s3.trans sF, R5, ⟨_, ?_, pairs_swap (Paired.mapP f2 fun x y z => sF _ _ z) (sF _ _ rb0) (sF _ _ rb1)⟩, _, _, _, rfl⟩
      rw [upd_same, List.map_append, List.map_append, List.map_take, List.map_drop, List.append_assoc]
      rfl
    · rintro σ H3 ⟨s3, n, pn, u, v, w, rfl⟩
      have eE : ledAt one told (told.map nV).length = two := by
        rw [hlt]
        unfold ledAt
        rw [List.take_length]
        exact L.now
      rw [eE] at pn
      exact ⟨_, rfl, _, rfl, eq_pairs pn (hb.mono (s2.trans s3)) (k H3 (s2.trans s3))⟩
end
end K55
set_option Elab.async false
set_option linter.all false
set_option maxRecDepth 100000
set_option maxHeartbeats 4000000
namespace K55
open PySem PySem.Spec PyProof.Rows L2
section
variable {P : Program} {w : World} {K : PySem.W.Frag} {mg : Str → Option Value} {base : Heap}
/-! the script's numbers -/
theorem SqL.sm {H H' : Hp} {a : Addr} {xs : List V} (h : SqL K H a xs) (s : Same H H') : SqL K H' a xs := by
  rcases h with h | h
  · refine .inl ?_
    rcases h with h | ⟨o, h⟩
    · exact .inl (s _ _ h)
    · exact .inr ⟨o, s _ _ h⟩
  · exact .inr h
def BitsOk (ns : List Int) : Prop := ∀ z ∈ ns, Builtin.Int.intBits z ≤ 1048576
def Sized (c : Int) : Prop := ∃ n : Nat, c.natAbs < 2 ^ n ∧ 64 ≤ n ∧ n ≤ 1048600
theorem sized_of {ns : List Int} (h : BitsOk ns) (k : Nat) : ∃ n : Nat, (ns.getD k 0).natAbs < 2 ^ n ∧ 64 ≤ n ∧ n ≤ 1048580 := by
  by_cases hk : k < ns.length
  · rw [getD_in _ hk]
    have h1 := h _ (List.getElem_mem hk)
    have h2 := PyProof.Rows.natAbs_lt_pow_bits ns[k]
    refine ⟨Builtin.Int.intBits ns[k] + 64 - min 64 (Builtin.Int.intBits ns[k]) + min 0 0, ?_, by omega, by omega⟩
    refine Nat.lt_of_lt_of_le h2 (Nat.pow_le_pow_right (by decide) (by omega))
  · rw [getD_out _ (by omega)]
    exact ⟨64, by decide, by decide, by decide⟩
def spLCell (K : PySem.W.Frag) : Sp := fun vs H Q _ => ∃ (a : Addr) (k : Nat) (ns : List Int), vs = [.ref a, .int (k : Nat)] ∧ SqL K H a (ns.map V.int) ∧ Q (.int (ns.getD k 0)) H
theorem df_l_cell (T : Txt K mg) : Def P w K mg base 1 (He.ga K "_law_cell") ["_law_script", "_law_k"] (spLCell K) := by
  obtain ⟨fd, F⟩ := T.D_l_cell
  refine mkDef F sc_l_cell (fun _ _ _ _ _ _ us hl => match us, hl with | [_, _], _ => rfl) (fun vs H Q E h => ?len) (fun cdv A outer s H vs Q E hr h => ?body)
  case len =>
    obtain ⟨a, k, ns, rfl, _⟩ := h
    rfl
  case body =>
    obtain ⟨a, k, ns, rfl, ha, q⟩ := h
    refine ⟨_, pss_cons (ps_if (pt_cmpR op_lt (pv 1) (pe_callB (r := rLenOf K) (id := "len") call_len_seq (by rfl) T.f_len (by decide +kernel) (pa_cons (pv 0) pa_nil)) (nomark _)) (pss_one (ps_ret (pe_callTy call_int1 (by rfl) T.f_int (by decide +kernel) (pa_cons (pe_ix (r := rIxL K) ix_list (pv 0) (pv 1) (fun _ _ => rfl)) pa_nil)))) pss_nil) (pss_one (ps_ret pe_int)), ?_⟩
    refine ⟨_, rfl, _, rfl, a, _, rfl, Or.inl ha, _, _, rfl, rfl, _, rfl, ?_⟩
    rw [List.length_map]
    by_cases hk : k < ns.length
    · rw [decide_eq_true (show ((k : Nat) : Int) < (ns.length : Nat) by omega)]
      rw [getD_in _ hk] at q
      exact iteT ⟨_, rfl, _, rfl, _, _, _, _, rfl, rfl, ha, atI_nat (ints_at hk), Or.inl ⟨_, rfl, q⟩⟩
    · rw [decide_eq_false (show ¬ ((k : Nat) : Int) < (ns.length : Nat) by omega)]
      rw [getD_out _ (by omega)] at q
      exact iteF q
theorem mul_ok {i j : Int} {n m : Nat} (h1 : i.natAbs < 2 ^ n) (h2 : j.natAbs < 2 ^ m) (h : n + m ≤ 134217728) : CMulX i j := mulx_ok h1 h2 h
def spLMixed : Sp := fun vs H Q _ => ∃ (c : Int) (k : Nat), vs = [.int c, .int (k : Nat)] ∧ Sized c ∧ k < 1000000 ∧ ∀ r : Int, 0 ≤ r → r < 2147483399 → Q (.int r) H
theorem mixed_a {c : Int} {k : Nat} (h : Sized c) (hk : k < 1000000) : CMulX 7919 (k : Int) ∧ CMulX (c + 7919 * (k : Int) + 1) 48271 := by
  obtain ⟨n, h1, h2, h3⟩ := h
  refine ⟨mul_ok (n := 13) (m := 20) (by decide) (by omega) (by decide), mul_ok (n := n + 1) (m := 16) ?_ (by decide) (by omega)⟩
  have e : 2 ^ (n + 1) = 2 ^ n + 2 ^ n := by rw [Nat.pow_succ]; omega
  have e2 : 2 ^ 64 ≤ 2 ^ n := Nat.pow_le_pow_right (by decide) h2
  rw [e]
  generalize 2 ^ n = B at h1 e2
  omega
theorem mixed_b {r m : Int} (h0 : 0 ≤ r) (h1 : r < 2147483647) (hm : 1 ≤ m) (x : Int) (hx : 0 ≤ x) (hx2 : x < 1000000) : CMulX r (r / m + x) := by
  have a1 := Int.ediv_nonneg h0 (show 0 ≤ m by omega)
  have a2 : r / m ≤ r := Int.ediv_le_self _ h0
  refine mul_ok (n := 31) (m := 32) ?_ ?_ (by decide)
  · have : (2 : Nat) ^ 31 = 2147483648 := by decide
    omega
  · have : (2 : Nat) ^ 32 = 4294967296 := by decide
    omega
def mix1 (c : Int) (k : Nat) : Int := (c + 7919 * (k : Int) + 1) * 48271 % 2147483647
def mix2 (c : Int) (k : Nat) : Int := mix1 c k * (mix1 c k / 1009 + 69621) % 2147483647
theorem mix1_nn (c : Int) (k : Nat) : 0 ≤ mix1 c k := Int.emod_nonneg _ (by decide)
theorem mix1_lt (c : Int) (k : Nat) : mix1 c k < 2147483647 := Int.emod_lt_of_pos _ (by decide)
theorem mix2_nn (c : Int) (k : Nat) : 0 ≤ mix2 c k := Int.emod_nonneg _ (by decide)
theorem mix2_lt (c : Int) (k : Nat) : mix2 c k < 2147483647 := Int.emod_lt_of_pos _ (by decide)
theorem df_l_mixed (T : Txt K mg) : Def P w K mg base 1 (He.ga K "_law_mixed") ["_law_cell_here", "_law_k"] spLMixed := by
  obtain ⟨fd, F⟩ := T.D_l_mixed
  refine mkDef F sc_l_mixed (fun _ _ _ _ _ _ us hl => match us, hl with | [_, _], _ => rfl) (fun vs H Q E h => ?len) (fun cdv A outer s H vs Q E hr h => ?body)
  case len =>
    obtain ⟨c, k, rfl, _⟩ := h
    rfl
  case body =>
    obtain ⟨c, k, rfl, hc, hk, q⟩ := h
    refine ⟨_, pss_cons (ps_set (i := 2) sc_l_mixed.nd rfl (Or.inl rfl) (pe_op op_mod (pe_callTy call_int1 (by rfl) T.f_int (by decide +kernel) (pa_cons (pe_op op_mulX (pe_op op_add (pe_op op_add (pv 0) (pe_op op_mulX pe_int (pv 1))) pe_int) pe_int) pa_nil)) pe_int))
      (pss_cons (ps_set (i := 2) sc_l_mixed.nd rfl (Or.inl rfl) (pe_op op_mod (pe_callTy call_int1 (by rfl) T.f_int (by decide +kernel) (pa_cons (pe_op op_mulX (pv 2) (pe_op op_add (pe_op op_fdiv (pv 2) pe_int) pe_int)) pa_nil)) pe_int))
      (pss_one (ps_ret (pe_op op_mod (pe_callTy call_int1 (by rfl) T.f_int (by decide +kernel) (pa_cons (pe_op op_mulX (pv 2) (pe_op op_add (pe_op op_fdiv (pv 2) pe_int) pe_int)) pa_nil)) pe_int)))), ?_⟩
    obtain ⟨m1, m2⟩ := mixed_a hc hk
    refine ⟨_, rfl, _, rfl, _, _, rfl, rfl, m1, _, _, rfl, rfl, _, _, rfl, rfl, _, _, rfl, rfl, m2, Or.inl ⟨_, rfl, _, _, rfl, rfl, (show (0 : Int) < 2147483647 by decide), ?_⟩⟩
    refine ⟨_, rfl, _, rfl, _, _, rfl, rfl, ⟨by decide, by decide⟩, _, _, rfl, rfl, _, _, rfl, rfl, mixed_b (m := 1009) (mix1_nn c k) (mix1_lt c k) (by decide) 69621 (by decide) (by decide), Or.inl ⟨_, rfl, _, _, rfl, rfl, (show (0 : Int) < 2147483647 by decide), ?_⟩⟩
    refine ⟨_, rfl, _, rfl, _, _, rfl, rfl, ⟨by decide, by decide⟩, _, _, rfl, rfl, _, _, rfl, rfl, mixed_b (m := 2003) (mix2_nn c k) (mix2_lt c k) (by decide) 40692 (by decide) (by decide), Or.inl ⟨_, rfl, _, _, rfl, rfl, (show (0 : Int) < 2147483399 by decide), ?_⟩⟩
    exact q _ (Int.emod_nonneg _ (by decide)) (Int.emod_lt_of_pos _ (by decide))
end
end K55
set_option Elab.async false
set_option linter.all false
set_option maxRecDepth 100000
set_option maxHeartbeats 4000000
namespace K55
open PySem PySem.Spec PyProof.Rows L2
section
variable {P : Program} {w : World} {K : PySem.W.Frag} {mg : Str → Option Value} {base : Heap}
theorem iteAny {b : Bool} {A B : Prop} (h1 : A) (h2 : B) : if b = true then A else B := by
  cases b
  · exact iteF h2
  · exact iteT h1
theorem if_any {c : TT} {t u : TS} {D : Ends} {σ : L2.St} {H : Hp} (hc : ∀ Q : Bool → Hp → Prop, (∀ b, Q b H) → c σ H Q) (ht : t D σ H) (hu : u D σ H) : tIfS c t u D σ H := hc _ fun _ => iteAny ht hu
theorem if_num {c : TT} {t : TS} {D : Ends} {σ : L2.St} {H : Hp} (slot : Nat) (n0 : Int) (hc : ∀ Q : Bool → Hp → Prop, (∀ b, Q b H) → c σ H Q) (hσ : σ = σ.set slot (some (.int n0))) (ht : (∀ n : Int, D.nx (σ.set slot (some (.int n))) H) → t D σ H) (hd : ∀ n : Int, D.nx (σ.set slot (some (.int n))) H) : tIfS c t tNext D σ H := by
  refine if_any hc (ht hd) ?_
  show D.nx σ H
  rw [hσ]
  exact hd n0
/-- each number below its size -/
abbrev Below (ds sz : List Int) : Prop := Paired (fun d s => 0 ≤ d ∧ d < s) ds sz
def spLDraws (K : PySem.W.Frag) : Sp := fun vs H Q _ => ∃ (a b : Addr) (sp : Nat) (ns sz : List Int), vs = [.ref a, .int (sp : Nat), .ref b] ∧ SqL K H a (ns.map V.int) ∧ BitsOk ns ∧ sp ≤ 10 ∧ IntL H b sz ∧ sz.length ≤ 200 ∧ (∀ s ∈ sz, 0 < s ∧ s < 2 ^ 300) ∧
  ∀ (p : Addr) (H' : Hp) (ds : List Int), Same H H' → H p = none → IntL H' p ds → Below ds sz → Q (.ref p) H'
theorem divw_ok {i s : Int} (h : 0 < s ∧ s < 2 ^ 300) : CDivW i s := by
  refine ⟨h.1, ?_⟩
  have h1 : s.natAbs < 2 ^ 300 := by
    have e : ((2 : Int) ^ 300) = ((2 ^ 300 : Nat) : Int) := (Int.natCast_pow 2 300).symm
    have h2 := h.2
    rw [e] at h2
    generalize (2 : Nat) ^ 300 = B at h2 ⊢
    omega
  have h2 : s.natAbs ≠ 0 := by have := h.1; omega
  have := (Nat.log2_lt h2).mpr h1
  omega
theorem sized_up {c : Int} {n : Nat} (h1 : c.natAbs < 2 ^ n) (h2 : 64 ≤ n) (h3 : n ≤ 1048580) : Sized c ∧ Sized (c + 1) := by
  refine ⟨⟨n, h1, h2, by omega⟩, ⟨n + 1, ?_, by omega, by omega⟩⟩
  have e : 2 ^ (n + 1) = 2 ^ n + 2 ^ n := by rw [Nat.pow_succ]; omega
  rw [e]
  generalize 2 ^ n = B at h1
  omega
theorem df_l_draws (T : Txt K mg) : Def P w K mg base 2 (He.ga K "_law_draws") ["_law_script", "_law_spot", "_law_sizes"] (spLDraws K) := by
  obtain ⟨fd, F⟩ := T.D_l_draws
  refine mkDef F sc_l_draws (fun _ _ _ _ _ _ us hl => match us, hl with | [_, _, _], _ => rfl) (fun vs H Q E h => ?len) (fun cdv A outer s H vs Q E hr h => ?body)
  case len =>
    obtain ⟨a, b, sp, ns, sz, rfl, _⟩ := h
    rfl
  case body =>
    obtain ⟨a, b, sp, ns, sz, rfl, ha, hbits, hsp, hb, hz, hs, k⟩ := h
    refine ⟨_, pss_cons (ps_set (i := 3) sc_l_draws.nd rfl (Or.inl rfl) (pd_call (df_l_cell T) (hr) (by rfl) T.g_l_cell (pa_cons (pv 0) (pa_cons (pv 1) pa_nil))))
      (pss_cons (ps_set (i := 4) sc_l_draws.nd rfl (Or.inl rfl) (pv 3))
      (pss_cons (ps_set (i := 5) sc_l_draws.nd rfl (Or.inl rfl) (pe_lst pa_nil))
      (pss_cons (ps_for PassesOwn.never rfl (pi_enum (by rfl) T.f_enumerate (pa_cons (pv 2) pa_nil)) (pg_tup (by rfl) (pgs_cons (pg_name (i := 6) sc_l_draws.nd rfl (Or.inl rfl)) (pgs_cons (pg_name (i := 7) sc_l_draws.nd rfl (Or.inl rfl)) pgs_nil)))
        (pss_one (ps_if (PW.pt (pw_and (pt_cmpR op_ge (pv 3) (pe_op op_pow pe_int pe_int) (nomark _)) (pw_and1 (pt_cmpR op_gt (pv 4) pe_int (nomark _)))))
          (pss_cons (ps_expr (pe_bm PySem.F.plainAttrs_list PySem.F.slot_list_append PySem.F.type_list_append mt_append (pv 5) (pa_cons (pe_op op_mod (pe_callTy call_int1 (by rfl) T.f_int (by decide +kernel) (pa_cons (pv 4) pa_nil)) (pv 7)) pa_nil))) (pss_one (ps_set (i := 4) sc_l_draws.nd rfl (Or.inl rfl) (pe_op op_fdivW (pv 4) (pv 7)))))
          (pss_cons (ps_set (i := 8) sc_l_draws.nd rfl (Or.inl rfl) (pe_op op_fdiv (pd_call (df_l_mixed T) (hr) (by rfl) T.g_l_mixed (pa_cons (pv 3) (pa_cons (pe_op op_add (pe_op op_mulX pe_int (pv 1)) (pv 6)) pa_nil))) pe_int))
          (pss_cons (ps_if (pt_cmpR op_gt (pv 7) (pe_op op_pow pe_int pe_int) (nomark _))
            (pss_cons (ps_set (i := 8) sc_l_draws.nd rfl (Or.inl rfl) (pe_op op_mulX (pv 8) (pe_op op_add (pe_op op_pow pe_int pe_int) pe_int))) (pss_one (ps_aug (i := 8) sc_l_draws.nd rfl (Or.inl rfl) (pe_op op_fdiv (pd_call (df_l_mixed T) (hr) (by rfl) T.g_l_mixed (pa_cons (pe_op op_add (pv 3) pe_int) (pa_cons (pe_op op_add (pe_op op_mulX pe_int (pv 1)) (pv 6)) pa_nil))) pe_int) ip_add))) pss_nil)
          (pss_one (ps_expr (pe_bm PySem.F.plainAttrs_list PySem.F.slot_list_append PySem.F.type_list_append mt_append (pv 5) (pa_cons (pe_op op_mod (pe_callTy call_int1 (by rfl) T.f_int (by decide +kernel) (pa_cons (pv 8) pa_nil)) (pv 7)) pa_nil)))))))))
      (pss_one (ps_ret (pv 5)))))), ?_⟩
    obtain ⟨n, hn1, hn2, hn3⟩ := sized_of hbits sp
    refine ⟨_, rfl, _, rfl, a, sp, ns, rfl, ha, ?_⟩
    generalize ns.getD sp 0 = c at hn1
    obtain ⟨z1, z2⟩ := sized_up hn1 hn2 hn3
    refine ⟨_, rfl, Nat.zero_le _, fun D hD => ?_⟩
    have s0 : Same H (upd H D (.lst [])) := same_new hD
    have hlz : (sz.map V.int).length = sz.length := List.length_map _
    refine ⟨_, rfl, b, _, rfl, SqL.of (s0 _ _ hb), for_it (walk_enum (K := K) (a := b) (xs := sz.map V.int)) (fun i σ H2 => Same H H2 ∧ (∃ ds, IntL H2 D ds ∧ Below ds (sz.take i)) ∧ ∃ (l : Int) (x y z : Option V), σ = [some (.ref a), some (.int (sp : Nat)), some (.ref b), some (.int c), some (.int l), some (.ref D), x, y, z])
      ⟨s0, ⟨[], upd_same, .nil⟩, c, none, none, none, rfl⟩ (fun i σ H2 _ q => SqL.of (q.1 _ _ hb)) ?_ ?_⟩
    · rintro i v σ H2 H3 hi ⟨s2, ⟨ds, d1, d2⟩, l, x, y, z, rfl⟩ ⟨p, y1, y2, rfl, np, rfl, hy1, hy2⟩
      cases hy1
      obtain ⟨s, es, rfl⟩ : ∃ s, sz[i]? = some s ∧ y2 = .int s := by
        have hy2 : (sz.map V.int)[i]? = some y2 := hy2
        rw [List.getElem?_map] at hy2
        cases e : sz[i]? with
        | none => rw [e] at hy2; cases hy2
        | some r => rw [e] at hy2; exact ⟨r, rfl, (Option.some.inj hy2).symm⟩
      have hs1 := hs s (List.mem_of_getElem? es)
      have hil : i < sz.length := (List.getElem?_eq_some_iff.mp es).1
      refine ⟨p, _, rfl, SqT.of upd_same, rfl, _, _, rfl, _, _, rfl, rfl, ?_⟩
      have s3 := s2.trans (same_new (o := .tup [.int (i : Nat), .int s]) np)
      have d3 : (upd H2 p (.tup [.int (i : Nat), .int s])) D = some (.lst (ds.map V.int)) := upd_keep d1 np
      generalize upd H2 p (.tup [.int (i : Nat), .int s]) = H4 at s3 d3
      have hdl : ds.length = i := by
        have w := Paired.length d2
        rw [List.length_take] at w
        omega
      have hsm : (ds.map V.int).length < sizeLine := by
        rw [List.length_map]
        exact small1000 (by omega)
      have fin : ∀ t : Int, ∃ ds', IntL (upd H4 D (.lst (ds.map V.int ++ [.int (t % s)]))) D ds' ∧ Below ds' (sz.take (i + 1)) := fun t => by
        refine ⟨ds ++ [t % s], ?_, ?_⟩
        · unfold IntL
          rw [upd_same, List.map_append]; rfl
        · rw [take_snoc es]
          exact Paired.snoc d2 ⟨Int.emod_nonneg _ (by omega), Int.emod_lt_of_pos _ hs1.1⟩
      have sU : ∀ o : HO, Same H (upd H4 D o) := fun o => same_upd s3 hD
      have hk1 : 1009 * sp + i < 1000000 := by omega
      have m1 : CMulX 1009 ((sp : Nat) : Int) := mul_ok (n := 10) (m := 20) (by decide) (by omega) (by decide)
      refine if_any (fun Q q => ⟨_, rfl, _, _, rfl, rfl, ⟨by decide, by decide, by decide⟩, _, _, rfl, rfl, _, rfl, iteAny ⟨_, rfl, _, _, rfl, rfl, _, rfl, q _⟩ (q _)⟩) ?_ ?_
      · refine ⟨_, rfl, Or.inl ⟨rfl, _, SqL.of d3⟩, _, rfl, Or.inl ⟨_, rfl, _, rfl, _, _, rfl, rfl, hs1.1, D, _, _, rfl, rfl, d3, hsm, ?_⟩⟩
        exact ⟨_, rfl, _, rfl, _, _, rfl, rfl, divw_ok hs1, sU _, fin _, _, _, _, _, rfl⟩
      · refine ⟨_, rfl, _, rfl, _, _, rfl, rfl, m1, _, rfl, _, _, rfl, rfl, c, 1009 * sp + i, rfl, z1, hk1, fun r r0 r1 => ?_⟩
        refine ⟨_, _, rfl, rfl, ⟨by decide, by decide⟩, ?_⟩
        dsimp only [gName, tSeq]
        refine if_num 8 (r / 16) (fun Q q => ⟨_, rfl, _, _, rfl, rfl, ⟨by decide, by decide, by decide⟩, _, _, rfl, rfl, _, rfl, q _⟩) rfl (fun cont => ?_) (fun t => ?_)
        · have m2 : CMulX (r / 16) (10 ^ (22 : Int).toNat + 9) := mul_ok (n := 32) (m := 80) (by
            have a1 := Int.ediv_nonneg r0 (show (0 : Int) ≤ 16 by decide)
            have a2 : r / 16 ≤ r := Int.ediv_le_self _ r0
            have : (2 : Nat) ^ 32 = 4294967296 := by decide
            omega) (by decide) (by decide)
          refine ⟨_, rfl, _, _, rfl, rfl, ⟨by decide, by decide, by decide⟩, _, _, rfl, rfl, _, _, rfl, rfl, m2, ?_⟩
          refine ⟨_, rfl, _, rfl, _, _, rfl, rfl, _, rfl, _, _, rfl, rfl, m1, _, rfl, _, _, rfl, rfl, c + 1, 1009 * sp + i, rfl, z2, hk1, fun r2 _ _ => ?_⟩
          exact ⟨_, _, rfl, rfl, ⟨by decide, by decide⟩, _, _, rfl, rfl, cont _⟩
        · refine ⟨_, rfl, Or.inl ⟨rfl, _, SqL.of d3⟩, _, rfl, Or.inl ⟨_, rfl, _, rfl, _, _, rfl, rfl, hs1.1, D, _, _, rfl, rfl, d3, hsm, ?_⟩⟩
          exact ⟨sU _, fin _, _, _, _, _, rfl⟩
    · rintro σ H2 ⟨s2, ⟨ds, d1, d2⟩, l, x, y, z, rfl⟩
      rw [hlz, List.take_length] at d2
      exact ⟨_, rfl, k D H2 ds s2 hD d1 d2⟩
end
end K55
set_option Elab.async false
set_option linter.all false
set_option maxRecDepth 100000
set_option maxHeartbeats 4000000
namespace K55
open PySem PySem.Spec PyProof.Rows L2
section
variable {P : Program} {w : World} {K : PySem.W.Frag} {mg : Str → Option Value} {base : Heap}
theorem if_val {α : Type} (f : α → V) (Pn : α → Prop) {c : TT} {t : TS} {D : Ends} {σ : L2.St} {H : Hp} (slot : Nat) (a0 : α) (h0 : Pn a0) (hc : ∀ Q : Bool → Hp → Prop, (∀ b, Q b H) → c σ H Q) (hσ : σ = σ.set slot (some (f a0)))
    (ht : (∀ a, Pn a → D.nx (σ.set slot (some (f a))) H) → t D σ H) (hd : ∀ a, Pn a → D.nx (σ.set slot (some (f a))) H) : tIfS c t tNext D σ H := by
  refine if_any hc (ht hd) ?_
  show D.nx σ H
  rw [hσ]
  exact hd a0 h0
theorem rep_ints (k : Nat) (x : Int) : (List.replicate k [V.int x]).flatten = (List.replicate k x).map V.int := by
  induction k with
  | zero => rfl
  | succ k ih =>
    rw [List.replicate_succ, List.replicate_succ, List.flatten_cons, ih]
    rfl
theorem rep_len (k : Nat) (v : V) : ((List.replicate k [v]).flatten).length = k := by simp
def gSizes (S : Int) (m n : Nat) : List Int := List.replicate (m * n) (18 * S) ++ List.replicate (m + n) S
theorem gSizes_ok {S : Int} (h : 0 < S ∧ S < 2 ^ 200) (m n : Nat) : ∀ s ∈ gSizes S m n, 0 < s ∧ s < 2 ^ 300 := by
  have e : (2 : Int) ^ 200 * 18 ≤ 2 ^ 300 := by decide
  have e1 : (0 : Int) < 2 ^ 200 := by decide
  obtain ⟨h1, h2⟩ := h
  generalize (2 : Int) ^ 200 = A at h2 e e1
  generalize (2 : Int) ^ 300 = B at e ⊢
  intro s hs
  rcases List.mem_append.mp hs with z | z
  · rw [(List.mem_replicate.mp z).2]
    omega
  · rw [(List.mem_replicate.mp z).2]
    omega
theorem gSizes_len (S : Int) (m n : Nat) : (gSizes S m n).length = m * n + (m + n) := by
  unfold gSizes
  rw [List.length_append, List.length_replicate, List.length_replicate]
theorem below_all {ds sz : List Int} (h : Below ds sz) (hs : ∀ s ∈ sz, 0 < s ∧ s < 2 ^ 300) : ∀ d ∈ ds, 0 ≤ d ∧ d < 2 ^ 300 := by
  intro d hd
  obtain ⟨i, hi⟩ := List.mem_iff_getElem?.mp hd
  obtain ⟨s, e, h1, h2⟩ := Paired.at' h hi
  have := hs s (List.mem_of_getElem? e)
  exact ⟨h1, Int.lt_trans h2 this.2⟩
theorem big_mul {a b : Int} (ha : 0 ≤ a ∧ a < 2 ^ 300) (hb : 0 ≤ b ∧ b < 2 ^ 300) : CMulX a b := by
  have e : ((2 : Int) ^ 300) = ((2 ^ 300 : Nat) : Int) := (Int.natCast_pow 2 300).symm
  rw [e] at ha hb
  refine mul_ok (n := 300) (m := 300) ?_ ?_ (by decide)
  · generalize (2 : Nat) ^ 300 = B at ha ⊢
    omega
  · generalize (2 : Nat) ^ 300 = B at hb ⊢
    omega
theorem cut_mid {ds : List Int} {a b : Nat} (h : a + b ≤ ds.length) : cutV (ds.map V.int) (some ((a : Nat) : Int)) (some ((a + b : Nat) : Int)) = ((ds.drop a).take b).map V.int := by
  unfold cutV
  rw [HT.sIx_nat, HT.sIx_nat, List.length_map, Nat.min_eq_left (by omega), Nat.min_eq_left (by omega), ← List.map_drop, ← List.map_take, Nat.add_sub_cancel_left]
def l4 : List Int := [3, 8, 1000, 10 ^ (59 : Int).toNat]
theorem l4_ok : ∀ s ∈ l4, 0 < s ∧ s < 2 ^ 200 := by
  intro s hs
  unfold l4 at hs
  simp only [List.mem_cons, List.not_mem_nil, or_false] at hs
  rcases hs with rfl | rfl | rfl | rfl <;> decide
theorem small_mul {a b : Nat} (ha : a < 1000) (hb : b < 1000) : CMulX (a : Int) (b : Int) := mul_ok (n := 10) (m := 10) (by omega) (by omega) (by decide)
def spLGrid (K : PySem.W.Frag) : Sp := fun vs H Q _ => ∃ (a : Addr) (sp m n : Nat) (style share : Int) (ns : List Int), vs = [.ref a, .int (sp : Nat), .int (m : Nat), .int (n : Nat), .int style, .int share] ∧ SqL K H a (ns.map V.int) ∧ BitsOk ns ∧ sp ≤ 10 ∧ 1 ≤ m ∧ m ≤ 6 ∧ 1 ≤ n ∧ n ≤ 6 ∧
  ∀ (p : Addr) (H' : Hp) (g : Grid), NewL RA H p g H' → Rect g → Q (.ref p) H'
theorem df_l_grid (T : Txt K mg) : Def P w K mg base 3 (He.ga K "_law_grid") ["_law_script", "_law_spot", "_law_m", "_law_n", "_law_style", "_law_share"] (spLGrid K) := by
  obtain ⟨fd, F⟩ := T.D_l_grid
  refine mkDef F sc_l_grid (fun _ _ _ _ _ _ us hl => match us, hl with | [_, _, _, _, _, _], _ => rfl) (fun vs H Q E h => ?len) (fun cdv A outer s H vs Q E hr h => ?body)
  case len =>
    obtain ⟨a, sp, m, n, style, share, ns, rfl, _⟩ := h
    rfl
  case body =>
    obtain ⟨a, sp, m, n, style, share, ns, rfl, ha, hbits, hsp, m1, m2, n1, n2, k⟩ := h
    refine ⟨_, pss_cons (ps_set (i := 6) sc_l_grid.nd rfl (Or.inl rfl) (pe_ix (r := rIxL K) ix_list (pe_lst (pa_cons (pe_int) (pa_cons (pe_int) (pa_cons (pe_int) (pa_cons (pe_op op_pow pe_int pe_int) pa_nil))))) (pe_op op_mod (pv 4) pe_int) (fun _ _ => rfl)))
      (pss_cons (ps_if (pt_cmpR op_eq (pv 4) pe_int (nomark _)) (pss_one (ps_set (i := 6) sc_l_grid.nd rfl (Or.inl rfl) (pe_op op_pow pe_int pe_int))) pss_nil)
      (pss_cons (ps_set (i := 7) sc_l_grid.nd rfl (Or.inl rfl) (pe_op op_cat (pe_op op_rep (pe_lst (pa_cons (pe_op op_mulX pe_int (pv 6)) pa_nil)) (pe_op op_mulX (pv 2) (pv 3))) (pe_op op_rep (pe_lst (pa_cons (pv 6) pa_nil)) (pe_op op_add (pv 2) (pv 3)))))
      (pss_cons (ps_set (i := 8) sc_l_grid.nd rfl (Or.inl rfl) (pd_call (df_l_draws T) (hr) (by rfl) T.g_l_draws (pa_cons (pv 0) (pa_cons (pv 1) (pa_cons (pv 7) pa_nil)))))
      (pss_cons (ps_set (i := 9) sc_l_grid.nd rfl (Or.inl rfl) (pe_slice sl_list (pv 8) (po_some (pe_op op_mulX (pv 2) (pv 3))) (po_some (pe_op op_add (pe_op op_mulX (pv 2) (pv 3)) (pv 2)))))
      (pss_cons (ps_set (i := 10) sc_l_grid.nd rfl (Or.inl rfl) (pe_slice sl_list (pv 8) (po_some (pe_op op_add (pe_op op_mulX (pv 2) (pv 3)) (pv 2))) po_none))
      (pss_cons (ps_set (i := 11) sc_l_grid.nd rfl (Or.inl rfl) (pe_lst pa_nil))
      (pss_cons (ps_for PassesOwn.never rfl (pi_range1 (by rfl) T.f_range (pa_cons (pv 2) pa_nil)) (pg_name (i := 12) sc_l_grid.nd rfl (Or.inl rfl))
        (pss_cons (ps_set (i := 13) sc_l_grid.nd rfl (Or.inl rfl) (pe_lst pa_nil))
        (pss_cons (ps_for PassesOwn.never rfl (pi_range1 (by rfl) T.f_range (pa_cons (pv 3) pa_nil)) (pg_name (i := 14) sc_l_grid.nd rfl (Or.inl rfl))
          (pss_cons (ps_set (i := 15) sc_l_grid.nd rfl (Or.inl rfl) (pe_ix (r := rIxL K) ix_list (pv 8) (pe_op op_add (pe_op op_mulX (pv 12) (pv 3)) (pv 14)) (fun _ _ => rfl)))
          (pss_cons (ps_set (i := 16) sc_l_grid.nd rfl (Or.inl rfl) (pe_op op_sub (pe_op op_fdiv (pv 15) pe_int) (pe_op op_fdiv (pv 6) pe_int)))
          (pss_cons (ps_if (pt_cmpR op_ge (pv 4) pe_int (nomark _)) (pss_one (ps_set (i := 16) sc_l_grid.nd rfl (Or.inl rfl) (pe_op op_sub (pe_op op_add (pe_ix (r := rIxL K) ix_list (pv 9) (pv 12) (fun _ _ => rfl)) (pe_op op_mulX pe_int (pe_ix (r := rIxL K) ix_list (pv 10) (pv 14) (fun _ _ => rfl)))) (pe_op op_mulX (pe_ix (r := rIxL K) ix_list (pv 9) (pv 12) (fun _ _ => rfl)) (pe_ix (r := rIxL K) ix_list (pv 10) (pv 14) (fun _ _ => rfl)))))) pss_nil)
          (pss_cons (ps_if (PW.pt (pw_and (pt_cmpR op_gt (pv 5) pe_int (nomark _)) (pw_and1 (pt_cmpR op_eq (pe_op op_mod (pe_callTy call_int1 (by rfl) T.f_int (by decide +kernel) (pa_cons (pv 15) pa_nil)) (pe_callB (call_max2 rfl) (by rfl) T.f_max (by decide +kernel) (pa_cons (pe_int) (pa_cons (pv 5) pa_nil)))) pe_int (nomark _))))) (pss_one (ps_set (i := 16) sc_l_grid.nd rfl (Or.inl rfl) (pe_non))) pss_nil)
          (pss_one (ps_expr (pe_bm PySem.F.plainAttrs_list PySem.F.slot_list_append PySem.F.type_list_append mt_append (pv 13) (pa_cons (pv 16) pa_nil)))))))))
        (pss_one (ps_expr (pe_bm PySem.F.plainAttrs_list PySem.F.slot_list_append PySem.F.type_list_append mt_append (pv 11) (pa_cons (pv 13) pa_nil)))))))
      (pss_one (ps_ret (pv 11)))))))))), ?_⟩
    obtain ⟨js, hjs, ejs⟩ : ∃ j : Nat, j < 4 ∧ style % 4 = (j : Int) := ⟨(style % 4).toNat, by omega, by omega⟩
    have hmn : m * n ≤ 36 := Nat.mul_le_mul m2 n2
    refine ⟨_, _, rfl, rfl, ⟨by decide, by decide, by decide⟩, (by show 4 ≤ sizeLine; decide), fun L hL => ?_⟩
    refine ⟨_, rfl, _, _, rfl, rfl, (show (0 : Int) < 4 by decide), _, _, _, _, rfl, rfl, SqL.of upd_same, atI_pos ejs (ints_at (ds := l4) hjs), ?_⟩
    have hS1 := l4_ok l4[js] (List.getElem_mem _)
    generalize l4[js] = S1 at hS1
    dsimp only [gName, tSeq]
    have s1 := same_new (o := .lst [V.int 3, V.int 8, V.int 1000, V.int (10 ^ (59 : Int).toNat)]) hL
    generalize upd H L _ = H1 at s1
    refine if_val V.int (fun S => 0 < S ∧ S < 2 ^ 200) 6 S1 hS1 (fun Q q => ⟨_, rfl, rfl, _, rfl, q _⟩) rfl (fun cont => ⟨_, _, rfl, rfl, ⟨by decide, by decide, by decide⟩, cont (10 ^ (29 : Int).toNat) (by decide)⟩) (fun S hS => ?_)
    clear hS1
    -- the sizes
    have b18 : CMulX 18 S := big_mul ⟨by decide, by decide⟩ ⟨by omega, by
      have e : (2 : Int) ^ 200 < 2 ^ 300 := by decide
      exact Int.lt_trans hS.2 e⟩
    have sm : CMulX ((m : Nat) : Int) ((n : Nat) : Int) := small_mul (by omega) (by omega)
    refine ⟨_, rfl, _, _, rfl, rfl, b18, (by show 1 ≤ sizeLine; decide), fun L1 h1 => ⟨_, rfl, _, rfl, _, _, rfl, rfl, sm, L1, _, _, rfl, rfl, upd_same, (show -(2 ^ 63) ≤ ((m * n : Nat) : Int) by omega), (show ((m * n : Nat) : Int) < 2 ^ 63 by omega), (Nat.le_of_lt (small1000 (show 1 * (m * n) ≤ 1000 by omega))), fun L2 h2 => ?_⟩⟩
    refine ⟨_, rfl, (by show 1 ≤ sizeLine; decide), fun L3 h3 => ⟨_, rfl, _, rfl, _, _, rfl, rfl, L3, _, _, rfl, rfl, upd_same, (show -(2 ^ 63) ≤ ((m + n : Nat) : Int) by omega), (show ((m + n : Nat) : Int) < 2 ^ 63 by omega), (Nat.le_of_lt (small1000 (show 1 * (m + n) ≤ 1000 by omega))), fun L4 h4 => ?_⟩⟩
    refine ⟨L2, L4, _, _, rfl, rfl, upd_keep (upd_keep upd_same h3) h4, upd_same, ?_, fun p hp => ?_⟩
    · rw [rep_len, rep_len]
      exact Nat.le_of_lt (small1000 (show m * n + (m + n) ≤ 1000 by omega))
    have iz : IntL (upd (upd (upd (upd (upd H1 L1 (.lst [V.int (18 * S)])) L2 (.lst (List.replicate (m * n) [V.int (18 * S)]).flatten)) L3 (.lst [V.int S])) L4 (.lst (List.replicate (m + n) [V.int S]).flatten)) p (.lst ((List.replicate (m * n) [V.int (18 * S)]).flatten ++ (List.replicate (m + n) [V.int S]).flatten))) p (gSizes S m n) := by
      unfold IntL gSizes
      rw [List.map_append, ← rep_ints, ← rep_ints]
      exact upd_same
    have s2 := s1.trans ((((same_new (o := .lst [V.int (18 * S)]) h1).trans (same_new (o := .lst (List.replicate (m * n) [V.int (18 * S)]).flatten) h2)).trans (same_new (o := .lst [V.int S]) h3)).trans ((same_new (o := .lst (List.replicate (m + n) [V.int S]).flatten) h4).trans (same_new (o := .lst ((List.replicate (m * n) [V.int (18 * S)]).flatten ++ (List.replicate (m + n) [V.int S]).flatten)) hp)))
    refine ⟨_, rfl, _, rfl, _, rfl, a, p, sp, ns, gSizes S m n, rfl, SqL.sm ha s2, hbits, hsp, iz, by rw [gSizes_len]; omega, gSizes_ok hS m n, fun q H8 ds s8 hq d1 d2 => ?_⟩
    have hdl : ds.length = m * n + (m + n) := by rw [Paired.length d2, gSizes_len]
    have hall := below_all d2 (gSizes_ok hS m n)
    have s3 : Same H H8 := s2.trans s8
    clear s8 hq iz s2 s1
    -- the ends of the rows and columns
    refine ⟨_, rfl, _, rfl, _, rfl, _, _, rfl, rfl, sm, _, rfl, _, rfl, _, rfl, _, _, rfl, rfl, sm, _, rfl, _, _, rfl, rfl, _, rfl, q, _, rfl, SqL.of d1, fun R1 hR1 => ?_⟩
    have c1 : cutV (ds.map V.int) (some ((m : Int) * (n : Int))) (some ((m : Int) * (n : Int) + (m : Int))) = ((ds.drop (m * n)).take m).map V.int := cut_mid (a := m * n) (b := m) (by omega)
    rw [c1]
    refine ⟨_, rfl, _, rfl, _, rfl, _, _, rfl, rfl, sm, _, rfl, _, _, rfl, rfl, _, rfl, q, _, rfl, SqL.of (upd_keep d1 hR1), fun R2 hR2 => ?_⟩
    have c2 : cutV (ds.map V.int) (some ((m : Int) * (n : Int) + (m : Int))) none = (ds.drop (m * n + m)).map V.int := (cut_from (ds.map V.int) (m * n + m)).trans (List.map_drop).symm
    rw [c2]
    have iB : IntL (upd (upd H8 R1 (.lst (((ds.drop (m * n)).take m).map V.int))) R2 (.lst ((ds.drop (m * n + m)).map V.int))) q ds := upd_keep (upd_keep d1 hR1) hR2
    have hB : IntL (upd (upd H8 R1 (.lst (((ds.drop (m * n)).take m).map V.int))) R2 (.lst ((ds.drop (m * n + m)).map V.int))) R1 ((ds.drop (m * n)).take m) := upd_keep upd_same hR2
    have wB : IntL (upd (upd H8 R1 (.lst (((ds.drop (m * n)).take m).map V.int))) R2 (.lst ((ds.drop (m * n + m)).map V.int))) R2 (ds.drop (m * n + m)) := upd_same
    have sB := s3.trans ((same_new (o := .lst (((ds.drop (m * n)).take m).map V.int)) hR1).trans (same_new (o := .lst ((ds.drop (m * n + m)).map V.int)) hR2))
    generalize upd (upd H8 R1 (.lst (((ds.drop (m * n)).take m).map V.int))) R2 (.lst ((ds.drop (m * n + m)).map V.int)) = B at iB hB wB sB
    have hil : ((ds.drop (m * n)).take m).length = m := by rw [List.length_take, List.length_drop]; omega
    have wil : (ds.drop (m * n + m)).length = n := by rw [List.length_drop]; omega
    have hia : ∀ d ∈ (ds.drop (m * n)).take m, 0 ≤ d ∧ d < 2 ^ 300 := fun d hd => hall d (List.mem_of_mem_drop (List.mem_of_mem_take hd))
    have wia : ∀ d ∈ ds.drop (m * n + m), 0 ≤ d ∧ d < 2 ^ 300 := fun d hd => hall d (List.mem_of_mem_drop hd)
    generalize (ds.drop (m * n)).take m = hi at hB hil hia
    generalize ds.drop (m * n + m) = wi at wB wil wia
    refine ⟨Nat.zero_le _, fun D hD => ?_⟩
    have hDH : H D = none := sB.free hD
    refine ⟨_, rfl, _, rfl, by omega, by omega, for_rng (n := m) (Int.toNat_natCast m) (fun i σ H2 => (∃ g : Grid, Grow RA B D g H2 ∧ g.length = i ∧ ∀ r ∈ g, r.length = n) ∧ ∃ y1 y2 y3 y4 y5, σ = [some (.ref a), some (.int (sp : Nat)), some (.int (m : Nat)), some (.int (n : Nat)), some (.int style), some (.int share), some (.int S), some (.ref p), some (.ref q), some (.ref R1), some (.ref R2), some (.ref D), y1, y2, y3, y4, y5])
      ⟨⟨[], Grow.start hD, rfl, fun r h => by cases h⟩, none, none, none, none, none, rfl⟩ ?_ ?_⟩
    · rintro i σ H3 hi3 ⟨⟨g, gr, gl, gn⟩, y1, y2, y3, y4, y5, rfl⟩
      refine ⟨Nat.zero_le _, fun E hE => ?_⟩
      obtain ⟨acc, f1, f2⟩ := gr.lst
      have hED : E ≠ D := fun z => by rw [z, f1] at hE; cases hE
      refine ⟨_, rfl, _, rfl, by omega, by omega, for_rng (n := n) (Int.toNat_natCast n) (fun j σ H5 => Same H3 H5 ∧ (∃ r : Row, RA H5 E r ∧ r.length = j) ∧ ∃ y3 y4 y5, σ = [some (.ref a), some (.int (sp : Nat)), some (.int (m : Nat)), some (.int (n : Nat)), some (.int style), some (.int share), some (.int S), some (.ref p), some (.ref q), some (.ref R1), some (.ref R2), some (.ref D), some (.int (i : Nat)), some (.ref E), y3, y4, y5])
        ⟨same_new hE, ⟨[], upd_same, rfl⟩, y3, y4, y5, rfl⟩ ?_ ?_⟩
      · rintro j σ H5 hj5 ⟨s5, ⟨r, r5, rl⟩, y3, y4, y5, rfl⟩
        have sB5 : Same B H5 := gr.sm.trans s5
        have hlt : i * n + j < ds.length := by
          have e1 : (i + 1) * n ≤ m * n := Nat.mul_le_mul_right n hi3
          rw [Nat.succ_mul] at e1
          omega
        refine ⟨_, rfl, _, rfl, _, rfl, _, _, rfl, rfl, small_mul (by omega) (by omega), _, rfl, _, _, rfl, rfl, _, _, _, _, rfl, rfl, SqL.of (sB5 _ _ iB), atI_pos (j := i * n + j) rfl (ints_at hlt), ?_⟩
        generalize ds[i * n + j] = x
        refine ⟨_, rfl, _, _, rfl, rfl, ⟨by decide, by decide⟩, _, rfl, _, _, rfl, rfl, ⟨by decide, by decide⟩, _, _, rfl, rfl, ?_⟩
        dsimp only [gName, tSeq]
        have hi5 : i < hi.length := by omega
        have wj5 : j < wi.length := by omega
        refine if_val V.int (fun _ => True) 16 _ trivial (fun Q q => ⟨_, rfl, _, _, rfl, rfl, _, rfl, q _⟩) rfl (fun cont => ?_) (fun y _ => ?_)
        · refine ⟨_, rfl, _, rfl, _, _, _, _, rfl, rfl, SqL.of (sB5 _ _ hB), atI_nat (ints_at hi5), _, rfl, _, rfl, _, _, _, _, rfl, rfl, SqL.of (sB5 _ _ wB), atI_nat (ints_at wj5), _, _, rfl, rfl, big_mul ⟨by decide, by decide⟩ (wia _ (List.getElem_mem wj5)), _, _, rfl, rfl, ?_⟩
          exact ⟨_, rfl, _, rfl, _, _, _, _, rfl, rfl, SqL.of (sB5 _ _ hB), atI_nat (ints_at hi5), _, rfl, _, rfl, _, _, _, _, rfl, rfl, SqL.of (sB5 _ _ wB), atI_nat (ints_at wj5), _, _, rfl, rfl, big_mul (hia _ (List.getElem_mem hi5)) (wia _ (List.getElem_mem wj5)), _, _, rfl, rfl, cont _ trivial⟩
        have hpos : (0 : Int) < (if share > 1 then share else 1) := by split <;> omega
        dsimp only
        refine if_val oV (fun _ => True) 16 (some y) trivial (fun Q q => ⟨_, rfl, _, _, rfl, rfl, _, rfl, iteAny ⟨_, rfl, Or.inl ⟨_, rfl, _, rfl, _, _, rfl, _, _, rfl, rfl, hpos, rfl, _, rfl, q _⟩⟩ (q _)⟩) rfl (fun cont => cont none trivial) (fun o _ => ?_)
        refine ⟨_, rfl, Or.inl ⟨rfl, _, SqL.of r5⟩, _, rfl, E, _, _, rfl, rfl, r5, ?_, same_upd s5 hE, ⟨r ++ [o], ?_, by rw [List.length_append, rl]; rfl⟩, _, _, _, rfl⟩
        · rw [List.length_map]
          exact small1000 (by omega)
        · unfold RA
          rw [upd_same, List.map_append]
          rfl
      · rintro σ H5 ⟨s5, ⟨r, r5, rl⟩, y3, y4, y5, rfl⟩
        have f5 := s5 _ _ f1
        have g5 := gr.mono mono_RA s5
        refine ⟨_, rfl, Or.inl ⟨rfl, _, SqL.of f5⟩, _, rfl, D, acc, _, rfl, rfl, f5, ?_, ⟨g ++ [r], g5.push f5 ?_, by rw [List.length_append, gl]; rfl, ?_⟩, _, _, _, _, _, rfl⟩
        · rw [f2]
          exact small1000 (by omega)
        · show Wo H5 [D] E = _
          rw [Wo_out (fun z => hED (List.mem_singleton.mp z))]
          exact r5
        · intro r' hr'
          rcases List.mem_append.mp hr' with z | z
          · exact gn r' z
          · rw [List.mem_singleton.mp z]; exact rl
    · rintro σ H2 ⟨⟨g, gr, gl, gn⟩, y1, y2, y3, y4, y5, rfl⟩
      have hw : wid g = n := by
        unfold wid
        rw [getD_in _ (show 0 < g.length by omega)]
        exact gn _ (List.getElem_mem _)
      exact ⟨_, rfl, k D H2 g ⟨sB.trans gr.sm, hDH, gr.end mono_RA⟩ ⟨by omega, by omega, by omega, by omega, fun r h => by rw [hw]; exact gn r h⟩⟩
end
end K55
set_option Elab.async false
set_option linter.all false
set_option maxRecDepth 100000
set_option maxHeartbeats 4000000
namespace K55
open PySem PySem.Spec PyProof.Rows L2
section
variable {P : Program} {w : World} {K : PySem.W.Frag} {mg : Str → Option Value} {base : Heap}
theorem getD_take (g : Grid) (h : 1 ≤ g.length) : (g.take 1).getD 0 [] = g.getD 0 [] := by
  rw [getD_in _ (show 0 < (g.take 1).length by rw [List.length_take]; omega), getD_in _ (show 0 < g.length by omega), List.getElem_take]
theorem rect_take {g : Grid} (R : Rect g) : Rect (g.take 1) ∧ (g.take 1).length = 1 := by
  obtain ⟨h1, h2, h3, h4, h5⟩ := R
  have hl : (g.take 1).length = 1 := by rw [List.length_take]; omega
  have hw : wid (g.take 1) = wid g := by
    unfold wid
    rw [getD_take g h1]
  refine ⟨⟨by omega, by omega, by omega, by omega, fun row hr => ?_⟩, hl⟩
  rw [hw]
  exact h5 row (List.mem_of_mem_take hr)
def l3 : List Int := [0, 6, 3]
def spLTableOf (K : PySem.W.Frag) : Sp := fun vs H Q _ => ∃ (a h : Addr) (z : Str) (ns : List Int) (h0 h1 h2 h3 h4 : Int), vs = [.ref a, .str z, .ref h] ∧ SqL K H a (ns.map V.int) ∧ BitsOk ns ∧ IntL H h [h0, h1, h2, h3, h4] ∧ (0 ≤ h0 ∧ h0 < 6) ∧ (0 ≤ h1 ∧ h1 < 6) ∧ (0 ≤ h3 ∧ h3 < 3) ∧
  ∀ (p : Addr) (H' : Hp) (g : Grid), Same H H' → GA H' p g → Rect g → NoStuck (nds g (kcol z) (krow z)) → Q (.ref p) H'
theorem df_l_table_of (T : Txt K mg) : Def P w K mg base 4 (He.ga K "_law_table_of") ["_law_script", "_law_sort", "_law_head"] (spLTableOf K) := by
  obtain ⟨fd, F⟩ := T.D_l_table_of
  refine mkDef F sc_l_table_of (fun _ _ _ _ _ _ us hl => match us, hl with | [_, _, _], _ => rfl) (fun vs H Q E h => ?len) (fun cdv A outer s H vs Q E hr h => ?body)
  case len =>
    obtain ⟨a, h, z, ns, h0, h1, h2, h3, h4, rfl, _⟩ := h
    rfl
  case body =>
    obtain ⟨a, h, z, ns, h0, h1, h2, h3, h4, rfl, ha, hbits, hh, b0, b1, b3, k⟩ := h
    refine ⟨_, pss_cons (ps_set (i := 3) sc_l_table_of.nd rfl (Or.inl rfl) (pe_op op_add pe_int (pe_ix (r := rIxL K) ix_list (pv 2) (pe_int) (fun _ _ => rfl))))
      (pss_cons (ps_set (i := 4) sc_l_table_of.nd rfl (Or.inl rfl) (pe_op op_add pe_int (pe_ix (r := rIxL K) ix_list (pv 2) (pe_int) (fun _ _ => rfl))))
      (pss_cons (ps_set (i := 5) sc_l_table_of.nd rfl (Or.inl rfl) (pd_call (df_l_grid T) hr (by rfl) T.g_l_grid (pa_cons (pv 0) (pa_cons pe_int (pa_cons (pv 3) (pa_cons (pv 4) (pa_cons (pe_ix (r := rIxL K) ix_list (pv 2) (pe_int) (fun _ _ => rfl)) (pa_cons (pe_ix (r := rIxL K) ix_list (pe_lst (pa_cons (pe_int) (pa_cons (pe_int) (pa_cons (pe_int) pa_nil)))) (pe_ix (r := rIxL K) ix_list (pv 2) (pe_int) (fun _ _ => rfl)) (fun _ _ => rfl)) pa_nil))))))))
      (pss_cons (ps_if (pt_cmpR op_isN (pd_call (df_l_walk T) (hr) (by rfl) T.g_l_walk (pa_cons (pd_call (df_l_needs T) (hr) (by rfl) T.g_l_needs (pa_cons (pv 5) (pa_cons (pv 1) pa_nil))) (pa_cons (pe_op op_rep (pe_lst (pa_cons (pe_int) pa_nil)) pe_int) pa_nil))) pe_non (nomark _)) (pss_one (ps_ret (pe_slice sl_list (pv 5) po_none (po_some pe_int)))) pss_nil)
      (pss_one (ps_ret (pv 5)))))), ?_⟩
    obtain ⟨u, rfl⟩ := Int.eq_ofNat_of_zero_le b0.1
    obtain ⟨v, rfl⟩ := Int.eq_ofNat_of_zero_le b1.1
    obtain ⟨w3, rfl⟩ := Int.eq_ofNat_of_zero_le b3.1
    have hh' : H h = some (.lst [.int (u : Nat), .int (v : Nat), .int h2, .int (w3 : Nat), .int h4]) := hh
    refine ⟨_, rfl, _, _, _, _, rfl, rfl, SqL.of hh', rfl, _, _, rfl, rfl, ?_⟩
    refine ⟨_, rfl, _, _, _, _, rfl, rfl, SqL.of hh', rfl, _, _, rfl, rfl, ?_⟩
    refine ⟨_, rfl, _, rfl, _, rfl, _, rfl, _, _, _, _, rfl, rfl, SqL.of hh', rfl, (by show 3 ≤ sizeLine; decide), fun L hL => ?_⟩
    refine ⟨_, rfl, _, _, _, _, rfl, rfl, SqL.of (upd_keep hh' hL), rfl, _, _, _, _, rfl, rfl, SqL.of upd_same, atI_pos rfl (ints_at (ds := l3) (show w3 < 3 by omega)), ?_⟩
    have s1 := same_new (o := .lst [V.int 0, V.int 6, V.int 3]) hL
    refine ⟨a, 1, 1 + u, 1 + v, h2, l3[w3]'(show w3 < 3 by omega), ns, rfl, SqL.sm ha s1, hbits, by omega, by omega, by omega, by omega, by omega, fun p H2 g n2 R => ?_⟩
    have s2 := s1.trans n2.same
    refine ⟨_, rfl, _, rfl, p, g, z, rfl, n2.at_, R, fun d H3 s3 hd => ?_⟩
    have g3 := GA.mono n2.at_ s3
    refine ⟨(by show 1 ≤ sizeLine; decide), fun L1 e1 => ⟨L1, _, _, rfl, rfl, upd_same, (by decide), (by decide), (by show 1 * 64 ≤ sizeLine; decide), fun L2 e2 => ?_⟩⟩
    have i2 : IntL (upd (upd H3 L1 (.lst [V.int 0])) L2 (.lst (List.replicate 64 [V.int 0]).flatten)) L2 (List.replicate 64 0) := by
      unfold IntL
      rw [← rep_ints]
      exact upd_same
    have s4 := (same_new (o := .lst [V.int 0]) e1).trans (same_new (o := .lst (List.replicate 64 [V.int 0]).flatten) e2)
    have ok := nds_ok R (kcol z) (krow z)
    have hle := ok.le
    refine ⟨d, L2, _, List.replicate 64 0, rfl, hd.mono s4, ok, i2, by rw [List.length_replicate]; omega, fun q H5 one n5 o5 => ?_, fun H5 s5 ns5 => ?_⟩
    · refine ⟨rfl, _, rfl, iteF ?_⟩
      exact ⟨_, rfl, k p H5 g (s2.trans (s3.trans (s4.trans n5.same))) (g3.mono (s4.trans n5.same)) R (noStuck_of_ord ok.nodup o5)⟩
    · refine ⟨rfl, _, rfl, iteT ?_⟩
      have g5 := g3.mono (s4.trans s5)
      obtain ⟨as, f1, f2⟩ := g5
      obtain ⟨R1, l1⟩ := rect_take R
      have hal : (as.map V.ref).length = g.length := refs_len f2
      refine ⟨_, rfl, _, rfl, p, _, rfl, SqL.of f1, fun q hq => ?_⟩
      have c1 : cutV (as.map V.ref) none (some (1 : Int)) = (as.take 1).map V.ref := (cut_to (k := 1) (by rw [hal]; exact R.1)).trans List.map_take.symm
      rw [c1]
      refine k q _ (g.take 1) (s2.trans (s3.trans (s4.trans (s5.trans (same_new hq))))) ⟨as.take 1, upd_same, Paired.mapP (paired_take f2 1) fun x y w => ?_⟩ R1 (noStuck_row l1 _ _)
      exact upd_keep w hq
end
end K55
set_option Elab.async false
set_option linter.all false
set_option maxRecDepth 100000
set_option maxHeartbeats 4000000
namespace K55
open PySem PySem.Spec PyProof.Rows L2
section
variable {P : Program} {w : World} {K : PySem.W.Frag} {mg : Str → Option Value} {base : Heap}
theorem if_skip {c : TT} {t : TS} {D : Ends} {σ : L2.St} {H : Hp} (hc : ∀ Q : Bool → Hp → Prop, (∀ H', Same H H' → Q false H') → c σ H Q) (hd : ∀ H', Same H H' → D.nx σ H') : tIfS c t tNext D σ H := hc _ fun H' s => iteF (hd H' s)
theorem made {H1 H2 : Hp} {x dx : Addr} {o1 o2 : HO} (hx : H1 x = none) (hd : H1 dx = none) (kp : ∀ b o, (upd (upd H1 dx o1) x o2) b = some o → b ≠ x → H2 b = some o) : Same H1 H2 := fun b o e =>
  kp b o (by rw [upd_ne (ne_of_none e hx), upd_ne (ne_of_none e hd)]; exact e) (ne_of_none e hx)
/-! a grid as data -/
def cD : Option Int → PyData
  | none => .none
  | some z => .int z
def rD (r : Row) : PyData := .list (r.map cD)
def gD (g : Grid) : PyData := .list (g.map rD)
theorem dp_cell (K : PySem.W.Frag) (H : Hp) : ∀ o : Option Int, Dp K H (oV o) (cD o)
  | none => .non
  | some z => .int z
theorem dp_cells (K : PySem.W.Frag) (H : Hp) : ∀ r : Row, DpAll K H (r.map oV) (r.map cD)
  | [] => .nil
  | o :: r => .cons (dp_cell K H o) (dp_cells K H r)
theorem dp_row {H : Hp} {b : Addr} {r : Row} (h : RA H b r) : Dp K H (.ref b) (rD r) := .lst (SqL.of h) (dp_cells K H r)
theorem dp_rows {H : Hp} : ∀ {as : List Addr} {g : Grid}, Paired (RA H) as g → DpAll K H (as.map V.ref) (g.map rD)
  | _, _, .nil => .nil
  | _, _, .cons h t => .cons (dp_row h) (dp_rows t)
theorem dp_grid {H : Hp} {a : Addr} {g : Grid} (h : GA H a g) : Dp K H (.ref a) (gD g) := by
  obtain ⟨as, h1, h2⟩ := h
  exact .lst (SqL.of h1) (dp_rows h2)
theorem cD_lay (o : Option Int) : (cD o).canLay0 = true := by
  cases o with
  | none => unfold cD; simp only [PyData.canLay0]
  | some z => unfold cD; simp only [PyData.canLay0]
theorem cD_depth (o : Option Int) : (cD o).depth = 0 := by
  cases o with
  | none => unfold cD; simp only [PyData.depth]
  | some z => unfold cD; simp only [PyData.depth]
theorem cD_eqv (o : Option Int) : PyData.eqv (cD o) (cD o) = true := by
  cases o with
  | none => unfold cD; simp only [PyData.eqv]
  | some z => unfold cD; simp only [PyData.eqv, beq_self_eq_true]
theorem cDs_lay : ∀ r : Row, PyData.canLayAll0 (r.map cD) = true
  | [] => by simp only [List.map_nil, PyData.canLayAll0]
  | o :: r => by simp only [List.map_cons, PyData.canLayAll0, cD_lay, cDs_lay r, Bool.and_true]
theorem cDs_depth : ∀ r : Row, PyData.depthAll (r.map cD) = 0
  | [] => by simp only [List.map_nil, PyData.depthAll]
  | o :: r => by simp only [List.map_cons, PyData.depthAll, cD_depth, cDs_depth r, Nat.max_self]
theorem cDs_eqv : ∀ r : Row, PyData.eqvAll (r.map cD) (r.map cD) = true
  | [] => by simp only [List.map_nil, PyData.eqvAll]
  | o :: r => by simp only [List.map_cons, PyData.eqvAll, cD_eqv, cDs_eqv r, Bool.and_true]
theorem rDs_lay : ∀ g : Grid, PyData.canLayAll0 (g.map rD) = true
  | [] => by simp only [List.map_nil, PyData.canLayAll0]
  | r :: g => by
    have h : (rD r).canLay0 = true := by unfold rD; simp only [PyData.canLay0]; exact cDs_lay r
    simp only [List.map_cons, PyData.canLayAll0, h, rDs_lay g, Bool.and_true]
theorem rDs_depth : ∀ g : Grid, PyData.depthAll (g.map rD) ≤ 1
  | [] => by simp only [List.map_nil, PyData.depthAll]; exact Nat.zero_le _
  | r :: g => by
    have h : (rD r).depth = 1 := by unfold rD; simp only [PyData.depth]; rw [cDs_depth r]
    simp only [List.map_cons, PyData.depthAll, h]
    exact Nat.max_le.mpr ⟨Nat.le_refl _, rDs_depth g⟩
theorem rDs_eqv : ∀ g : Grid, PyData.eqvAll (g.map rD) (g.map rD) = true
  | [] => by simp only [List.map_nil, PyData.eqvAll]
  | r :: g => by
    have h : PyData.eqv (rD r) (rD r) = true := by unfold rD; simp only [PyData.eqv]; exact cDs_eqv r
    simp only [List.map_cons, PyData.eqvAll, h, rDs_eqv g, Bool.and_true]
theorem gD_shaped (g : Grid) : SeqAt.shaped (gD g) = true := by
  unfold SeqAt.shaped gD
  rw [Bool.and_eq_true]
  refine ⟨?_, decide_eq_true ?_⟩
  · simp only [PyData.canLay0]
    exact rDs_lay g
  · simp only [PyData.depth]
    have := rDs_depth g
    omega
theorem eq_grids {H : Hp} {a b : Addr} {g : Grid} {Q : VK} (ha : GA H a g) (hb : GA H b g) (k : Q (.bl true) H) : rEqD K (.ref a) (.ref b) H Q := by
  refine ⟨_, _, dp_grid ha, dp_grid hb, gD_shaped g, gD_shaped g, ?_⟩
  rw [show PyData.eqv (gD g) (gD g) = true by unfold gD; simp only [PyData.eqv]; exact rDs_eqv g]
  exact k
theorem five {ds : List Int} {s0 s1 s2 s3 s4 : Int} (h : Below ds [s0, s1, s2, s3, s4]) : ∃ h0 h1 h2 h3 h4, ds = [h0, h1, h2, h3, h4] ∧ (0 ≤ h0 ∧ h0 < s0) ∧ (0 ≤ h1 ∧ h1 < s1) ∧ (0 ≤ h2 ∧ h2 < s2) ∧ (0 ≤ h3 ∧ h3 < s3) ∧ (0 ≤ h4 ∧ h4 < s4) := by
  cases h with
  | cons a h =>
    cases h with
    | cons b h =>
      cases h with
      | cons c h =>
        cases h with
        | cons d h =>
          cases h with
          | cons e h =>
            cases h
            exact ⟨_, _, _, _, _, rfl, a, b, c, d, e⟩
/-- all that the law has made -/
structure Ready (K : PySem.W.Frag) (H : Hp) (t f s d pa pb p : Addr) (z : Str) (g : Grid) (one two : List Pr) : Prop where
  r1 : RightAt K H t f z g one
  r2 : RightAt K H t s z g two
  nd : NdAt H d (nds g (kcol z) (krow z))
  l1 : PrL H pa one
  l2 : PrL H pb two
  gr : GA H p g
  hz : z ∈ kindsS
theorem Ready.mono {H H' : Hp} {t f s d pa pb p : Addr} {z : Str} {g : Grid} {one two : List Pr} (r : Ready K H t f s d pa pb p z g one two) (x : Same H H') : Ready K H' t f s d pa pb p z g one two :=
  ⟨r.r1.mono x, r.r2.mono x, r.nd.mono x, r.l1.mono x, r.l2.mono x, r.gr.mono x, r.hz⟩
theorem strs_at {zs : List Str} {j : Nat} (h : j < zs.length) : (zs.map V.str)[j]? = some (.str (zs[j])) := by
  rw [List.getElem?_map, List.getElem?_eq_getElem h]; rfl
def l5 : List Int := [6, 6, 8, 3, 4]
theorem l5_ok : ∀ s ∈ l5, 0 < s ∧ s < 2 ^ 300 := by
  intro s hs
  unfold l5 at hs
  simp only [List.mem_cons, List.not_mem_nil, or_false] at hs
  rcases hs with rfl | rfl | rfl | rfl | rfl <;> decide
theorem l36_ok : ∀ s ∈ List.replicate 36 (36 : Int), 0 < s ∧ s < 2 ^ 300 := by
  intro s hs
  rw [(List.mem_replicate.mp hs).2]
  decide
theorem ord_small {g : Grid} {c w : Bool} {one : List Pr} (R : Rect g) (o : Ord (nds g c w) one) : ∀ p ∈ one, p.1 ≤ 7 ∧ p.2 ≤ 7 := by
  intro p hp
  have h := o.sub p hp
  rw [nds_keys] at h
  obtain ⟨l1, l2⟩ := R.lt (mem_spots.mp h)
  obtain ⟨_, r2, _, r4, _⟩ := R
  exact ⟨by omega, by omega⟩
def spLaw (K : PySem.W.Frag) : Sp := fun vs H Q _ => ∃ (a : Addr) (ns : List Int), vs = [.ref a] ∧ SqL K H a (ns.map V.int) ∧ BitsOk ns ∧ ∀ H' : Hp, Q (.bl true) H'
theorem mkFn {x qual : Str} {params : Arguments} {body : List Stmt} {scope : Scope} {N ps : List Str} {f : Addr} {fd : FuncData} {k : Nat} {sp : Sp} (F : FunD K x qual params body scope [] [] f fd) (S : FnScope N ps scope)
    (len : ∀ vs H Q E, sp vs H Q E → vs.length = ps.length)
    (hbody : ∀ (cdv : Value) (A : Around) (outer : List Env) (s : Shared) (H : Hp) (vs : List V) (Q : VK) (E : XK), Room k (A.deeper (envOfC qual scope s.heap.objs.size f cdv)) → sp vs H Q E →
      ∃ t, PSs (cxOf CX0 P w K mg base N qual scope f cdv A outer s H E).nox body t ∧ t { nx := fun _ H' => Q .non H', rt := Q } (start N vs) H) : FnOk P w K mg base CX0 (k + 1) f fd ps sp :=
  F.ok S len fun cdv A outer s H vs Q E hr h => (let ⟨t, h1, h2⟩ := hbody cdv A outer s H vs Q E hr h; ⟨t, h1.nox, h2⟩)
theorem law_fn (T : Txt K mg) {fd : FuncData} (F : FunD K "law" "law" (defArgs s_law) (defBody s_law) (defScope s_law) [] [] (He.ga K "law") fd) : FnOk P w K mg base CX0 11 (He.ga K "law") fd ["_law_script"] (spLaw K) := by
  refine mkFn F sc_law (fun vs H Q E h => ?len) (fun cdv A outer s H vs Q E hr h => ?body)
  case len =>
    obtain ⟨a, ns, rfl, _⟩ := h
    rfl
  case body =>
    obtain ⟨a, ns, rfl, ha, hbits, k⟩ := h
    have hu := hu_of hr
    have hu65 := hu65_of hr
    have hu64 := Nat.lt_of_le_of_lt (Nat.le_succ _) hu65
    obtain ⟨lf, G, B, ⟨dfl, v0, B0⟩, kp⟩ := df_led (P := P) (w := w) (base := base) T
    refine ⟨_, pss_cons (ps_set (i := 1) sc_law.nd rfl (Or.inl rfl) (pd_call (df_l_draws T) (hr.mono (by decide)) (by rfl) T.g_l_draws (pa_cons (pv 0) (pa_cons (pe_int) (pa_cons (pe_lst (pa_cons (pe_int) (pa_cons (pe_int) (pa_cons (pe_int) (pa_cons (pe_int) (pa_cons (pe_int) pa_nil)))))) pa_nil)))))
      (pss_cons (ps_set (i := 2) sc_law.nd rfl (Or.inl rfl) (pe_ix (r := rIxL K) ix_list (pe_lst (pa_cons (pe_str) (pa_cons (pe_str) (pa_cons (pe_str) (pa_cons (pe_str) pa_nil))))) (pe_ix (r := rIxL K) ix_list (pv 1) (pe_int) (fun _ _ => rfl)) (fun _ _ => rfl)))
      (pss_cons (ps_set (i := 3) sc_law.nd rfl (Or.inl rfl) (pd_call (df_l_table_of T) (hr.mono (by decide)) (by rfl) T.g_l_table_of (pa_cons (pv 0) (pa_cons (pv 2) (pa_cons (pv 1) pa_nil)))))
      (pss_cons (ps_set (i := 4) sc_law.nd rfl (Or.inl rfl) (pd_call (df_l_needs T) (hr.mono (by decide)) (by rfl) T.g_l_needs (pa_cons (pv 3) (pa_cons (pv 2) pa_nil))))
      (pss_cons (ps_set (i := 5) sc_law.nd rfl (Or.inl rfl) (pd_call (df_l_walk T) (hr.mono (by decide)) (by rfl) T.g_l_walk (pa_cons (pv 4) (pa_cons (pd_call (df_l_draws T) (hr.mono (by decide)) (by rfl) T.g_l_draws (pa_cons (pv 0) (pa_cons (pe_int) (pa_cons (pe_op op_rep (pe_lst (pa_cons (pe_int) pa_nil)) pe_int) pa_nil)))) pa_nil))))
      (pss_cons (ps_set (i := 6) sc_law.nd rfl (Or.inl rfl) (pd_call (df_l_walk T) (hr.mono (by decide)) (by rfl) T.g_l_walk (pa_cons (pv 4) (pa_cons (pd_call (df_l_draws T) (hr.mono (by decide)) (by rfl) T.g_l_draws (pa_cons (pv 0) (pa_cons (pe_int) (pa_cons (pe_op op_rep (pe_lst (pa_cons (pe_int) pa_nil)) pe_int) pa_nil)))) pa_nil))))
      (pss_cons (ps_if (PW.pt (pw_or (pt_not (pt_val (pd_call (df_l_is_right T) (hr.mono (by decide)) (by rfl) T.g_l_is_right (pa_cons (pv 4) (pa_cons (pv 5) pa_nil))))) (pw_or1 (pt_not (pt_val (pd_call (df_l_is_right T) (hr.mono (by decide)) (by rfl) T.g_l_is_right (pa_cons (pv 4) (pa_cons (pv 6) pa_nil)))))))) (pss_one (ps_ret pe_bl)) pss_nil)
      (pss_cons (ps_set (i := 7) sc_law.nd rfl (Or.inl rfl) (pd_make T.k_Table (df_T_init T) (hr.mono (by decide)) (by rfl) T.g_Table (pa_cons (pd_call (df_l_copy T) (hr.mono (by decide)) (by rfl) T.g_l_copy (pa_cons (pv 3) pa_nil)) pa_nil)))
      (pss_cons (ps_set (i := 8) sc_law.nd rfl (Or.inl rfl) (pd_make T.k_Order (df_O_init T) (hr.mono (by decide)) (by rfl) T.g_Order (pa_cons (pe_callTy (r := rListOf K) (T := "list") call_list_of (by rfl) T.f_list (by decide +kernel) (pa_cons (pv 5) pa_nil)) pa_nil)))
      (pss_cons (ps_set (i := 9) sc_law.nd rfl (Or.inl rfl) (pd_make T.k_Order (df_O_init T) (hr.mono (by decide)) (by rfl) T.g_Order (pa_cons (pe_callTy (r := rListOf K) (T := "list") call_list_of (by rfl) T.f_list (by decide +kernel) (pa_cons (pv 6) pa_nil)) pa_nil)))
      (pss_cons (ps_for PassesOwn.never rfl (pi_range1 (by rfl) T.f_range (pa_cons (pe_int) pa_nil)) (pg_name (i := 10) sc_law.nd rfl (Or.inl rfl))
        (pss_cons (ps_set (i := 11) sc_law.nd rfl (Or.inl rfl) (pe_callN (k := 10) G hr (by rfl) T.g_led kp B pass0 (pa_cons (pv 7) (pa_cons (pv 8) (pa_cons (pv 9) pa_nil))) (pk_cons (pv 2) pk_nil)))
        (pss_cons (ps_if (pt_not (pt_val (pd_call (df_l_leads T) (hr.mono (by decide)) (by rfl) T.g_l_leads (pa_cons (pv 4) (pa_cons (pv 5) (pa_cons (pv 6) (pa_cons (pv 11) pa_nil))))))) (pss_one (ps_ret pe_bl)) pss_nil)
        (pss_cons (ps_if (pt_cmpR op_ne (pd_call (df_unlike T) (hr.mono (by decide)) (by rfl) T.g_unlike (pa_cons (pv 8) (pa_cons (pv 9) pa_nil))) (pe_callB (r := rLenOf K) (id := "len") call_len_seq (by rfl) T.f_len (by decide +kernel) (pa_cons (pv 11) pa_nil)) (nomark _)) (pss_one (ps_ret pe_bl)) pss_nil)
        (pss_cons (ps_expr (pe_bm PySem.F.plainAttrs_list PySem.F.slot_list_append PySem.F.type_list_append mt_append (pv 11) (pa_cons (pe_int) pa_nil)))
        (pss_cons (ps_set (i := 12) sc_law.nd rfl (Or.inl rfl) (pe_callN (k := 10) G hr (by rfl) T.g_led kp B pass0 (pa_cons (pv 7) (pa_cons (pv 9) (pa_cons (pv 8) pa_nil))) (pk_cons (pv 2) pk_nil)))
        (pss_cons (ps_if (pt_not (pt_val (pd_call (df_l_leads T) (hr.mono (by decide)) (by rfl) T.g_l_leads (pa_cons (pv 4) (pa_cons (pv 6) (pa_cons (pv 5) (pa_cons (pv 12) pa_nil))))))) (pss_one (ps_ret pe_bl)) pss_nil)
        (pss_one (ps_expr (pe_bm PySem.F.plainAttrs_list PySem.F.slot_list_append PySem.F.type_list_append mt_append (pv 12) (pa_cons (pe_int) pa_nil)))))))))))
      (pss_cons (ps_if (PW.pt (pw_and (pt_cmpR op_eq (pv 2) pe_str (nomark _)) (pw_and1 (pt_not (pt_val (pd_call (df_l_leads T) (hr.mono (by decide)) (by rfl) T.g_l_leads (pa_cons (pv 4) (pa_cons (pv 5) (pa_cons (pv 6) (pa_cons (pe_call (k := 10) G hr (by rfl) T.g_led kp B0 v0 pass0 (pa_cons (pv 7) (pa_cons (pv 8) (pa_cons (pv 9) pa_nil)))) pa_nil)))))))))) (pss_one (ps_ret pe_bl)) pss_nil)
      (pss_cons (ps_if (pt_cmpR (op_neD hu64) (pe_callN (k := 10) G hr (by rfl) T.g_led kp B pass0 (pa_cons (pv 7) (pa_cons (pv 8) (pa_cons (pv 8) pa_nil))) (pk_cons (pv 2) pk_nil)) (pe_lst pa_nil) (nomark _)) (pss_one (ps_ret pe_bl)) pss_nil)
      (pss_one (ps_ret (pe_and (pe_cmpR (op_eqD hu64) (pd_meth0 (pv 8) T.c_Order T.m_O_pairs (df_O_pairs T) (hr.mono (by decide))) (pv 5) (nomark _)) (pe_and (pe_cmpR (op_eqD hu64) (pd_meth0 (pv 9) T.c_Order T.m_O_pairs (df_O_pairs T) (hr.mono (by decide))) (pv 6) (nomark _))
        (pe_one (pe_cmpR (op_eqD hu64) (pd_meth0 (pv 7) T.c_Table T.m_T_rows (df_T_rows T) (hr.mono (by decide))) (pv 3) (nomark _))))))))))))))))))), ?_⟩
    refine ⟨_, rfl, (by show 5 ≤ sizeLine; decide), fun L hL => ⟨a, L, 0, ns, l5, rfl, SqL.sm ha (same_new hL), hbits, Nat.zero_le _, upd_same, (by decide), l5_ok, fun hp H1 ds s1 nhp ih bl => ?_⟩⟩
    obtain ⟨h0, h1, h2, h3, h4, rfl, b0, b1, b2, b3, b4⟩ := five bl
    obtain ⟨j4, rfl⟩ := Int.eq_ofNat_of_zero_le b4.1
    have hj4 : j4 < kindsS.length := by show j4 < 4; omega
    have sA : Same H H1 := (same_new hL).trans s1
    clear s1
    refine ⟨(by show 4 ≤ sizeLine; decide), fun L2 hL2 => ⟨_, rfl, _, _, _, _, rfl, rfl, SqL.of (upd_keep ih hL2), rfl, _, _, _, _, rfl, rfl, SqL.of upd_same, atI_pos (j := j4) rfl (strs_at (zs := kindsS) hj4), ?_⟩⟩
    have hz : kindsS[j4] ∈ kindsS := List.getElem_mem hj4
    generalize kindsS[j4] = z at hz
    have sL2 := same_new (o := .lst [V.str "even", V.str "stock", V.str "wish", V.str "any"]) hL2
    refine ⟨_, rfl, _, rfl, _, rfl, a, hp, z, ns, h0, h1, h2, h3, _, rfl, SqL.sm ha (sA.trans sL2), hbits, sL2 _ _ ih, b0, b1, b3, fun p H2 g s3 gp R nst => ?_⟩
    have sB : Same H H2 := sA.trans (sL2.trans s3)
    have ok := nds_ok R (kcol z) (krow z)
    have hle := ok.le
    refine ⟨_, rfl, _, rfl, p, g, z, rfl, gp, R, fun d H3 s4 nd => ?_⟩
    -- the orders
    refine ⟨_, rfl, _, rfl, (by show 1 ≤ sizeLine; decide), fun L3 h3' => ⟨L3, _, _, rfl, rfl, upd_same, (by decide), (by decide), (by show 1 * 36 ≤ sizeLine; decide), fun L4 h4' => ?_⟩⟩
    have i4 : IntL (upd (upd H3 L3 (.lst [V.int 36])) L4 (.lst (List.replicate 36 [V.int 36]).flatten)) L4 (List.replicate 36 36) := by
      unfold IntL
      rw [← rep_ints]
      exact upd_same
    have s5 := (same_new (o := .lst [V.int 36]) h3').trans (same_new (o := .lst (List.replicate 36 [V.int 36]).flatten) h4')
    refine ⟨a, L4, 2, ns, List.replicate 36 36, rfl, SqL.sm ha (sB.trans (s4.trans s5)), hbits, (by decide), i4, (by rw [List.length_replicate]; decide), l36_ok, fun q1 H4 ds1 s6 _ iq1 bq1 => ?_⟩
    have d1l : ds1.length = 36 := by rw [Paired.length bq1, List.length_replicate]
    have s36 : Same H3 H4 := s5.trans s6
    clear s5 s6 i4
    refine ⟨d, q1, _, ds1, rfl, nd.mono s36, ok, iq1, by omega, fun pa H5 one n5 o1 => ?_, fun H5 _ bad => absurd nst bad⟩
    have s35 : Same H3 H5 := s36.trans n5.same
    refine ⟨_, rfl, _, rfl, (by show 1 ≤ sizeLine; decide), fun L5 h5' => ⟨L5, _, _, rfl, rfl, upd_same, (by decide), (by decide), (by show 1 * 36 ≤ sizeLine; decide), fun L6 h6' => ?_⟩⟩
    have i6 : IntL (upd (upd H5 L5 (.lst [V.int 36])) L6 (.lst (List.replicate 36 [V.int 36]).flatten)) L6 (List.replicate 36 36) := by
      unfold IntL
      rw [← rep_ints]
      exact upd_same
    have s7 := (same_new (o := .lst [V.int 36]) h5').trans (same_new (o := .lst (List.replicate 36 [V.int 36]).flatten) h6')
    refine ⟨a, L6, 3, ns, List.replicate 36 36, rfl, SqL.sm ha (sB.trans (s4.trans (s35.trans s7))), hbits, (by decide), i6, (by rw [List.length_replicate]; decide), l36_ok, fun q2 H6 ds2 s8 _ iq2 bq2 => ?_⟩
    have d2l : ds2.length = 36 := by rw [Paired.length bq2, List.length_replicate]
    have s56 : Same H5 H6 := s7.trans s8
    clear s7 s8 i6
    refine ⟨d, q2, _, ds2, rfl, nd.mono (s35.trans s56), ok, iq2, by omega, fun pb H7 two n7 o2 => ?_, fun H7 _ bad => absurd nst bad⟩
    have s57 : Same H5 H7 := s56.trans n7.same
    have s37 : Same H3 H7 := s35.trans s57
    refine ⟨_, rfl, _, rfl, d, pa, _, one, rfl, nd.mono s37, ok, PrL.mono n5.at_ s57, o1, fun H8 s8 => ⟨_, rfl, iteF ?_⟩⟩
    refine ⟨_, rfl, _, rfl, d, pb, _, two, rfl, nd.mono (s37.trans s8), ok, PrL.mono n7.at_ s8, o2, fun H9 s9 => ⟨_, rfl, iteF ?_⟩⟩
    have s39 : Same H3 H9 := s37.trans (s8.trans s9)
    have gp9 := gp.mono (s4.trans s39)
    have nd9 := nd.mono s39
    have pa9 := PrL.mono n5.at_ (s57.trans (s8.trans s9))
    have pb9 := PrL.mono n7.at_ (s8.trans s9)
    clear n5 n7 s8 s9 s57 s56 s37 s35 s36 iq1 iq2 bq1 bq2
    -- the table
    refine ⟨_, rfl, p, g, rfl, gp9, by have := R.2.1; omega, fun c H10 n10 => fun tx tdx htx htdx hne => ?_⟩
    refine ⟨tx, tdx, c, g, rfl, upd_same, GA.mono n10.at_ (made htx htdx fun b o e _ => e), R, fun H11 kp1 tab => ⟨rfl, ?_⟩⟩
    have sT : Same H9 H11 := n10.same.trans (made htx htdx kp1)
    -- the first order
    obtain ⟨as, e1, e2⟩ := pa9.mono sT
    refine ⟨_, rfl, pa, _, rfl, Or.inl (SqL.of e1), fun c1 hc1 => fun fx fdx hfx hfdx hne1 => ?_⟩
    have pc1 : PrL (upd H11 c1 (.lst (as.map V.ref))) c1 one := ⟨as, upd_same, Paired.mapP e2 fun x y w => upd_keep w hc1⟩
    refine ⟨fx, fdx, c1, one, rfl, upd_same, pc1.mono (made hfx hfdx fun b o e _ => e), o1.nodup, o1.le ok, ord_small R o1, fun H12 kp2 od1 => ⟨rfl, ?_⟩⟩
    have sF : Same H11 H12 := (same_new hc1).trans (made hfx hfdx kp2)
    -- the second order
    obtain ⟨bs, f1, f2⟩ := pb9.mono (sT.trans sF)
    refine ⟨_, rfl, pb, _, rfl, Or.inl (SqL.of f1), fun c2 hc2 => fun sx sdx hsx hsdx hne2 => ?_⟩
    have pc2 : PrL (upd H12 c2 (.lst (bs.map V.ref))) c2 two := ⟨bs, upd_same, Paired.mapP f2 fun x y w => upd_keep w hc2⟩
    refine ⟨sx, sdx, c2, two, rfl, upd_same, pc2.mono (made hsx hsdx fun b o e _ => e), o2.nodup, o2.le ok, ord_small R o2, fun H13 kp3 od2 => ⟨rfl, ?_⟩⟩
    have sS : Same H12 H13 := (same_new hc2).trans (made hsx hsdx kp3)
    have s913 : Same H9 H13 := sT.trans (sF.trans sS)
    have rd : Ready K H13 tx fx sx d pa pb p z g one two := ⟨⟨tab.mono (sF.trans sS), od1.mono sS, R, o1⟩, ⟨tab.mono (sF.trans sS), od2, R, o2⟩, nd9.mono s913, pa9.mono s913, pb9.mono s913, gp9.mono s913, hz⟩
    clear pc1 pc2 e1 e2 f1 f2 tab od1 od2 kp1 kp2 kp3 gp9 nd9 pa9 pb9 n10
    have hpm : one.Perm two := ord_perm o1 o2
    have hmp : two.Perm one := hpm.symm
    -- the two turns
    refine ⟨_, rfl, (by decide), (by decide), for_rng (n := 2) rfl (fun i σ H2 => Same H13 H2 ∧ ∃ x y w, σ = [some (.ref a), some (.ref hp), some (.str z), some (.ref p), some (.ref d), some (.ref pa), some (.ref pb), some (.ref tx), some (.ref fx), some (.ref sx), x, y, w]) ⟨Same.refl _, none, none, none, rfl⟩ ?_ ?_⟩
    · rintro i σ H14 _ ⟨s14, x, y, w, rfl⟩
      have r14 := rd.mono s14
      refine ⟨_, rfl, _, rfl, _, rfl, _, rfl, rfl, rfl, tx, fx, sx, z, g, one, two, rfl, r14.r1, r14.r2, hz, fun e H15 told se ne te Le len => ?_⟩
      have r15 := r14.mono se
      refine ⟨_, rfl, _, rfl, _, rfl, _, rfl, d, pa, pb, e, _, one, two, told, rfl, r15.nd, ok, r15.l1, r15.l2, te, o1, o2, Le, len, fun H16 s16 => ⟨_, rfl, iteF ?_⟩⟩
      have r16 := r15.mono s16
      refine ⟨_, rfl, _, rfl, fx, sx, one, two, rfl, r16.r1.od, r16.r2.od, hpm, o1.nodup, o1.le ok, fun H17 s17 => ?_⟩
      have te17 := s17 _ _ (s16 _ _ te)
      refine ⟨_, rfl, e, _, rfl, Or.inl (SqL.of te17), rfl, _, rfl, ?_⟩
      rw [List.length_map, len]
      refine iteNS rfl ?_
      have hil := invAt_le (qs := two) (o1.le ok)
      have hsz : 1297 < sizeLine := by decide
      refine ⟨_, rfl, Or.inl ⟨rfl, _, SqL.of te17⟩, e, _, _, rfl, rfl, te17, (by rw [List.length_map]; omega), ?_⟩
      have s18 : Same H13 (upd H17 e (.lst (told.map nV ++ [V.int 0]))) := s14.trans (same_upd (se.trans (s16.trans s17)) ne)
      generalize upd H17 e (.lst (told.map nV ++ [V.int 0])) = H18 at s18
      have r18 := rd.mono s18
      refine ⟨_, rfl, _, rfl, _, rfl, _, rfl, rfl, rfl, tx, sx, fx, z, g, two, one, rfl, r18.r2, r18.r1, hz, fun e2 H19 told2 se2 ne2 te2 Le2 len2 => ?_⟩
      have r19 := r18.mono se2
      refine ⟨_, rfl, _, rfl, _, rfl, _, rfl, d, pb, pa, e2, _, two, one, told2, rfl, r19.nd, ok, r19.l2, r19.l1, te2, o2, o1, Le2, len2, fun H20 s20 => ⟨_, rfl, iteF ?_⟩⟩
      have te20 := s20 _ _ te2
      have hil2 := invAt_le (qs := one) (o2.le ok)
      refine ⟨_, rfl, Or.inl ⟨rfl, _, SqL.of te20⟩, e2, _, _, rfl, rfl, te20, (by rw [List.length_map]; omega), ?_⟩
      exact ⟨s18.trans (same_upd (se2.trans s20) ne2), _, _, _, rfl⟩
    rintro σ H14 ⟨s14, x, y, w, rfl⟩
    have r14 := rd.mono s14
    -- the kind that is left out
    dsimp only [gName, tSeq]
    refine if_skip (fun Q q => ?_) (fun H15 s15 => ?_)
    · refine ⟨_, rfl, rfl, _, rfl, ?_⟩
      rw [dec_s]
      by_cases e : z = "even"
      · subst e
        rw [decide_eq_true rfl]
        refine iteT ⟨_, rfl, _, rfl, _, rfl, _, rfl, _, rfl, _, rfl, tx, fx, sx, "even", g, one, two, rfl, r14.r1, r14.r2, hz, fun e H15 told se ne te Le len => ?_⟩
        have r15 := r14.mono se
        exact ⟨d, pa, pb, e, _, one, two, told, rfl, r15.nd, ok, r15.l1, r15.l2, te, o1, o2, Le, len, fun H16 s16 => ⟨_, rfl, q _ (se.trans s16)⟩⟩
      · rw [decide_eq_false e]
        exact iteF (q _ (Same.refl _))
    have r15 := r14.mono s15
    -- from an order to itself
    dsimp only
    refine if_skip (fun Q q => ?_) (fun H16 s16 => ?_)
    · refine ⟨_, rfl, _, rfl, _, rfl, _, rfl, rfl, rfl, tx, fx, fx, z, g, one, one, rfl, r15.r1, r15.r1, hz, fun e H16 told se ne te Le len => ?_⟩
      obtain rfl : told = [] := List.eq_nil_of_length_eq_zero (by rw [len]; exact inv_self o1.nodup)
      refine ⟨Nat.zero_le _, fun x hx => ⟨.list (([] : List Pr).map pD), .list (([] : List Pr).map pD), .lst (SqL.of (upd_keep te hx)) .nil, .lst (SqL.of upd_same) .nil, pDs_shaped [], pDs_shaped [], _, rfl, ?_⟩⟩
      rw [eqv_pL]
      exact q _ (se.trans (same_new hx))
    have r16 := r15.mono s16
    obtain ⟨dx1, la1, dd1, q1, _⟩ := id r16.r1.od
    refine ⟨_, rfl, fx, dx1, _, rfl, q1, ofs_no la1 dd1 (by decide +kernel) (by decide +kernel), fx, one, rfl, r16.r1.od, fun c5 H17 n17 => ⟨_, rfl, eq_pairs n17.at_ (r16.l1.mono n17.same) ⟨_, rfl, iteT ?_⟩⟩⟩
    have r17 := r16.mono n17.same
    obtain ⟨dx2, la2, dd2, q2, _⟩ := id r17.r2.od
    refine ⟨_, rfl, sx, dx2, _, rfl, q2, ofs_no la2 dd2 (by decide +kernel) (by decide +kernel), sx, two, rfl, r17.r2.od, fun c6 H18 n18 => ⟨_, rfl, eq_pairs n18.at_ (r17.l2.mono n18.same) ⟨_, rfl, iteT ?_⟩⟩⟩
    have r18 := r17.mono n18.same
    obtain ⟨dx3, ga3, q3, _⟩ := id r18.r1.tb
    refine ⟨_, rfl, tx, dx3, _, rfl, q3, look_no_grid _ (by decide +kernel), tx, g, rfl, r18.r1.tb, by have := R.2.1; omega, fun c7 H19 n19 => ⟨_, rfl, eq_grids n19.at_ (r18.gr.mono n19.same) (k _)⟩⟩
end
end K55
set_option Elab.async false
set_option linter.all false
set_option maxRecDepth 100000
set_option maxHeartbeats 0
namespace K55
open PySem PySem.Spec PyProof.Rows L2
/-- what is read of the heap behind the top: the facts by names, and the tuple KINDS -/
abbrev AlK : Type := He.AlD × Bool
def obsK (K : PySem.W.Frag) : AlK := (He.obsD fa fn K, He.tupB K "KINDS" kindsV)
def valK : AlK := (He.valD fn, true)
def obsKG (g : Addr → Option Obj) : AlK := obsK (He.frG g (He.asD g 5))
def hookK : PySem.W.Hook where
  α := AlK
  obs := fun s => obsKG s.heap.get?
  val := fun _ => valK
  says := fun _ h => ∃ K : PySem.W.Frag, K.In h ∧ obsK K = valK
  of := fun _ _ e => ⟨_, He.frG_in, e⟩
  keeps := fun _ _ _ ⟨K, hK, c⟩ k => ⟨K, PySem.W.Frag.In.keeps hK k, c⟩
abbrev R : PySem.W.OpenRow := PySem.W.OpenLaw.row PySem.Challenge.rw_pairorder_k55_whole_leads
def ob (s : PySem.W.SharedT) : AlK := obsKG (HandSHeadRun.getT s)
theorem ob_eq (s : PySem.W.SharedT) : ob s = hookK.obs s.abs := by
  have e : HandSHeadRun.getT s = s.abs.heap.get? := funext (HandSHeadRun.getT_eq s)
  unfold ob
  rw [e]
  rfl
theorem run (w : World) : HandSHeadRun.RunEq R (PySem.W.view R.prog [62]) hookK ob 20000 loose w := by
  intro os
  kernel_rfl
end K55
set_option Elab.async false
set_option linter.all false
set_option maxRecDepth 100000
set_option maxHeartbeats 0
namespace K55
open PySem PySem.Spec PyProof.Rows L2
/-- a law over a head by facts, the bits of its script told -/
theorem walk_ofK {l : PySem.W.OpenLaw} {n k : Nat} {q : Program} {loose : List Str} {XP : (Str → Option Value) → Heap → Prop} {YP : World → Heap → Prop} {d : DefRec} {CX : CXT} {x : Str}
    (hn : l.most = some n) (hn2 : n ≤ sizeLine) (hdf : d.params.defaults = []) (hr : Room k callerA)
    (F : ∀ (w : World) (mg : Str → Option Value) (fa : Addr) (h : Heap), YP w h → h.Ns mainGlobals mg → mg d.name = some (.ref fa) →
      ∃ (K : PySem.W.Frag) (fd : FuncData) (sp : Sp), K.In h ∧ (∀ (s : Shared) (u : Value), BindsTo s fd ⟨[u], []⟩ [(x, u)]) ∧
        (∀ (H : Hp) (a : Addr) (ns : List Int), BitsOk ns → SqL K H a (ns.map V.int) → sp [.ref a] H (fun v _ => v = .bl true) fun _ _ _ => False) ∧
        ∀ base : Heap, K.In base → base.Ns mainGlobals mg → FnOk l.prog w K mg base CX k fa fd [x] sp)
    (hCX : ∀ (H : Hp) (s : Shared) (e : Value) (s' : Shared), CX [] H s (fun _ _ _ => False) e s' → False) :
    PySem.W.WalkO q loose XP YP l.row.toRowW d [] (fun f vs => PySem.call f vs) := by
  refine Att.attach_callB hn hdf fun w s₀ s₁ mg mb fa o pm cd doc a vs ns G Y ho hd hcd hmg hobj hints hlen hbits hg => ?_
  obtain ⟨K, fd, sp, KX, hb, hsp, hF⟩ := F w mg fa _ Y G.T.g hmg
  exact law_call KX G.T.g G.T.b G.T.builtins G.T.nolimit hg hobj hints (Nat.le_trans hlen hn2) hr hF hb (fun H hO hS => hsp H a ns hbits hS) fun H e s' => hCX H s₁ e s'
/-- the facts by their places -/
theorem txt_of {K : PySem.W.Frag} {h : Heap} {mg : Str → Option Value} (X : K.In h) (G : h.Ns mainGlobals mg) (c : He.SaysD fa fn K) (tb : He.tupB K "KINDS" kindsV = true) : Txt K mg :=
  ⟨He.glo_ok X G (c.fact 0 (f := .glo "is_integer") rfl),
    He.glo_ok X G (c.fact 1 (f := .glo "is_between") rfl),
    He.glo_ok X G (c.fact 2 (f := .glo "is_spot") rfl),
    He.glo_ok X G (c.fact 3 (f := .glo "is_kind") rfl),
    He.glo_ok X G (c.fact 4 (f := .glo "check_kind") rfl),
    He.glo_ok X G (c.fact 5 (f := .glo "counts_columns") rfl),
    He.glo_ok X G (c.fact 6 (f := .glo "counts_rows") rfl),
    He.glo_ok X G (c.fact 7 (f := .glo "is_possible_pair") rfl),
    He.glo_ok X G (c.fact 8 (f := .glo "check_order") rfl),
    He.glo_ok X G (c.fact 9 (f := .glo "is_dearer") rfl),
    He.glo_ok X G (c.fact 10 (f := .glo "bars") rfl),
    He.glo_ok X G (c.fact 11 (f := .glo "first_bar") rfl),
    He.glo_ok X G (c.fact 12 (f := .glo "first_fault") rfl),
    He.glo_ok X G (c.fact 13 (f := .glo "check_right") rfl),
    He.glo_ok X G (c.fact 14 (f := .glo "places_of") rfl),
    He.glo_ok X G (c.fact 15 (f := .glo "unlike") rfl),
    He.glo_ok X G (c.fact 16 (f := .glo "check_both") rfl),
    He.glo_ok X G (c.fact 17 (f := .glo "led") rfl),
    He.glo_ok X G (c.fact 18 (f := .glo "is_entry") rfl),
    He.glo_ok X G (c.fact 19 (f := .glo "is_row") rfl),
    He.glo_ok X G (c.fact 20 (f := .glo "width_of") rfl),
    He.glo_ok X G (c.fact 21 (f := .glo "_law_cell") rfl),
    He.glo_ok X G (c.fact 22 (f := .glo "_law_mixed") rfl),
    He.glo_ok X G (c.fact 23 (f := .glo "_law_draws") rfl),
    He.glo_ok X G (c.fact 24 (f := .glo "_law_grid") rfl),
    He.glo_ok X G (c.fact 25 (f := .glo "_law_spots") rfl),
    He.glo_ok X G (c.fact 26 (f := .glo "_law_copy") rfl),
    He.glo_ok X G (c.fact 27 (f := .glo "_law_cross") rfl),
    He.glo_ok X G (c.fact 28 (f := .glo "_law_needs_of") rfl),
    He.glo_ok X G (c.fact 29 (f := .glo "_law_needs") rfl),
    He.glo_ok X G (c.fact 30 (f := .glo "_law_met") rfl),
    He.glo_ok X G (c.fact 31 (f := .glo "_law_open") rfl),
    He.glo_ok X G (c.fact 32 (f := .glo "_law_is_right") rfl),
    He.glo_ok X G (c.fact 33 (f := .glo "_law_walk") rfl),
    He.glo_ok X G (c.fact 34 (f := .glo "_law_table_of") rfl),
    He.glo_ok X G (c.fact 35 (f := .glo "_law_unlike") rfl),
    He.glo_ok X G (c.fact 36 (f := .glo "_law_leads") rfl),
    He.glo_ok X G (c.fact 37 (f := .glo "law") rfl),
    He.glo_ok X G (c.fact 38 (f := .glo "Table") rfl),
    He.glo_ok X G (c.fact 39 (f := .glo "Order") rfl),
    He.glo_ok X G (c.fact 40 (f := .glo "KINDS") rfl),
    He.free_ok X G (c.fact 41 (f := .free "len") rfl),
    He.free_ok X G (c.fact 42 (f := .free "isinstance") rfl),
    He.free_ok X G (c.fact 43 (f := .free "list") rfl),
    He.free_ok X G (c.fact 44 (f := .free "tuple") rfl),
    He.free_ok X G (c.fact 45 (f := .free "int") rfl),
    He.free_ok X G (c.fact 46 (f := .free "str") rfl),
    He.free_ok X G (c.fact 47 (f := .free "bool") rfl),
    He.free_ok X G (c.fact 48 (f := .free "range") rfl),
    He.free_ok X G (c.fact 49 (f := .free "enumerate") rfl),
    He.free_ok X G (c.fact 50 (f := .free "max") rfl),
    He.int_ok X G (c.fact 51 (f := .int "LONGEST" 64) rfl),
    He.int_ok X G (c.fact 52 (f := .int "GREATEST" 7) rfl),
    He.int_ok X G (c.fact 53 (f := .int "MOST" 8) rfl),
    He.cls_ok (c.fact 54 (f := .cls "Table") rfl),
    He.cls_ok (c.fact 55 (f := .cls "Order") rfl),
    He.mkr_ok (c.fact 56 (f := .mkr "Table") rfl),
    He.mkr_ok (c.fact 57 (f := .mkr "Order") rfl),
    He.noat_ok (c.fact 58 (f := .noat "Table" "grid") rfl),
    He.noat_ok (c.fact 59 (f := .noat "Order" "listed") rfl),
    He.noat_ok (c.fact 60 (f := .noat "Order" "spots") rfl),
    He.meth_ok (c.fact 61 (f := .meth "Order" "__len__") rfl),
    He.meth_ok (c.fact 62 (f := .meth "Order" "pairs") rfl),
    He.meth_ok (c.fact 63 (f := .meth "Table" "__len__") rfl),
    He.meth_ok (c.fact 64 (f := .meth "Table" "__contains__") rfl),
    He.meth_ok (c.fact 65 (f := .meth "Table" "rows") rfl),
    He.meth_ok (c.fact 66 (f := .meth "Table" "has_cell") rfl),
    He.meth_ok (c.fact 67 (f := .meth "Table" "pairs") rfl),
    tb,
    c.def_ 0 (d := d_is_integer) rfl,
    c.def_ 1 (d := d_is_between) rfl,
    c.def_ 2 (d := d_is_spot) rfl,
    c.def_ 3 (d := d_is_kind) rfl,
    c.def_ 4 (d := d_check_kind) rfl,
    c.def_ 5 (d := d_counts_columns) rfl,
    c.def_ 6 (d := d_counts_rows) rfl,
    c.def_ 7 (d := d_is_possible_pair) rfl,
    c.def_ 8 (d := d_O_init) rfl,
    c.def_ 9 (d := d_O_len) rfl,
    c.def_ 10 (d := d_O_pairs) rfl,
    c.def_ 11 (d := d_check_order) rfl,
    c.def_ 12 (d := d_is_dearer) rfl,
    c.def_ 13 (d := d_bars) rfl,
    c.def_ 14 (d := d_first_bar) rfl,
    c.def_ 15 (d := d_first_fault) rfl,
    c.def_ 16 (d := d_check_right) rfl,
    c.def_ 17 (d := d_places_of) rfl,
    c.def_ 18 (d := d_unlike) rfl,
    c.def_ 19 (d := d_check_both) rfl,
    c.def_ 20 (d := d_led) rfl,
    c.def_ 21 (d := d_is_entry) rfl,
    c.def_ 22 (d := d_is_row) rfl,
    c.def_ 23 (d := d_width_of) rfl,
    c.def_ 24 (d := d_T_init) rfl,
    c.def_ 25 (d := d_T_len) rfl,
    c.def_ 26 (d := d_T_contains) rfl,
    c.def_ 27 (d := d_T_rows) rfl,
    c.def_ 28 (d := d_T_has_cell) rfl,
    c.def_ 29 (d := d_T_pairs) rfl,
    c.def_ 30 (d := d_l_cell) rfl,
    c.def_ 31 (d := d_l_mixed) rfl,
    c.def_ 32 (d := d_l_draws) rfl,
    c.def_ 33 (d := d_l_grid) rfl,
    c.def_ 34 (d := d_l_spots) rfl,
    c.def_ 35 (d := d_l_copy) rfl,
    c.def_ 36 (d := d_l_cross) rfl,
    c.def_ 37 (d := d_l_needs_of) rfl,
    c.def_ 38 (d := d_l_needs) rfl,
    c.def_ 39 (d := d_l_met) rfl,
    c.def_ 40 (d := d_l_open) rfl,
    c.def_ 41 (d := d_l_is_right) rfl,
    c.def_ 42 (d := d_l_walk) rfl,
    c.def_ 43 (d := d_l_table_of) rfl,
    c.def_ 44 (d := d_l_unlike) rfl,
    c.def_ 45 (d := d_l_leads) rfl,
    c.def_ 46 (d := d_law) rfl⟩
theorem law_facts {P : Program} {w : World} {K : PySem.W.Frag} {h : Heap} {mg : Str → Option Value} {f : Addr} (X : K.In h) (G : h.Ns mainGlobals mg) (hfa : mg ("law" : Str) = some (.ref f)) (e : obsK K = valK) :
    ∃ fd : FuncData, (∀ (s : Shared) (v : Value), BindsTo s fd ⟨[v], []⟩ [("_law_script", v)]) ∧ ∀ base : Heap, K.In base → base.Ns mainGlobals mg → FnOk P w K mg base CX0 11 f fd ["_law_script"] (spLaw K) := by
  have T : Txt K mg := txt_of X G (congrArg Prod.fst e) (congrArg Prod.snd e)
  obtain ⟨fd, F⟩ := T.D_law
  have e2 := hfa.symm.trans T.g_law
  cases e2
  have b := FunD.bindsA (ps := ["_law_script"]) F fun _ _ _ _ _ _ us hl => match us, hl with | [_], _ => rfl
  exact ⟨fd, fun s v => b s [v] rfl, fun base _ _ => law_fn T F⟩
end K55
open PySem PySem.W PySem.Calls PyProof.Rows
theorem PySem.Challenge.cw_pairorder_k55_whole_leads_holds : PySem.Challenge.rw_pairorder_k55_whole_leads.Holds := by
  w_on; o_law
  refine HandSHeadRun.head_any (r := OpenLaw.row PySem.Challenge.rw_pairorder_k55_whole_leads) (q := view (OpenLaw.row PySem.Challenge.rw_pairorder_k55_whole_leads).prog [62]) (H := K55.hookK) (ob := K55.ob) (M := 20000) (loose := K55.loose) (d := HandSHeadRun.topDef (OpenLaw.row PySem.Challenge.rw_pairorder_k55_whole_leads).prog 62) (kwd := []) K55.ob_eq
    (by kernel_rfl) (fun s => by kernel_rfl) K55.run (by kernel_rfl) (by kernel_rfl) (by kernel_rfl) (by rfl) (by first | assumption | decide +kernel) (by decide +kernel) ⟨rfl, rfl, rfl, rfl, rfl, by decide +kernel⟩ ?hw ?hc
  case hw => w_witness2
  case hc =>
    refine K55.walk_ofK (l := PySem.Challenge.rw_pairorder_k55_whole_leads) (n := 63) (k := 11) (x := "_law_script") (CX := L2.CX0) rfl (by decide) (by kernel_rfl) ⟨rfl, by decide, by decide⟩ ?F (fun _ _ _ _ z => z)
    intro w mg fa h Y G hmg0
    obtain ⟨K, KX, c⟩ := Y
    have hmg : mg ("law" : PySem.Str) = some (.ref fa) := by
      have e : (HandSHeadRun.topDef (OpenLaw.row PySem.Challenge.rw_pairorder_k55_whole_leads).prog 62).name = ("law" : PySem.Str) := by kernel_rfl
      rw [← e]
      exact hmg0
    obtain ⟨fd, hb, hF⟩ := K55.law_facts (P := (PySem.Challenge.rw_pairorder_k55_whole_leads).prog) (w := w) KX G hmg c
    exact ⟨K, fd, K55.spLaw K, KX, hb, fun H a ns hbits hS => ⟨a, ns, rfl, hS, hbits, fun _ => rfl⟩, hF⟩
