import PyProof.Rows.All
import Wide.All
import OpenK.AllK
import Wide.FinOn
import HandS.ForMost
import HandS.Zip
import HandS.TupAny
import HandS.IsInst
import HandS.Deep
import HandS.Conv
import HandS.Style
import KE.SortData
import KE.SortKeyHeap
import HandS.DictComp
import PyProof.DictWalks
import HandS.Wide
import HandS.Flow
import HandS.SortKw
import HandS.DictTup
import HandS.Lambda
import HandS.EndTab
import HandS.Exc
import HandS.ExcOwn
import HandS.ExcIs
import HandS.WordsExc
import PySem.Challenge.RW_manrods_k68_whole_platforms_that_lose_mo
import HandS.HeadHook1
import KE.KNestM
section
set_option autoImplicit false
namespace Mn
/-! ### matchings -/
/-- f gives each man of L at most one slot, from a on, of his own; unlike ones -/
structure IsM (G : Nat → Int → Prop) (L : List Nat) (a : Int) (f : Nat → Option Int) : Prop where
  ok : ∀ m ∈ L, ∀ s, f m = some s → a ≤ s ∧ G m s
  inj : ∀ m ∈ L, ∀ m' ∈ L, ∀ s, f m = some s → f m' = some s → m = m'
def sz (f : Nat → Option Int) (L : List Nat) : Nat := (L.filter fun m => (f m).isSome).length
theorem sz_nil (f : Nat → Option Int) : sz f [] = 0 := rfl
theorem sz_cons (f : Nat → Option Int) (m : Nat) (L : List Nat) : sz f (m :: L) = (if (f m).isSome then 1 else 0) + sz f L := by
  unfold sz
  rw [List.filter_cons]
  split <;> simp <;> omega
theorem sz_le_len (f : Nat → Option Int) (L : List Nat) : sz f L ≤ L.length := List.length_filter_le _ _
theorem sz_congr {f g : Nat → Option Int} {L : List Nat} (h : ∀ m ∈ L, (f m).isSome = (g m).isSome) : sz f L = sz g L := by
  unfold sz
  rw [List.filter_congr h]
theorem sz_mono {f g : Nat → Option Int} {L : List Nat} (h : ∀ m ∈ L, (f m).isSome = true → (g m).isSome = true) : sz f L ≤ sz g L := by
  induction L with
  | nil => exact Nat.le_refl _
  | cons m L ih =>
    rw [sz_cons, sz_cons]
    have h1 := ih fun x hx => h x (List.mem_cons_of_mem _ hx)
    have h2 := h m List.mem_cons_self
    by_cases e : (f m).isSome = true
    · rw [if_pos e, if_pos (h2 e)]; omega
    · rw [if_neg e]; omega
/-- without one man of L the size falls by at most one -/
theorem sz_erase {f : Nat → Option Int} {c : Nat} : ∀ {L : List Nat}, L.Nodup → c ∈ L → sz f L = (if (f c).isSome then 1 else 0) + sz f (L.filter (· ≠ c)) := by
  intro L
  induction L with
  | nil => intro _ h; cases h
  | cons m L ih =>
    intro nd hc
    rw [List.nodup_cons] at nd
    by_cases e : m = c
    · subst e
      have h1 : L.filter (· ≠ m) = L := by
        rw [List.filter_eq_self]
        intro x hx
        have : x ≠ m := fun z => nd.1 (z ▸ hx)
        simpa using this
      rw [sz_cons, List.filter_cons]
      simp only [ne_eq, not_true_eq_false, decide_false, Bool.false_eq_true, if_false]
      rw [show L.filter (fun x => decide (¬ x = m)) = L from h1]
    · have hc' : c ∈ L := by
        rcases List.mem_cons.mp hc with z | z
        · exact absurd z.symm e
        · exact z
      rw [sz_cons, ih nd.2 hc', List.filter_cons]
      have : (decide (m ≠ c)) = true := by simpa using e
      rw [if_pos this, sz_cons]
      omega
theorem sz_filter {f : Nat → Option Int} {p : Nat → Bool} : ∀ {L : List Nat}, (∀ m ∈ L, (f m).isSome = true → p m = true) → sz f (L.filter p) = sz f L := by
  intro L h
  induction L with
  | nil => rfl
  | cons m L ih =>
    have h1 := ih fun x hx => h x (List.mem_cons_of_mem _ hx)
    rw [List.filter_cons, sz_cons]
    by_cases e : p m = true
    · rw [if_pos e, sz_cons, h1]
    · rw [if_neg e, h1]
      have : ¬ (f m).isSome = true := fun z => e (h m List.mem_cons_self z)
      rw [if_neg this]; omega

/-! ### the deepest first -/
section
variable (lev : Nat → Int) (W : Int → Nat → Option Int) (G : Nat → Int → Prop)
def pairs (left : List Nat) (a : Int) : List (Nat × Int) := left.filterMap fun m => (W a m).map fun s => (m, s)
def sel (ps : List (Nat × Int)) : Option (Nat × Int) :=
  match (ps.map (·.2)).min? with
  | none => none
  | some s => match ((ps.filter fun q => decide (q.2 = s)).map fun q => lev q.1).max? with
    | none => none
    | some d => (ps.filter fun q => decide (q.2 = s) && decide (lev q.1 = d)).head?
def loop : Nat → List Nat → List (Option Int) → Int → List (Option Int)
  | 0, _, g, _ => g
  | n + 1, left, g, a => match sel lev (pairs W left a) with
    | none => g
    | some (c, s) => loop n (((pairs W left a).map (·.1)).filter (· ≠ c)) (g.set c (some s)) (s + 1)
/-- how many are served -/
def picks : Nat → List Nat → Int → Nat
  | 0, _, _ => 0
  | n + 1, left, a => match sel lev (pairs W left a) with
    | none => 0
    | some (c, s) => 1 + picks n (((pairs W left a).map (·.1)).filter (· ≠ c)) (s + 1)
variable {lev W G}
theorem sel_none {ps : List (Nat × Int)} : sel lev ps = none ↔ ps = [] := by
  constructor
  · intro h
    unfold sel at h
    cases hm : (ps.map (·.2)).min? with
    | none =>
      rw [List.min?_eq_none_iff] at hm
      simpa using hm
    | some s =>
      rw [hm] at h
      simp only at h
      have hs := List.min?_mem hm
      obtain ⟨q, hq, hqs⟩ := List.mem_map.mp hs
      have hq' : q ∈ ps.filter fun q => decide (q.2 = s) := List.mem_filter.mpr ⟨hq, by simpa using hqs⟩
      cases hd : ((ps.filter fun q => decide (q.2 = s)).map fun q => lev q.1).max? with
      | none =>
        rw [List.max?_eq_none_iff] at hd
        rw [List.map_eq_nil_iff] at hd
        rw [hd] at hq'
        cases hq'
      | some d =>
        rw [hd] at h
        simp only at h
        have hdm := List.max?_mem hd
        obtain ⟨r, hr, hrd⟩ := List.mem_map.mp hdm
        rw [List.mem_filter] at hr
        have hr' : r ∈ ps.filter fun q => decide (q.2 = s) && decide (lev q.1 = d) := List.mem_filter.mpr ⟨hr.1, by rw [hr.2, hrd]; simp⟩
        rw [List.head?_eq_none_iff] at h
        rw [h] at hr'
        cases hr'
  · rintro rfl
    rfl
theorem sel_some {ps : List (Nat × Int)} {c : Nat} {s : Int} (h : sel lev ps = some (c, s)) : (c, s) ∈ ps ∧ (∀ q ∈ ps, s ≤ q.2) ∧ ∀ q ∈ ps, q.2 = s → lev q.1 ≤ lev c := by
  unfold sel at h
  cases hm : (ps.map (·.2)).min? with
  | none => rw [hm] at h; cases h
  | some s' =>
    rw [hm] at h
    simp only at h
    cases hd : ((ps.filter fun q => decide (q.2 = s')).map fun q => lev q.1).max? with
    | none => rw [hd] at h; cases h
    | some d =>
      rw [hd] at h
      simp only at h
      have hc := List.mem_of_mem_head? h
      rw [List.mem_filter] at hc
      simp only [Bool.and_eq_true, decide_eq_true_eq] at hc
      obtain ⟨h1, h2, h3⟩ := hc
      subst h2
      refine ⟨h1, fun q hq => ?_, fun q hq e => ?_⟩
      · exact (List.min?_eq_some_iff.mp hm).2 _ (List.mem_map_of_mem hq)
      · rw [h3]
        have := (List.max?_eq_some_iff.mp hd).2 (lev q.1) (List.mem_map.mpr ⟨q, List.mem_filter.mpr ⟨hq, by simpa using e⟩, rfl⟩)
        exact this
theorem mem_pairs {left : List Nat} {a : Int} {m : Nat} {s : Int} : (m, s) ∈ pairs W left a ↔ m ∈ left ∧ W a m = some s := by
  unfold pairs
  rw [List.mem_filterMap]
  constructor
  · rintro ⟨x, hx, e⟩
    rw [Option.map_eq_some_iff] at e
    obtain ⟨t, ht, e⟩ := e
    cases e
    exact ⟨hx, ht⟩
  · rintro ⟨h1, h2⟩
    exact ⟨m, h1, by rw [h2]; rfl⟩
theorem pairs_fst (left : List Nat) (a : Int) : (pairs W left a).map (·.1) = left.filter fun m => (W a m).isSome := by
  unfold pairs
  induction left with
  | nil => rfl
  | cons m L ih =>
    rw [List.filterMap_cons, List.filter_cons]
    cases e : W a m with
    | none => simpa using ih
    | some s => simpa using ih

/-- what the wanted slots are -/
structure Wants (W : Int → Nat → Option Int) (G : Nat → Int → Prop) : Prop where
  yes : ∀ a m s, W a m = some s → a ≤ s ∧ G m s ∧ ∀ t, a ≤ t → G m t → s ≤ t
  no : ∀ a m, W a m = none → ∀ t, a ≤ t → ¬ G m t
/-- a deeper man's later slots are a less deep one's, too -/
def Falls (lev : Nat → Int) (G : Nat → Int → Prop) : Prop := ∀ m m' s t, G m' s → s ≤ t → G m t → lev m' ≤ lev m → G m' t

theorem picks_top (hW : Wants W G) (hF : Falls lev G) : ∀ (n : Nat) (L : List Nat) (a : Int), L.Nodup → L.length ≤ n → ∀ f, IsM G L a f → sz f L ≤ picks lev W n L a := by
  intro n
  induction n with
  | zero =>
    intro L a _ hl f _
    have : L = [] := List.eq_nil_of_length_eq_zero (by omega)
    subst this
    exact Nat.le_refl _
  | succ n ih =>
    intro L a nd hl f hf
    -- those without a slot are in no matching
    have hdrop : sz f (L.filter fun m => (W a m).isSome) = sz f L := sz_filter fun m hm hs => by
      obtain ⟨s, e⟩ := Option.isSome_iff_exists.mp hs
      cases e' : W a m with
      | none => exact absurd (hf.ok m hm s e).2 (hW.no a m e' s (hf.ok m hm s e).1)
      | some _ => rfl
    unfold picks
    cases hsel : sel lev (pairs W L a) with
    | none =>
      have h0 := sel_none.mp hsel
      have : L.filter (fun m => (W a m).isSome) = [] := by rw [← pairs_fst, h0]; rfl
      rw [← hdrop, this]
      exact Nat.le_refl _
    | some cs =>
      obtain ⟨c, s⟩ := cs
      simp only
      obtain ⟨h1, h2, h3⟩ := sel_some hsel
      obtain ⟨hcL, hcs⟩ := mem_pairs.mp h1
      rw [pairs_fst]
      generalize hL' : (L.filter fun m => (W a m).isSome) = L' at hdrop ⊢
      have nd' : L'.Nodup := by rw [← hL']; exact nd.sublist List.filter_sublist
      have sub : ∀ m ∈ L', m ∈ L := fun m hm => by rw [← hL'] at hm; exact (List.mem_filter.mp hm).1
      have hcL' : c ∈ L' := by rw [← hL']; exact List.mem_filter.mpr ⟨hcL, by rw [hcs]; rfl⟩
      have hlen : (L'.filter (· ≠ c)).length ≤ n := by
        have e1 : L'.length ≤ L.length := by rw [← hL']; exact List.length_filter_le _ _
        have e2 : (L'.filter (· ≠ c)).length < L'.length := by
          rw [List.length_filter_lt_length_iff_exists]
          exact ⟨c, hcL', by simp⟩
        omega
      -- all slots of L' are from s on
      have low : ∀ m ∈ L', ∀ t, f m = some t → s ≤ t := fun m hm t e => by
        have hmL := sub m hm
        rw [← hL'] at hm
        obtain ⟨u, hu⟩ := Option.isSome_iff_exists.mp (List.mem_filter.mp hm).2
        have h4 := h2 (m, u) (mem_pairs.mpr ⟨hmL, hu⟩)
        have h5 := (hW.yes a m u hu).2.2 t (hf.ok m hmL t e).1 (hf.ok m hmL t e).2
        exact Int.le_trans h4 h5
      -- the matching without c, whoever has s going to c's slot
      let f' : Nat → Option Int := fun m => if f m = some s then (if f c = some s then none else f c) else f m
      have key : IsM G (L'.filter (· ≠ c)) (s + 1) f' ∧ sz f L' ≤ 1 + sz f' (L'.filter (· ≠ c)) := by
        refine ⟨⟨fun m hm t e => ?_, fun m hm m' hm' t e e' => ?_⟩, ?_⟩
        · rw [List.mem_filter] at hm
          obtain ⟨hm, hmc⟩ := hm
          have hmc : m ≠ c := by simpa using hmc
          have hmL := sub m hm
          simp only [f'] at e
          by_cases q : f m = some s
          · rw [if_pos q] at e
            by_cases q2 : f c = some s
            · rw [if_pos q2] at e; cases e
            · rw [if_neg q2] at e
              have l1 := low c hcL' t e
              have hne : t ≠ s := fun z => q2 (by rw [e, z])
              refine ⟨by omega, ?_⟩
              have g1 := (hf.ok m hmL s q).2
              have g2 := (hf.ok c (sub c hcL') t e).2
              -- m wants s as well
              have hms : W a m = some s := by
                rw [← hL'] at hm
                obtain ⟨u, hu⟩ := Option.isSome_iff_exists.mp (List.mem_filter.mp hm).2
                have h4 := h2 (m, u) (mem_pairs.mpr ⟨hmL, hu⟩)
                have h5 := (hW.yes a m u hu).2.2 s (hf.ok m hmL s q).1 g1
                have h4 : s ≤ u := h4
                have : u = s := by omega
                rw [hu, this]
              have h6 := h3 (m, s) (mem_pairs.mpr ⟨hmL, hms⟩) rfl
              exact hF c m s t g1 l1 g2 h6
          · rw [if_neg q] at e
            have l1 := low m hm t e
            have hne : t ≠ s := fun z => q (by rw [e, z])
            exact ⟨by omega, (hf.ok m hmL t e).2⟩
        · rw [List.mem_filter] at hm hm'
          have hmc : m ≠ c := by simpa using hm.2
          have hmc' : m' ≠ c := by simpa using hm'.2
          have hmL := sub m hm.1
          have hmL' := sub m' hm'.1
          simp only [f'] at e e'
          by_cases q : f m = some s
          · by_cases q' : f m' = some s
            · exact hf.inj m hmL m' hmL' s q q'
            · rw [if_pos q] at e
              rw [if_neg q'] at e'
              by_cases q2 : f c = some s
              · rw [if_pos q2] at e; cases e
              · rw [if_neg q2] at e
                exact absurd (hf.inj m' hmL' c (sub c hcL') t e' e) hmc'
          · rw [if_neg q] at e
            by_cases q' : f m' = some s
            · rw [if_pos q'] at e'
              by_cases q2 : f c = some s
              · rw [if_pos q2] at e'; cases e'
              · rw [if_neg q2] at e'
                exact absurd (hf.inj m hmL c (sub c hcL') t e e') hmc
            · rw [if_neg q'] at e'
              exact hf.inj m hmL m' hmL' t e e'
        · rw [sz_erase (f := f) nd' hcL']
          -- compare f and f' on the rest
          by_cases q : ∃ m ∈ L'.filter (· ≠ c), f m = some s
          · obtain ⟨m, hm, q⟩ := q
            have hm2 := List.mem_filter.mp hm
            have hmc : m ≠ c := by simpa using hm2.2
            have q2 : ¬ f c = some s := fun z => hmc (hf.inj m (sub m hm2.1) c (sub c hcL') s q z)
            have ndr : (L'.filter (· ≠ c)).Nodup := nd'.sublist List.filter_sublist
            rw [sz_erase (f := f) ndr hm, sz_erase (f := f') ndr hm]
            have e1 : sz f ((L'.filter (· ≠ c)).filter (· ≠ m)) = sz f' ((L'.filter (· ≠ c)).filter (· ≠ m)) := by
              refine sz_congr fun x hx => ?_
              rw [List.mem_filter] at hx
              have hxm : x ≠ m := by simpa using hx.2
              have hx2 := List.mem_filter.mp hx.1
              have : ¬ f x = some s := fun z => hxm (hf.inj x (sub x hx2.1) m (sub m hm2.1) s z q)
              simp only [f', if_neg this]
            rw [e1]
            have e2 : f' m = f c := by simp only [f', if_pos q, if_neg q2]
            rw [e2, q]
            simp only [Option.isSome_some, if_true]
            omega
          · have e1 : sz f (L'.filter (· ≠ c)) = sz f' (L'.filter (· ≠ c)) := by
              refine sz_congr fun x hx => ?_
              have : ¬ f x = some s := fun z => q ⟨x, hx, z⟩
              simp only [f', if_neg this]
            rw [e1]
            split <;> omega
      have h7 := ih (L'.filter (· ≠ c)) (s + 1) (nd'.sublist List.filter_sublist) hlen f' key.1
      omega

/-- the slot of a man in a list of slots -/
def slotOf (r : List (Option Int)) (m : Nat) : Option Int := (r[m]?).join
theorem slotOf_set_self {r : List (Option Int)} {c : Nat} {s : Int} (h : c < r.length) : slotOf (r.set c (some s)) c = some s := by
  unfold slotOf
  rw [List.getElem?_set_self h]
  rfl
theorem slotOf_set_ne {r : List (Option Int)} {c m : Nat} {o : Option Int} (h : m ≠ c) : slotOf (r.set c o) m = slotOf r m := by
  unfold slotOf
  rw [List.getElem?_set_ne (Ne.symm h)]

/-- what the loop leaves -/
structure Done (lev : Nat → Int) (W : Int → Nat → Option Int) (G : Nat → Int → Prop) (n : Nat) (L : List Nat) (g : List (Option Int)) (a : Int) (r : List (Option Int)) : Prop where
  len : r.length = g.length
  out : ∀ m, m ∉ L → slotOf r m = slotOf g m
  isM : IsM G L a (slotOf r)
  low : ∀ m ∈ L, ∀ s, slotOf r m = some s → s ≤ max a 7 + 2 * (n : Int) - 1
  size : sz (slotOf r) L = picks lev W n L a
theorem loop_done (hW : Wants W G) (hB : ∀ a m s, W a m = some s → s ≤ max a 7 + 1) : ∀ (n : Nat) (L : List Nat) (g : List (Option Int)) (a : Int), L.Nodup → L.length ≤ n → (∀ m ∈ L, m < g.length) → (∀ m ∈ L, slotOf g m = none) →
    Done lev W G n L g a (loop lev W n L g a) := by
  intro n
  induction n with
  | zero =>
    intro L g a _ hl _ _
    have : L = [] := List.eq_nil_of_length_eq_zero (by omega)
    subst this
    exact ⟨rfl, fun _ _ => rfl, ⟨fun m hm => absurd hm List.not_mem_nil, fun m hm => absurd hm List.not_mem_nil⟩, fun m hm => absurd hm List.not_mem_nil, rfl⟩
  | succ n ih =>
    intro L g a nd hl hlt hno
    have hpk : picks lev W (n + 1) L a = match sel lev (pairs W L a) with
      | none => 0
      | some (c, s) => 1 + picks lev W n (((pairs W L a).map (·.1)).filter (· ≠ c)) (s + 1) := rfl
    unfold loop
    cases hsel : sel lev (pairs W L a) with
    | none =>
      rw [hsel] at hpk
      simp only at hpk ⊢
      refine ⟨rfl, fun _ _ => rfl, ⟨fun m hm s e => ?_, fun m hm m' _ s e => ?_⟩, fun m hm s e => ?_, hpk ▸ ?_⟩
      · rw [hno m hm] at e; cases e
      · rw [hno m hm] at e; cases e
      · rw [hno m hm] at e; cases e
      · unfold sz
        rw [List.length_eq_zero_iff, List.filter_eq_nil_iff]
        intro m hm
        rw [hno m hm]
        simp
    | some cs =>
      obtain ⟨c, s⟩ := cs
      rw [hsel] at hpk
      simp only at hpk ⊢
      obtain ⟨h1, h2, h3⟩ := sel_some hsel
      obtain ⟨hcL, hcs⟩ := mem_pairs.mp h1
      rw [pairs_fst] at hpk ⊢
      generalize hL' : (L.filter fun m => (W a m).isSome) = L' at hpk ⊢
      have nd' : L'.Nodup := by rw [← hL']; exact nd.sublist List.filter_sublist
      have sub : ∀ m ∈ L', m ∈ L := fun m hm => by rw [← hL'] at hm; exact (List.mem_filter.mp hm).1
      have hcL' : c ∈ L' := by rw [← hL']; exact List.mem_filter.mpr ⟨hcL, by rw [hcs]; rfl⟩
      have nd'' : (L'.filter (· ≠ c)).Nodup := nd'.sublist List.filter_sublist
      have sub2 : ∀ m ∈ L'.filter (· ≠ c), m ∈ L' ∧ m ≠ c := fun m hm => by
        rw [List.mem_filter] at hm
        exact ⟨hm.1, by simpa using hm.2⟩
      have hlen : (L'.filter (· ≠ c)).length ≤ n := by
        have e1 : L'.length ≤ L.length := by rw [← hL']; exact List.length_filter_le _ _
        have e2 : (L'.filter (· ≠ c)).length < L'.length := by
          rw [List.length_filter_lt_length_iff_exists]
          exact ⟨c, hcL', by simp⟩
        omega
      have D := ih (L'.filter (· ≠ c)) (g.set c (some s)) (s + 1) nd'' hlen (fun m hm => by rw [List.length_set]; exact hlt m (sub m (sub2 m hm).1))
        (fun m hm => by rw [slotOf_set_ne (sub2 m hm).2]; exact hno m (sub m (sub2 m hm).1))
      generalize loop lev W n (L'.filter (· ≠ c)) (g.set c (some s)) (s + 1) = r at D ⊢
      have hsa := (hW.yes a c s hcs).1
      have hsb := hB a c s hcs
      have rc : slotOf r c = some s := by
        rw [D.out c (fun z => (sub2 c z).2 rfl)]
        exact slotOf_set_self (hlt c hcL)
      -- the others that had no slot
      have ro : ∀ m ∈ L, m ≠ c → m ∉ L' → slotOf r m = none := fun m hm hmc hml => by
        rw [D.out m (fun z => hml (sub2 m z).1), slotOf_set_ne hmc]
        exact hno m hm
      have inn : ∀ m ∈ L, ∀ t, slotOf r m = some t → m = c ∧ t = s ∨ m ∈ L'.filter (· ≠ c) := fun m hm t e => by
        by_cases hmc : m = c
        · subst hmc
          rw [rc] at e
          exact .inl ⟨rfl, (Option.some.inj e).symm⟩
        · by_cases hml : m ∈ L'
          · exact .inr (List.mem_filter.mpr ⟨hml, by simpa using hmc⟩)
          · rw [ro m hm hmc hml] at e; cases e
      refine ⟨by rw [D.len, List.length_set], fun m hm => ?_, ⟨fun m hm t e => ?_, fun m hm m' hm' t e e' => ?_⟩, fun m hm t e => ?_, ?_⟩
      · rw [D.out m (fun z => hm (sub m (sub2 m z).1)), slotOf_set_ne (show m ≠ c from fun z => hm (by rw [z]; exact hcL))]
      · rcases inn m hm t e with ⟨rfl, rfl⟩ | h
        · exact ⟨hsa, (hW.yes a m t hcs).2.1⟩
        · obtain ⟨p, q⟩ := D.isM.ok m h t e
          exact ⟨by omega, q⟩
      · rcases inn m hm t e with ⟨rfl, rfl⟩ | h
        · rcases inn m' hm' t e' with ⟨rfl, _⟩ | h'
          · rfl
          · have := (D.isM.ok m' h' t e').1
            omega
        · rcases inn m' hm' t e' with ⟨rfl, rfl⟩ | h'
          · have := (D.isM.ok m h t e).1
            omega
          · exact D.isM.inj m h m' h' t e e'
      · rcases inn m hm t e with ⟨rfl, rfl⟩ | h
        · push_cast
          omega
        · have := D.low m h t e
          push_cast
          omega
      · have e1 : sz (slotOf r) L' = sz (slotOf r) L := by
          rw [← hL']
          refine sz_filter fun m hm hs => ?_
          obtain ⟨t, e⟩ := Option.isSome_iff_exists.mp hs
          rcases inn m hm t e with ⟨rfl, _⟩ | h
          · rw [hcs]; rfl
          · have := (sub2 m h).1
            rw [← hL'] at this
            exact (List.mem_filter.mp this).2
        rw [← e1, sz_erase (f := slotOf r) nd' hcL', rc, D.size, hpk]
        rfl
theorem count_some : ∀ r : List (Option Int), (r.filter fun o => o.isSome).length = sz (slotOf r) (List.range r.length) := by
  intro r
  have e : r = (List.range r.length).map (slotOf r) := by
    apply List.ext_getElem?
    intro i
    rw [List.getElem?_map]
    by_cases h : i < r.length
    · rw [List.getElem?_range h]
      simp only [Option.map_some, slotOf, List.getElem?_eq_getElem h, Option.join_some]
    · rw [List.getElem?_eq_none (by omega), List.getElem?_eq_none (by rw [List.length_range]; omega)]
      rfl
  conv => lhs; rw [e]
  rw [List.filter_map, List.length_map]
  rfl
end
end Mn
end

section
set_option autoImplicit false
namespace Mn
/-! ### own changes of slots (Kuhn) -/
abbrev Held := List (Int × Nat)
def get (h : Held) (s : Int) : Option Nat := (h.find? fun p => decide (p.1 = s)).map (·.2)
def put (h : Held) (s : Int) (m : Nat) : Held := if (h.any fun p => decide (p.1 = s)) = true then h.map (fun p => if p.1 = s then (p.1, m) else p) else h ++ [(s, m)]
def cnt (h : Held) (x : Nat) : Nat := (h.map (·.2)).count x
theorem get_mem {h : Held} {s : Int} {m : Nat} (e : get h s = some m) : (s, m) ∈ h := by
  unfold get at e
  rw [Option.map_eq_some_iff] at e
  obtain ⟨p, hp, e⟩ := e
  have h1 := List.mem_of_find?_eq_some hp
  have h2 := List.find?_some hp
  simp only [decide_eq_true_eq] at h2
  subst h2 e
  exact h1
theorem mem_get {h : Held} (nd : (h.map (·.1)).Nodup) {s : Int} {m : Nat} (e : (s, m) ∈ h) : get h s = some m := by
  induction h with
  | nil => cases e
  | cons p r ih =>
    rw [List.map_cons, List.nodup_cons] at nd
    unfold get
    rw [List.find?_cons]
    by_cases q : p.1 = s
    · simp only [q, decide_true]
      rcases List.mem_cons.mp e with e | e
      · rw [← e]; rfl
      · exact absurd (List.mem_map.mpr ⟨(s, m), e, q.symm⟩) nd.1
    · simp only [q, decide_false]
      rcases List.mem_cons.mp e with e | e
      · exact absurd (by rw [← e]) q
      · exact ih nd.2 e
theorem any_get (h : Held) (s : Int) : (h.any fun p => decide (p.1 = s)) = (get h s).isSome := by
  induction h with
  | nil => rfl
  | cons p r ih =>
    rw [List.any_cons]
    unfold get
    rw [List.find?_cons]
    by_cases q : p.1 = s
    · simp [q]
    · simp only [q, decide_false, Bool.false_or]
      exact ih
theorem get_none {h : Held} {s : Int} (e : get h s = none) : s ∉ h.map (·.1) := fun hm => by
  obtain ⟨p, hp, q⟩ := List.mem_map.mp hm
  have : (h.any fun p => decide (p.1 = s)) = true := List.any_eq_true.mpr ⟨p, hp, by simpa using q⟩
  rw [any_get, e] at this
  cases this
theorem put_new {h : Held} {s : Int} {m : Nat} (e : get h s = none) : put h s m = h ++ [(s, m)] := by
  unfold put
  rw [any_get, e]
  rfl
theorem put_old {h : Held} {s : Int} {m x : Nat} (e : get h s = some x) : put h s m = h.map (fun p => if p.1 = s then (p.1, m) else p) := by
  unfold put
  rw [any_get, e]
  rfl
theorem keys_old (h : Held) (s : Int) (m : Nat) : (h.map (fun p => if p.1 = s then (p.1, m) else p)).map (·.1) = h.map (·.1) := by
  rw [List.map_map]
  refine List.map_congr_left fun p _ => ?_
  simp only [Function.comp]
  split <;> rfl
theorem nd_put {h : Held} {s : Int} {m : Nat} (nd : (h.map (·.1)).Nodup) : ((put h s m).map (·.1)).Nodup := by
  cases e : get h s with
  | none =>
    rw [put_new e, List.map_append, List.nodup_append]
    refine ⟨nd, by simp, fun a ha b hb => ?_⟩
    simp only [List.map_cons, List.map_nil, List.mem_singleton] at hb
    subst hb
    exact fun z => get_none e (z ▸ ha)
  | some x =>
    rw [put_old e, keys_old]
    exact nd
theorem get_cons (p : Int × Nat) (r : Held) (t : Int) : get (p :: r) t = if p.1 = t then some p.2 else get r t := by
  unfold get
  rw [List.find?_cons]
  by_cases q : p.1 = t
  · simp [q]
  · simp [q]
theorem get_map (s : Int) (m : Nat) (t : Int) : ∀ h : Held, get (h.map (fun p => if p.1 = s then (p.1, m) else p)) t = (get h t).map fun x => if t = s then m else x
  | [] => rfl
  | p :: r => by
    rw [List.map_cons, get_cons, get_cons, get_map s m t r]
    by_cases q : p.1 = s
    · rw [if_pos q]
      by_cases q2 : p.1 = t
      · have e : t = s := q2.symm.trans q
        rw [if_pos q2, if_pos q2, Option.map_some, if_pos e]
      · rw [if_neg q2, if_neg q2]
    · rw [if_neg q]
      by_cases q2 : p.1 = t
      · have e : ¬ t = s := fun z => q (q2.trans z)
        rw [if_pos q2, if_pos q2, Option.map_some, if_neg e]
      · rw [if_neg q2, if_neg q2]
theorem get_append (h r : Held) (t : Int) : get (h ++ r) t = (get h t).or (get r t) := by
  unfold get
  rw [List.find?_append]
  cases List.find? (fun p => decide (p.1 = t)) h <;> rfl
theorem get_put (h : Held) (s t : Int) (m : Nat) : get (put h s m) t = if t = s then some m else get h t := by
  cases e : get h s with
  | none =>
    rw [put_new e, get_append, get_cons]
    by_cases q : t = s
    · subst q
      rw [e, if_pos rfl, if_pos rfl]
      rfl
    · rw [if_neg (fun z : s = t => q z.symm), if_neg q]
      show (get h t).or none = _
      rw [Option.or_none]
  | some x =>
    rw [put_old e, get_map]
    by_cases q : t = s
    · subst q
      rw [e, if_pos rfl]
      simp
    · rw [if_neg q]
      simp [q]
theorem cnt_old {s : Int} {m y : Nat} (x : Nat) : ∀ {h : Held}, (h.map (·.1)).Nodup → get h s = some y → cnt (h.map (fun p => if p.1 = s then (p.1, m) else p)) x + (if y = x then 1 else 0) = cnt h x + (if m = x then 1 else 0)
  | [], _, e => by cases e
  | p :: r, nd, e => by
    rw [List.map_cons, List.nodup_cons] at nd
    rw [get_cons] at e
    unfold cnt
    rw [List.map_cons, List.map_cons, List.map_cons, List.count_cons, List.count_cons]
    by_cases q : p.1 = s
    · rw [if_pos q] at e ⊢
      have e : p.2 = y := Option.some.inj e
      have : r.map (fun p => if p.1 = s then (p.1, m) else p) = r := by
        conv => rhs; rw [← List.map_id r]
        refine List.map_congr_left fun z hz => ?_
        have : ¬ z.1 = s := fun w => nd.1 (List.mem_map.mpr ⟨z, hz, w.trans q.symm⟩)
        rw [if_neg this]
        rfl
      rw [this, e]
      simp only [beq_iff_eq]
      omega
    · rw [if_neg q] at e ⊢
      have ih := cnt_old (m := m) x nd.2 e
      unfold cnt at ih
      simp only [beq_iff_eq]
      omega
theorem cnt_new (h : Held) (s : Int) (m x : Nat) : cnt (h ++ [(s, m)]) x = cnt h x + (if m = x then 1 else 0) := by
  unfold cnt
  rw [List.map_append, List.count_append]
  simp only [List.map_cons, List.map_nil, List.count_cons, List.count_nil, beq_iff_eq]
  omega
theorem len_put_old {h : Held} {s : Int} {m y : Nat} (e : get h s = some y) : (put h s m).length = h.length := by
  rw [put_old e, List.length_map]

variable (goods : Nat → List Int)
/-- a man of a prefix of slots has come to nothing: what was seen is closed -/
structure Fails (slots : List Int) (h : Held) (S S' : List Int) : Prop where
  nd : S'.Nodup
  sub : ∀ s ∈ S, s ∈ S'
  all : ∀ s ∈ slots, s ∈ S'
  closed : ∀ s ∈ S', s ∉ S → ∃ m, get h s = some m ∧ ∀ t ∈ goods m, t ∈ S'
/-- a man has got one -/
structure Gets (man : Nat) (h : Held) (S : List Int) (h' : Held) (S' : List Int) : Prop where
  nd : S'.Nodup
  sub : ∀ s ∈ S, s ∈ S'
  keys : (h'.map (·.1)).Nodup
  keep : ∀ s ∈ S, get h' s = get h s
  count : ∀ x, cnt h' x = cnt h x + (if man = x then 1 else 0)
  len : h'.length = h.length + 1
  valid : ∀ s m, (s, m) ∈ h' → (s, m) ∈ h ∨ s ∈ goods m
variable {goods}
theorem Fails.start {h : Held} {S : List Int} (nd : S.Nodup) : Fails goods [] h S S := ⟨nd, fun _ x => x, fun _ x => absurd x List.not_mem_nil, fun _ h1 h2 => absurd h1 h2⟩
theorem Fails.seen {pre : List Int} {h : Held} {S S1 : List Int} {s : Int} (f : Fails goods pre h S S1) (hs : s ∈ S1) : Fails goods (pre ++ [s]) h S S1 :=
  ⟨f.nd, f.sub, fun t ht => (List.mem_append.mp ht).elim (f.all t) fun z => by rw [List.mem_singleton.mp z]; exact hs, f.closed⟩
theorem Fails.call {pre : List Int} {h : Held} {S S1 S2 : List Int} {s : Int} {m : Nat} (f : Fails goods pre h S S1) (hg : get h s = some m) (c : Fails goods (goods m) h (S1 ++ [s]) S2) : Fails goods (pre ++ [s]) h S S2 := by
  refine ⟨c.nd, fun t ht => c.sub t (List.mem_append_left _ (f.sub t ht)), fun t ht => ?_, fun t h1 h2 => ?_⟩
  · rcases List.mem_append.mp ht with z | z
    · exact c.sub t (List.mem_append_left _ (f.all t z))
    · rw [List.mem_singleton.mp z]
      exact c.sub s (List.mem_append_right _ (List.mem_singleton.mpr rfl))
  · by_cases q : t ∈ S1 ++ [s]
    · rcases List.mem_append.mp q with z | z
      · obtain ⟨m', e, cl⟩ := f.closed t z h2
        exact ⟨m', e, fun u hu => c.sub u (List.mem_append_left _ (cl u hu))⟩
      · rw [List.mem_singleton.mp z]
        exact ⟨m, hg, c.all⟩
    · exact c.closed t h1 q
theorem Gets.free {pre : List Int} {h : Held} {S S1 : List Int} {s : Int} {man : Nat} (f : Fails goods pre h S S1) (hk : (h.map (·.1)).Nodup) (hs : s ∉ S1) (hg : get h s = none) (hm : s ∈ goods man) : Gets goods man h S (put h s man) (S1 ++ [s]) := by
  refine ⟨?_, fun t ht => List.mem_append_left _ (f.sub t ht), nd_put hk, fun t ht => ?_, fun x => ?_, ?_, fun t m ht => ?_⟩
  · rw [List.nodup_append]
    exact ⟨f.nd, by simp, fun a ha b hb => by rw [List.mem_singleton.mp hb]; exact fun z => hs (z ▸ ha)⟩
  · rw [get_put, if_neg (show ¬ t = s from fun z => hs (by rw [← z]; exact f.sub t ht))]
  · rw [put_new hg, cnt_new]
  · rw [put_new hg, List.length_append]; rfl
  · rw [put_new hg] at ht
    rcases List.mem_append.mp ht with z | z
    · exact .inl z
    · have := List.mem_singleton.mp z
      cases this
      exact .inr hm
theorem Gets.call {pre : List Int} {h h2 : Held} {S S1 S2 : List Int} {s : Int} {man m : Nat} (f : Fails goods pre h S S1) (hs : s ∉ S1) (hg : get h s = some m) (hm : s ∈ goods man) (c : Gets goods m h (S1 ++ [s]) h2 S2) : Gets goods man h S (put h2 s man) S2 := by
  have hs2 : s ∈ S1 ++ [s] := List.mem_append_right _ (List.mem_singleton.mpr rfl)
  have hg2 : get h2 s = some m := by rw [c.keep s hs2, hg]
  refine ⟨c.nd, fun t ht => c.sub t (List.mem_append_left _ (f.sub t ht)), nd_put c.keys, fun t ht => ?_, fun x => ?_, ?_, fun t y ht => ?_⟩
  · rw [get_put, if_neg (show ¬ t = s from fun z => hs (by rw [← z]; exact f.sub t ht))]
    exact c.keep t (List.mem_append_left _ (f.sub t ht))
  · rw [put_old hg2]
    have h1 := cnt_old (m := man) x c.keys hg2
    have h3 := c.count x
    omega
  · rw [len_put_old hg2, c.len]
  · have hgt := mem_get (nd_put c.keys) ht
    rw [get_put] at hgt
    by_cases q : t = s
    · subst q
      rw [if_pos rfl] at hgt
      cases hgt
      exact .inr hm
    · rw [if_neg q] at hgt
      exact c.valid t y (get_mem hgt)

/-- between two men -/
structure Fair (goods : Nat → List Int) (k : Nat) (h : Held) : Prop where
  keys : (h.map (·.1)).Nodup
  one : ∀ x, cnt h x ≤ 1
  none' : ∀ x, k ≤ x → cnt h x = 0
  valid : ∀ s m, (s, m) ∈ h → s ∈ goods m
theorem Fair.start : Fair goods 0 [] := ⟨List.nodup_nil, fun _ => Nat.zero_le _, fun _ _ => rfl, fun _ _ z => absurd z List.not_mem_nil⟩
theorem Fair.fail {k : Nat} {h : Held} (f : Fair goods k h) : Fair goods (k + 1) h := ⟨f.keys, f.one, fun x hx => f.none' x (by omega), f.valid⟩
theorem Fair.gets {k : Nat} {h h' : Held} {S' : List Int} (f : Fair goods k h) (g : Gets goods k h [] h' S') : Fair goods (k + 1) h' := by
  refine ⟨g.keys, fun x => ?_, fun x hx => ?_, fun s m hm => ?_⟩
  · have h1 := g.count x
    by_cases e : k = x
    · have := f.none' x (by omega)
      rw [if_pos e] at h1
      omega
    · rw [if_neg e] at h1
      have := f.one x
      omega
  · have h1 := g.count x
    have h2 := f.none' x (by omega)
    rw [if_neg (by omega)] at h1
    omega
  · rcases g.valid s m hm with z | z
    · exact f.valid s m z
    · exact z

theorem len_le_of_inj {α β : Type} [DecidableEq β] (g : α → β) : ∀ {L : List α} {S : List β}, L.Nodup → (∀ x ∈ L, g x ∈ S) → (∀ x ∈ L, ∀ y ∈ L, g x = g y → x = y) → L.length ≤ S.length
  | [], _, _, _, _ => Nat.zero_le _
  | x :: L, S, nd, h, inj => by
    rw [List.nodup_cons] at nd
    have hx := h x List.mem_cons_self
    have e := List.length_erase_of_mem hx
    have pos := List.length_pos_of_mem hx
    have ih := len_le_of_inj g (L := L) (S := S.erase (g x)) nd.2 (fun y hy => ?_) (fun y hy z hz => inj y (List.mem_cons_of_mem _ hy) z (List.mem_cons_of_mem _ hz))
    · rw [List.length_cons]
      omega
    · have hne : g y ≠ g x := fun q => nd.1 (by rw [← inj y (List.mem_cons_of_mem _ hy) x List.mem_cons_self q]; exact hy)
      exact (List.mem_erase_of_ne hne).mpr (h y (List.mem_cons_of_mem _ hy))
theorem filter_split {α : Type} (q p : α → Bool) : ∀ L : List α, (L.filter q).length = (L.filter fun x => q x && p x).length + (L.filter fun x => q x && !p x).length
  | [] => rfl
  | x :: L => by
    have ih := filter_split q p L
    rw [List.filter_cons, List.filter_cons, List.filter_cons]
    cases q x <;> cases p x <;> simp only [Bool.and_true, Bool.and_false, Bool.not_true, Bool.not_false, if_true, if_false, Bool.false_eq_true, List.length_cons] <;> omega
theorem len_filter_imp {α : Type} {q p : α → Bool} {L : List α} (h : ∀ x ∈ L, q x = true → p x = true) : (L.filter q).length ≤ (L.filter p).length := by
  induction L with
  | nil => exact Nat.le_refl _
  | cons x L ih =>
    have h1 := ih fun y hy => h y (List.mem_cons_of_mem _ hy)
    have h2 := h x List.mem_cons_self
    rw [List.filter_cons, List.filter_cons]
    by_cases e : q x = true
    · rw [if_pos e, if_pos (h2 e), List.length_cons, List.length_cons]
      omega
    · rw [if_neg e]
      split
      · rw [List.length_cons]; omega
      · exact h1

section
variable {a : Int} {k : Nat} {h : Held} {S : List Int}
/-- no matching of the first k men is greater -/
def Top (goods : Nat → List Int) (k : Nat) (h : Held) : Prop := ∀ (a : Int) (f : Nat → Option Int), (∀ m, ∀ s ∈ goods m, a ≤ s) → IsM (fun m s => s ∈ goods m) (List.range k) a f → sz f (List.range k) ≤ h.length
theorem Top.start : Top goods 0 [] := fun _ _ _ _ => Nat.le_refl _
theorem sz_range_succ (f : Nat → Option Int) (k : Nat) : sz f (List.range (k + 1)) = sz f (List.range k) + (if (f k).isSome then 1 else 0) := by
  unfold sz
  rw [List.range_succ, List.filter_append, List.length_append, List.filter_cons]
  split <;> rfl
theorem IsM.less {G : Nat → Int → Prop} {f : Nat → Option Int} (m : IsM G (List.range (k + 1)) a f) : IsM G (List.range k) a f := by
  have sub : ∀ x ∈ List.range k, x ∈ List.range (k + 1) := fun x hx => by rw [List.mem_range] at hx ⊢; omega
  exact ⟨fun x hx => m.ok x (sub x hx), fun x hx y hy => m.inj x (sub x hx) y (sub y hy)⟩
theorem Top.gets {h' : Held} {S' : List Int} (t : Top goods k h) (g : Gets goods k h [] h' S') : Top goods (k + 1) h' := fun a f ha hf => by
  have h1 := t a f ha hf.less
  rw [sz_range_succ, g.len]
  split <;> omega
theorem cnt_pos {s : Int} {m : Nat} (e : (s, m) ∈ h) : 0 < cnt h m := by
  unfold cnt
  exact List.count_pos_iff.mpr (List.mem_map.mpr ⟨_, e, rfl⟩)
theorem Fair.lt (F : Fair goods k h) {s : Int} {m : Nat} (e : get h s = some m) : m < k := by
  have h1 := cnt_pos (get_mem e)
  by_cases q : k ≤ m
  · have := F.none' m q
    omega
  · omega
/-- a man stands at one slot -/
theorem Fair.inj (F : Fair goods k h) {s t : Int} {m : Nat} (e : get h s = some m) (e' : get h t = some m) : s = t := by
  have one := F.one m
  have keys := F.keys
  have m1 := get_mem e
  have m2 := get_mem e'
  clear F e e'
  induction h with
  | nil => cases m1
  | cons p r ih =>
    unfold cnt at one
    rw [List.map_cons, List.count_cons] at one
    rw [List.map_cons, List.nodup_cons] at keys
    rcases List.mem_cons.mp m1 with z | z
    · rcases List.mem_cons.mp m2 with z' | z'
      · exact congrArg Prod.fst (z.trans z'.symm)
      · subst z
        have := cnt_pos z'
        unfold cnt at this
        simp only [beq_self_eq_true, if_true] at one
        omega
    · rcases List.mem_cons.mp m2 with z' | z'
      · subst z'
        have := cnt_pos z
        unfold cnt at this
        simp only [beq_self_eq_true, if_true] at one
        omega
      · exact ih (by unfold cnt; omega) keys.2 z z'
theorem Top.fail (t : Top goods k h) (F : Fair goods k h) (c : Fails goods (goods k) h [] S) : Top goods (k + 1) h := fun a f ha hf => by
  have cl : ∀ s ∈ S, ∃ m, get h s = some m ∧ ∀ u ∈ goods m, u ∈ S := fun s hs => c.closed s hs List.not_mem_nil
  let slotIn : Nat → Option Int := fun m => S.find? fun s => decide (get h s = some m)
  let p : Nat → Bool := fun m => match f m with | some u => decide (u ∈ S) | none => false
  let f' : Nat → Option Int := fun m => match slotIn m with | some s => some s | none => if p m = true then none else f m
  have in_yes : ∀ {m s}, slotIn m = some s → s ∈ S ∧ get h s = some m := fun {m s} e => by
    have h1 := List.mem_of_find?_eq_some e
    have h2 := List.find?_some e
    exact ⟨h1, by simpa using h2⟩
  have in_no : ∀ {m}, slotIn m = none → ∀ s ∈ S, ¬ get h s = some m := fun {m} e s hs q => by
    have := List.find?_eq_none.mp e s hs
    simp [q] at this
  have p_yes : ∀ {m u}, f m = some u → p m = decide (u ∈ S) := fun {m u} e => by simp only [p, e]
  have up : ∀ m ∈ List.range k, m ∈ List.range (k + 1) := fun x hx => by rw [List.mem_range] at hx ⊢; omega
  have f'_cases : ∀ {m u}, f' m = some u → (slotIn m = some u) ∨ (slotIn m = none ∧ f m = some u ∧ u ∉ S) := fun {m u} e => by
    simp only [f'] at e
    cases q : slotIn m with
    | some s => rw [q] at e; exact .inl e
    | none =>
      rw [q] at e
      simp only at e
      by_cases r : p m = true
      · rw [if_pos r] at e; cases e
      · rw [if_neg r] at e
        rw [p_yes e] at r
        exact .inr ⟨rfl, e, by simpa using r⟩
  have isM' : IsM (fun m s => s ∈ goods m) (List.range k) a f' := by
    refine ⟨fun m hm u e => ?_, fun m hm m' hm' u e e' => ?_⟩
    · rcases f'_cases e with q | ⟨_, q, _⟩
      · have := F.valid _ _ (get_mem (in_yes q).2)
        exact ⟨ha _ _ this, this⟩
      · exact hf.ok m (up m hm) u q
    · rcases f'_cases e with q | ⟨_, q, r⟩
      · rcases f'_cases e' with q' | ⟨_, q', r'⟩
        · exact Option.some.inj ((in_yes q).2.symm.trans (in_yes q').2)
        · exact absurd (in_yes q).1 r'
      · rcases f'_cases e' with q' | ⟨_, q', r'⟩
        · exact absurd (in_yes q').1 r
        · exact hf.inj m (up m hm) m' (up m' hm') u q q'
  refine Nat.le_trans ?_ (t a f' ha isM')
  unfold sz
  rw [filter_split (fun m => (f m).isSome) p, filter_split (fun m => (f' m).isSome) (fun m => (slotIn m).isSome)]
  have hA : ((List.range (k + 1)).filter fun x => (f x).isSome && p x).length ≤ S.length := by
    refine len_le_of_inj (fun m => (f m).getD 0) (List.nodup_range.sublist List.filter_sublist) (fun x hx => ?_) (fun x hx y hy e => ?_)
    · rw [List.mem_filter, Bool.and_eq_true] at hx
      obtain ⟨u, e⟩ := Option.isSome_iff_exists.mp hx.2.1
      have := hx.2.2
      rw [p_yes e] at this
      rw [e]
      simpa using this
    · rw [List.mem_filter, Bool.and_eq_true] at hx hy
      obtain ⟨u, e1⟩ := Option.isSome_iff_exists.mp hx.2.1
      obtain ⟨v, e2⟩ := Option.isSome_iff_exists.mp hy.2.1
      rw [e1, e2] at e
      have e : u = v := e
      subst e
      exact hf.inj x hx.1 y hy.1 u e1 e2
  have hC : S.length ≤ ((List.range k).filter fun x => (f' x).isSome && (slotIn x).isSome).length := by
    refine len_le_of_inj (fun s => (get h s).getD 0) c.nd (fun s hs => ?_) (fun s hs u hu e => ?_)
    · obtain ⟨m, e, _⟩ := cl s hs
      rw [e]
      show m ∈ _
      have hm : (slotIn m).isSome = true := by
        cases q : slotIn m with
        | some _ => rfl
        | none => exact absurd e (in_no q s hs)
      refine List.mem_filter.mpr ⟨List.mem_range.mpr (F.lt e), ?_⟩
      rw [Bool.and_eq_true]
      refine ⟨?_, hm⟩
      obtain ⟨u, q⟩ := Option.isSome_iff_exists.mp hm
      simp only [f', q, Option.isSome_some]
    · obtain ⟨m, e1, _⟩ := cl s hs
      obtain ⟨m', e2, _⟩ := cl u hu
      rw [e1, e2] at e
      have e : m = m' := e
      subst e
      exact F.inj e1 e2
  have hBD : ((List.range (k + 1)).filter fun x => (f x).isSome && !p x).length ≤ ((List.range k).filter fun x => (f' x).isSome && !(slotIn x).isSome).length := by
    refine len_le_of_inj (fun m => m) (List.nodup_range.sublist List.filter_sublist) (fun x hx => ?_) (fun x _ y _ e => e)
    rw [List.mem_filter, Bool.and_eq_true] at hx
    obtain ⟨u, e⟩ := Option.isSome_iff_exists.mp hx.2.1
    have hu := hx.2.2
    rw [p_yes e] at hu
    have hu : u ∉ S := by simpa using hu
    have hg := (hf.ok x hx.1 u e).2
    have hxk : x ≠ k := fun z => hu (c.all u (by rw [← z]; exact hg))
    have hno : slotIn x = none := by
      cases q : slotIn x with
      | none => rfl
      | some s =>
        obtain ⟨hs, gs⟩ := in_yes q
        obtain ⟨m, e2, cl2⟩ := cl s hs
        have : m = x := Option.some.inj (e2.symm.trans gs)
        subst this
        exact absurd (cl2 u hg) hu
    have hlt : x < k := by
      have := List.mem_range.mp hx.1
      omega
    refine List.mem_filter.mpr ⟨List.mem_range.mpr hlt, ?_⟩
    have : p x = false := by rw [p_yes e]; simpa using hu
    simp only [f', hno, this, Bool.false_eq_true, if_false, e, Option.isSome_some, Option.isSome_none, Bool.not_false, Bool.and_true]
  omega

/-- the slot of a man -/
def manSlot (h : Held) (m : Nat) : Option Int := (h.find? fun p => decide (p.2 = m)).map (·.1)
theorem manSlot_mem {m : Nat} {s : Int} (e : manSlot h m = some s) : (s, m) ∈ h := by
  unfold manSlot at e
  rw [Option.map_eq_some_iff] at e
  obtain ⟨p, hp, e⟩ := e
  have h1 := List.mem_of_find?_eq_some hp
  have h2 := List.find?_some hp
  simp only [decide_eq_true_eq] at h2
  subst h2 e
  exact h1
theorem Fair.isM (F : Fair goods k h) (ha : ∀ m, ∀ s ∈ goods m, a ≤ s) : IsM (fun m s => s ∈ goods m) (List.range k) a (manSlot h) := by
  refine ⟨fun m _ s e => ?_, fun m _ m' _ s e e' => ?_⟩
  · have := F.valid s m (manSlot_mem e)
    exact ⟨ha m s this, this⟩
  · exact Option.some.inj ((mem_get F.keys (manSlot_mem e)).symm.trans (mem_get F.keys (manSlot_mem e')))
theorem Fair.size (F : Fair goods k h) : h.length ≤ sz (manSlot h) (List.range k) := by
  unfold sz
  have e : h.length = (h.map (·.1)).length := (List.length_map _).symm
  rw [e]
  refine len_le_of_inj (fun s => (get h s).getD 0) F.keys (fun s hs => ?_) (fun s hs u hu e => ?_)
  · obtain ⟨⟨s', m⟩, hp, rfl⟩ := List.mem_map.mp hs
    have g := mem_get F.keys hp
    show (get h s').getD 0 ∈ _
    rw [g]
    refine List.mem_filter.mpr ⟨List.mem_range.mpr (F.lt g), ?_⟩
    show (manSlot h m).isSome = true
    unfold manSlot
    rw [Option.isSome_map, List.find?_isSome]
    exact ⟨_, hp, by simp⟩
  · obtain ⟨⟨s', m⟩, hp, rfl⟩ := List.mem_map.mp hs
    obtain ⟨⟨u', m'⟩, hp', rfl⟩ := List.mem_map.mp hu
    have g := mem_get F.keys hp
    have g' := mem_get F.keys hp'
    have e : (get h s').getD 0 = (get h u').getD 0 := e
    rw [g, g'] at e
    have e : m = m' := e
    subst e
    exact F.inj g g'
end
end Mn
end

section
set_option autoImplicit false
namespace Mn
/-! ### the program's functions as plain functions -/
abbrev Lasts := List (Option Int)
abbrev Bar := Int × Int × Int
abbrev Plat := Int × Int
abbrev Brk := Plat × Int
abbrev Man := Int × Int
def roofs1 (lasts : Lasts) (level : Int) : List Int :=
  ((List.range level.toNat).filter fun i => (lasts.getD i none).isSome).map fun i => (lasts.getD i none).getD 0 + (1 + (i : Int))
def roofs2 (bars : List Bar) (level colour : Int) : List Int :=
  (bars.filter fun b => (decide (0 ≤ b.1) && decide (b.1 < level)) && decide (b.2.1 = colour)).map fun b => b.2.2 + b.1
def roofs (lasts : Lasts) (bars : List Bar) (level colour : Int) : List Int := roofs1 lasts level ++ roofs2 bars level colour
def gSlot (lasts : Lasts) (bars : List Bar) (level colour : Int) : Option Int :=
  match (roofs lasts bars level colour).min? with
  | none => none
  | some t => some (if t - (t - colour) % 2 ≥ level then t - (t - colour) % 2 else -1)
def leadsB (lasts : Lasts) (bars : List Bar) (level slot : Int) : Bool :=
  decide (level ≤ slot) && (match gSlot lasts bars level (slot % 2) with | none => true | some t => decide (slot ≤ t))
def mx (i j : Int) : Int := if j > i then j else i
def slotFrom (lasts : Lasts) (bars : List Bar) (level first : Int) : Option Int :=
  if leadsB lasts bars level (mx first level) = true then some (mx first level) else if leadsB lasts bars level (mx first level + 1) = true then some (mx first level + 1) else none
/-- what a man wants -/
def wantS (lasts : Lasts) (bars : List Bar) (muster : List Man) (at' : Int) (man : Nat) : Option Int :=
  slotFrom lasts bars (muster.getD man (0, 0)).1 (mx at' ((muster.getD man (0, 0)).1 + (muster.getD man (0, 0)).2))
def levOf (muster : List Man) (man : Nat) : Int := (muster.getD man (0, 0)).1
def rescueM (lasts : Lasts) (bars : List Bar) (muster : List Man) : List (Option Int) :=
  loop (levOf muster) (wantS lasts bars muster) muster.length (List.range muster.length) (List.replicate muster.length none) 0
def mostSaved (lasts : Lasts) (bars : List Bar) (muster : List Man) : Nat := ((rescueM lasts bars muster).filter fun o => o.isSome).length
def allSaved (lasts : Lasts) (bars : List Bar) (muster : List Man) : Bool := (rescueM lasts bars muster).all fun o => o.isSome
def barOf (b : Brk) : Bar := (b.1.2 - b.1.1, b.1.2 % 2, mx (b.2 - 1) 0)
end Mn
end

section
set_option autoImplicit false
namespace Mn
/-! ### tables by whole numbers -/
abbrev Tb (α : Type) := List (Int × α)
section
variable {α : Type}
def gtA (l : Tb α) (n : Int) : Option α := (l.find? fun p => decide (p.1 = n)).map (·.2)
def ptA (l : Tb α) (n : Int) (a : α) : Tb α := if (l.any fun p => decide (p.1 = n)) = true then l.map (fun p => if p.1 = n then (p.1, a) else p) else l ++ [(n, a)]
theorem gtA_some {l : Tb α} {n : Int} (h : n ∈ l.map (·.1)) : ∃ a, gtA l n = some a := by
  induction l with
  | nil => cases h
  | cons p l ih =>
    unfold gtA
    rw [List.find?_cons]
    by_cases e : p.1 = n
    · exact ⟨p.2, by simp [e]⟩
    · rw [List.map_cons, List.mem_cons] at h
      rcases h with h | h
      · exact absurd h.symm e
      · obtain ⟨a, ha⟩ := ih h
        exact ⟨a, by simp only [e, decide_false]; exact ha⟩
theorem ptA_len (l : Tb α) (n : Int) (a : α) : (ptA l n a).length ≤ l.length + 1 := by
  unfold ptA
  split
  · rw [List.length_map]; omega
  · rw [List.length_append, List.length_cons, List.length_nil]; omega
theorem ptA_ne (l : Tb α) (n : Int) (a : α) : ptA l n a ≠ [] := by
  unfold ptA
  split
  · rename_i h
    intro z
    rw [List.map_eq_nil_iff] at z
    rw [z] at h
    cases h
  · simp
end
/-- platforms by what each costs -/
def grp1 (sv : Plat → Int) (l : Tb (List Plat)) (p : Plat) : Tb (List Plat) := ptA l (sv p) ((gtA l (sv p)).getD [] ++ [p])
def grpT (sv : Plat → Int) (ps : List Plat) : Tb (List Plat) := ps.foldl (grp1 sv) []
def platsOf (deep : Nat) : List Plat := (List.range deep).map (fun i : Nat => ((0 : Int), (i : Int))) ++ (List.range deep).map (fun i : Nat => ((1 : Int), 1 + (i : Int)))
def worstT (l : Tb (List Plat)) : Int × List Plat := match (l.map (·.1)).max? with | none => (0, []) | some m => (m, (gtA l m).getD [])
theorem worstT_nil : worstT [] = (0, []) := rfl
theorem worstT_max {l : Tb (List Plat)} (h : l ≠ []) : ∃ m ps, (l.map (·.1)).max? = some m ∧ gtA l m = some ps ∧ worstT l = (m, ps) := by
  cases e : (l.map (·.1)).max? with
  | none => exact absurd (List.map_eq_nil_iff.mp (List.max?_eq_none_iff.mp e)) h
  | some m =>
    obtain ⟨ps, hp⟩ := gtA_some (List.max?_eq_some_iff.mp e).1
    refine ⟨m, ps, rfl, hp, ?_⟩
    unfold worstT
    rw [e]
    simp only [hp, Option.getD_some]
theorem grp_append (sv : Plat → Int) (ps : List Plat) (p : Plat) : grpT sv (ps ++ [p]) = grp1 sv (grpT sv ps) p := by
  unfold grpT
  rw [List.foldl_append]
  rfl
theorem grp_len (sv : Plat → Int) : ∀ (ps : List Plat) (l : Tb (List Plat)), (ps.foldl (grp1 sv) l).length ≤ l.length + ps.length
  | [], _ => Nat.le_refl _
  | p :: ps, l => by
    have h1 := grp_len sv ps (grp1 sv l p)
    have h2 := ptA_len l (sv p) ((gtA l (sv p)).getD [] ++ [p])
    rw [List.foldl_cons, List.length_cons]
    unfold grp1 at h1
    unfold grp1
    omega
theorem ptA_mem {α : Type} {l : Tb α} {n : Int} {a : α} {q : Int × α} (h : q ∈ ptA l n a) : q ∈ l ∨ q = (n, a) := by
  unfold ptA at h
  split at h
  · obtain ⟨p, hp, rfl⟩ := List.mem_map.mp h
    by_cases e : p.1 = n
    · rw [if_pos e, e]; exact .inr rfl
    · rw [if_neg e]; exact .inl hp
  · rcases List.mem_append.mp h with h | h
    · exact .inl h
    · exact .inr (List.mem_singleton.mp h)
theorem gtA_mem {α : Type} {l : Tb α} {n : Int} {a : α} (e : gtA l n = some a) : (n, a) ∈ l := by
  unfold gtA at e
  rw [Option.map_eq_some_iff] at e
  obtain ⟨p, hp, e⟩ := e
  have h1 := List.mem_of_find?_eq_some hp
  have h2 := List.find?_some hp
  simp only [decide_eq_true_eq] at h2
  subst h2 e
  exact h1
/-- a group is not longer than the platforms -/
theorem grp_small (sv : Plat → Int) : ∀ (ps : List Plat) (l : Tb (List Plat)) (n : Nat), (∀ q ∈ l, q.2.length ≤ n) → ∀ q ∈ ps.foldl (grp1 sv) l, q.2.length ≤ n + ps.length
  | [], _, _, h, q, hq => h q hq
  | p :: ps, l, n, h, q, hq => by
    rw [List.foldl_cons] at hq
    have := grp_small sv ps (grp1 sv l p) (n + 1) (fun r hr => ?_) q hq
    · rw [List.length_cons]; omega
    · rcases ptA_mem hr with hr | hr
      · have := h r hr; omega
      · rw [hr, List.length_append, List.length_singleton]
        cases e : gtA l (sv p) with
        | none => simp
        | some a =>
          have := h _ (gtA_mem e)
          simp only [Option.getD_some]
          show a.length + 1 ≤ n + 1
          have : a.length ≤ n := this
          omega
end Mn
end

section
set_option autoImplicit false
namespace Mn
theorem min_perm {l m : List Int} (h : l.Perm m) : l.min? = m.min? := by
  cases e : m.min? with
  | none =>
    have := List.min?_eq_none_iff.mp e
    subst this
    rw [List.perm_nil.mp h]
    rfl
  | some t =>
    have h1 := List.min?_eq_some_iff.mp e
    exact List.min?_eq_some_iff.mpr ⟨h.mem_iff.mpr h1.1, fun b hb => h1.2 b (h.mem_iff.mp hb)⟩
theorem gSlot_perm {lasts : Lasts} {b1 b2 : List Bar} (h : b1.Perm b2) (level colour : Int) : gSlot lasts b1 level colour = gSlot lasts b2 level colour := by
  unfold gSlot roofs roofs2
  rw [min_perm (List.Perm.append_left _ ((h.filter _).map _))]
theorem leadsB_perm {lasts : Lasts} {b1 b2 : List Bar} (h : b1.Perm b2) (level slot : Int) : leadsB lasts b1 level slot = leadsB lasts b2 level slot := by
  unfold leadsB
  rw [gSlot_perm h]
theorem wantS_perm {lasts : Lasts} {b1 b2 : List Bar} (h : b1.Perm b2) (muster : List Man) : wantS lasts b1 muster = wantS lasts b2 muster := by
  funext a m
  unfold wantS slotFrom
  simp only [leadsB_perm h]
theorem rescue_perm {lasts : Lasts} {b1 b2 : List Bar} (h : b1.Perm b2) (muster : List Man) : rescueM lasts b1 muster = rescueM lasts b2 muster := by
  unfold rescueM
  rw [wantS_perm h]
theorem most_perm {lasts : Lasts} {b1 b2 : List Bar} (h : b1.Perm b2) (muster : List Man) : mostSaved lasts b1 muster = mostSaved lasts b2 muster := by
  unfold mostSaved
  rw [rescue_perm h]
theorem all_perm {lasts : Lasts} {b1 b2 : List Bar} (h : b1.Perm b2) (muster : List Man) : allSaved lasts b1 muster = allSaved lasts b2 muster := by
  unfold allSaved
  rw [rescue_perm h]
theorem rescue_length (lasts : Lasts) (bars : List Bar) (muster : List Man) : (rescueM lasts bars muster).length = muster.length := by
  unfold rescueM
  have : ∀ (n : Nat) (L : List Nat) (g : List (Option Int)) (a : Int), (loop (levOf muster) (wantS lasts bars muster) n L g a).length = g.length := by
    intro n
    induction n with
    | zero => intro L g a; rfl
    | succ n ih =>
      intro L g a
      unfold loop
      split
      · rfl
      · rw [ih, List.length_set]
  rw [this, List.length_replicate]
/-- all saved: as many as there are -/
theorem all_iff (lasts : Lasts) (bars : List Bar) (muster : List Man) : allSaved lasts bars muster = decide (mostSaved lasts bars muster = muster.length) := by
  unfold allSaved mostSaved
  rw [← rescue_length lasts bars muster]
  generalize rescueM lasts bars muster = r
  rw [Bool.eq_iff_iff, decide_eq_true_eq, List.all_eq_true, List.length_filter_eq_length_iff]
end Mn
end

section
set_option Elab.async false
set_option linter.all false
set_option maxRecDepth 100000
set_option maxHeartbeats 1000000
/-! A layer over the hand layer: expressions by the data that they give. -/
namespace Lay
open PySem PySem.Spec PyProof.Rows L2

/-! ### heaps that grow -/
def Ex (H H' : Hp) : Prop := ∀ a o, H a = some o → H' a = some o
theorem Ex.refl (H : Hp) : Ex H H := fun _ _ h => h
theorem Ex.trans {H H1 H2 : Hp} (a : Ex H H1) (b : Ex H1 H2) : Ex H H2 := fun x o h => b x o (a x o h)
theorem Ex.new {H : Hp} {p : Addr} {o : HO} (h : H p = none) : Ex H (upd H p o) := fun a u e => by
  rw [upd_ne (ne_of_none e h)]
  exact e
theorem Ex.mut {H H' : Hp} {p : Addr} {o : HO} (e : Ex H H') (h : H p = none) : Ex H (upd H' p o) := fun a u ha => by
  rw [upd_ne (ne_of_none ha h)]
  exact e a u ha
theorem Ex.free {H H' : Hp} {p : Addr} (e : Ex H H') (h : H' p = none) : H p = none := by
  cases h1 : H p with
  | none => rfl
  | some o =>
    rw [e p o h1] at h
    cases h
theorem Ex.both {H H' : Hp} {p : Addr} {o : HO} (e : Ex H H') : Ex (upd H p o) (upd H' p o) := fun a u ha => by
  by_cases q : a = p
  · subst q
    rw [upd_same] at ha ⊢
    exact ha
  · rw [upd_ne q] at ha ⊢
    exact e a u ha
/-- B, the part that stays, has grown to B' while the heap grew from H to H': nothing of H is new in B' -/
structure Nw (B H B' H' : Hp) : Prop where
  bb : Ex B B'
  bh : Ex B' H'
  hh : Ex H H'
  old : ∀ a, H a ≠ none → B' a = B a
theorem Nw.refl {B H : Hp} (e : Ex B H) : Nw B H B H := ⟨Ex.refl B, e, Ex.refl H, fun _ _ => rfl⟩
theorem Nw.trans {B H B1 H1 B2 H2 : Hp} (a : Nw B H B1 H1) (b : Nw B1 H1 B2 H2) : Nw B H B2 H2 :=
  ⟨a.bb.trans b.bb, b.bh, a.hh.trans b.hh, fun x hx => by
    rw [b.old x (fun z => ?_), a.old x hx]
    cases e : H x with
    | none => exact hx e
    | some o => rw [a.hh x o e] at z; cases z⟩
theorem Nw.new {B H : Hp} {p : Addr} {o : HO} (e : Ex B H) (h : H p = none) : Nw B H (upd B p o) (upd H p o) :=
  ⟨Ex.new (e.free h), e.both, Ex.new h, fun a ha => upd_ne (fun z => ha (by rw [z]; exact h))⟩
/-- a cell of H that B has not is kept, and B' has it not -/
theorem Nw.cell {B H B' H' : Hp} {c : Addr} {o : HO} (n : Nw B H B' H') (h : H c = some o) (hb : B c = none) : H' c = some o ∧ B' c = none :=
  ⟨n.hh c o h, by rw [n.old c (by rw [h]; simp)]; exact hb⟩
/-- .. and while the heap alone grows -/
theorem Nw.grow {B H H' : Hp} (e : Ex B H) (h : Ex H H') : Nw B H B H' := ⟨Ex.refl B, e.trans h, h, fun _ _ => rfl⟩

/-! ### what data a value stands for -/
mutual
inductive Rp (H : Hp) : V → PyData → Prop
  | non : Rp H .non .none
  | bl (b : Bool) : Rp H (.bl b) (.bool b)
  | int (i : Int) : Rp H (.int i) (.int i)
  | str (x : Str) : Rp H (.str x) (.str x)
  | lst {a : Addr} {xs : List V} {ds : List PyData} : H a = some (.lst xs) → RpAll H xs ds → Rp H (.ref a) (.list ds)
  | tup {a : Addr} {xs : List V} {ds : List PyData} : H a = some (.tup xs) → RpAll H xs ds → Rp H (.ref a) (.tuple ds)
inductive RpAll (H : Hp) : List V → List PyData → Prop
  | nil : RpAll H [] []
  | cons {v : V} {vs : List V} {d : PyData} {ds : List PyData} : Rp H v d → RpAll H vs ds → RpAll H (v :: vs) (d :: ds)
end
mutual
theorem Rp.mono {H H' : Hp} (e : Ex H H') : ∀ (d : PyData) {v : V}, Rp H v d → Rp H' v d
  | .none, _, h => by cases h; exact .non
  | .bool _, _, h => by cases h; exact .bl _
  | .int _, _, h => by cases h; exact .int _
  | .str _, _, h => by cases h; exact .str _
  | .list ds, _, h => by
    cases h with
    | lst h1 h2 => exact .lst (e _ _ h1) (RpAll.mono e ds h2)
  | .tuple ds, _, h => by
    cases h with
    | tup h1 h2 => exact .tup (e _ _ h1) (RpAll.mono e ds h2)
  | .dict _, _, h => by cases h
theorem RpAll.mono {H H' : Hp} (e : Ex H H') : ∀ (ds : List PyData) {vs : List V}, RpAll H vs ds → RpAll H' vs ds
  | [], _, h => by cases h; exact .nil
  | d :: ds, _, h => by
    cases h with
    | cons h1 h2 => exact .cons (Rp.mono e d h1) (RpAll.mono e ds h2)
end
theorem Rp.up {H H' : Hp} {v : V} {d : PyData} (h : Rp H v d) (e : Ex H H') : Rp H' v d := Rp.mono e d h
theorem RpAll.up {H H' : Hp} {vs : List V} {ds : List PyData} (h : RpAll H vs ds) (e : Ex H H') : RpAll H' vs ds := RpAll.mono e ds h
mutual
theorem Rp.dp {K : PySem.W.Frag} {H : Hp} : ∀ (d : PyData) {v : V}, Rp H v d → Dp K H v d
  | .none, _, h => by cases h; exact .non
  | .bool _, _, h => by cases h; exact .bl _
  | .int _, _, h => by cases h; exact .int _
  | .str _, _, h => by cases h; exact .str _
  | .list ds, _, h => by
    cases h with
    | lst h1 h2 => exact .lst (SqL.of h1) (RpAll.dp ds h2)
  | .tuple ds, _, h => by
    cases h with
    | tup h1 h2 => exact .tup (SqT.of h1) (RpAll.dp ds h2)
  | .dict _, _, h => by cases h
theorem RpAll.dp {K : PySem.W.Frag} {H : Hp} : ∀ (ds : List PyData) {vs : List V}, RpAll H vs ds → DpAll K H vs ds
  | [], _, h => by cases h; exact .nil
  | d :: ds, _, h => by
    cases h with
    | cons h1 h2 => exact .cons (Rp.dp d h1) (RpAll.dp ds h2)
end
theorem RpAll.length {H : Hp} : ∀ {vs : List V} {ds : List PyData}, RpAll H vs ds → vs.length = ds.length
  | [], _, h => by cases h; rfl
  | v :: vs, _, h => by
    cases h with
    | cons h1 h2 => rw [List.length_cons, List.length_cons, h2.length]
theorem RpAll.append {H : Hp} : ∀ {vs us : List V} {ds es : List PyData}, RpAll H vs ds → RpAll H us es → RpAll H (vs ++ us) (ds ++ es)
  | [], _, _, _, h, k => by cases h; exact k
  | v :: vs, _, _, _, h, k => by
    cases h with
    | cons h1 h2 => exact .cons h1 (h2.append k)
theorem RpAll.one {H : Hp} {v : V} {d : PyData} (h : Rp H v d) : RpAll H [v] [d] := .cons h .nil
theorem RpAll.get {H : Hp} : ∀ {vs : List V} {ds : List PyData} {i : Nat} {d : PyData}, RpAll H vs ds → ds[i]? = some d → ∃ v, vs[i]? = some v ∧ Rp H v d
  | [], _, i, _, h, e => by cases h; simp at e
  | v :: vs, _, 0, _, h, e => by
    cases h with
    | cons h1 h2 => simp at e; subst e; exact ⟨v, rfl, h1⟩
  | v :: vs, _, i + 1, _, h, e => by
    cases h with
    | cons h1 h2 => exact RpAll.get (i := i) h2 (by simpa using e)
theorem RpAll.getV {H : Hp} : ∀ {vs : List V} {ds : List PyData} {i : Nat} {v : V}, RpAll H vs ds → vs[i]? = some v → ∃ d, ds[i]? = some d ∧ Rp H v d
  | [], _, i, _, h, e => by simp at e
  | v :: vs, _, 0, _, h, e => by
    cases h with
    | cons h1 h2 => simp at e; subst e; exact ⟨_, rfl, h1⟩
  | v :: vs, _, i + 1, _, h, e => by
    cases h with
    | cons h1 h2 => exact RpAll.getV (i := i) h2 (by simpa using e)
theorem RpAll.set {H : Hp} : ∀ {vs : List V} {ds : List PyData} (i : Nat) {v : V} {d : PyData}, RpAll H vs ds → Rp H v d → RpAll H (vs.set i v) (ds.set i d)
  | [], _, _, _, _, h, _ => by cases h; exact .nil
  | _ :: _, _, 0, _, _, h, r => by
    cases h with
    | cons h1 h2 => exact .cons r h2
  | _ :: _, _, i + 1, _, _, h, r => by
    cases h with
    | cons h1 h2 => exact .cons h1 (h2.set i r)
theorem RpAll.take {H : Hp} : ∀ {vs : List V} {ds : List PyData} (n : Nat), RpAll H vs ds → RpAll H (vs.take n) (ds.take n)
  | _, _, 0, _ => .nil
  | [], _, _ + 1, h => by cases h; exact .nil
  | _ :: _, _, n + 1, h => by
    cases h with
    | cons h1 h2 => exact .cons h1 (h2.take n)
theorem RpAll.drop {H : Hp} : ∀ {vs : List V} {ds : List PyData} (n : Nat), RpAll H vs ds → RpAll H (vs.drop n) (ds.drop n)
  | _, _, 0, h => h
  | [], _, _ + 1, h => by cases h; exact .nil
  | _ :: _, _, n + 1, h => by
    cases h with
    | cons h1 h2 => exact h2.drop n
theorem RpAll.ints {H : Hp} : ∀ (ns : List Int), RpAll H (ns.map V.int) (ns.map PyData.int)
  | [] => .nil
  | n :: ns => .cons (.int n) (RpAll.ints ns)
theorem RpAll.ints_inv {H : Hp} : ∀ {ns : List Int} {vs : List V}, RpAll H vs (ns.map PyData.int) → vs = ns.map V.int
  | [], _, h => by cases h; rfl
  | n :: ns, _, h => by
    cases h with
    | cons h1 h2 => cases h1; rw [RpAll.ints_inv h2]; rfl
theorem RpAll.bools_inv {H : Hp} : ∀ {bs : List Bool} {vs : List V}, RpAll H vs (bs.map PyData.bool) → vs = bs.map V.bl
  | [], _, h => by cases h; rfl
  | n :: ns, _, h => by
    cases h with
    | cons h1 h2 => cases h1; rw [RpAll.bools_inv h2]; rfl
theorem RpAll.two {H : Hp} {vs : List V} {d e : PyData} (h : RpAll H vs [d, e]) : ∃ v u, vs = [v, u] ∧ Rp H v d ∧ Rp H u e := by
  cases h with
  | cons h1 h2 =>
    cases h2 with
    | cons h3 h4 =>
      cases h4
      exact ⟨_, _, rfl, h1, h3⟩
theorem RpAll.three {H : Hp} {vs : List V} {d e f : PyData} (h : RpAll H vs [d, e, f]) : ∃ v u w, vs = [v, u, w] ∧ Rp H v d ∧ Rp H u e ∧ Rp H w f := by
  cases h with
  | cons h1 h2 =>
    obtain ⟨v, u, rfl, a, b⟩ := h2.two
    exact ⟨_, _, _, rfl, h1, a, b⟩
/-- the items of a list or a tuple -/
def items : PyData → Option (List PyData)
  | .list ds => some ds
  | .tuple ds => some ds
  | _ => none

/-! ### contexts: a def's body, or all the blocks of a comprehension -/
structure Fx {ι : Type} (X : ι → Cx) (P : Program) (w : World) (K : PySem.W.Frag) (mg : Str → Option Value) (base : Heap) (N : List Str) (sc : Scope) (own : Str → Bool) (k : Nat) : Prop where
  hP : ∀ i, (X i).prog = P
  hw : ∀ i, (X i).w = w
  hK : ∀ i, (X i).K = K
  hmg : ∀ i, (X i).mg = mg
  hbase : ∀ i, (X i).base = base
  hN : ∀ i, (X i).N = N
  nd : N.Nodup
  hsc : ∀ i, (X i).env.scope = sc
  calm : ∀ i, (X i).calm = true
  room : ∀ i, Room k (X i).A
  xe : ∀ i, PassesOwn (model (X i).prog (X i).w) (X i).A (X i).env (X i).xe
  fn : ∀ i x, own x = true → (X i).fn x = true
section
variable {ι : Type} {X : ι → Cx} {P : Program} {w : World} {K : PySem.W.Frag} {mg : Str → Option Value} {base : Heap} {N : List Str} {sc : Scope} {own : Str → Bool} {k : Nat}
theorem Fx.nd' (F : Fx X P w K mg base N sc own k) (i : ι) : (X i).N.Nodup := by rw [F.hN i]; exact F.nd
theorem Fx.own' (F : Fx X P w K mg base N sc own k) {x : Str} (h : own x = true ∨ sc.names.lookup x = some .local) (i : ι) : (X i).fn x = true ∨ (X i).env.scope.names.lookup x = some .local := by
  rcases h with h | h
  · exact .inl (F.fn i x h)
  · exact .inr (by rw [F.hsc i]; exact h)
theorem Fx.gl (F : Fx X P w K mg base N sc own k) {x : Str} (h : sc.names.lookup x = some .globalImplicit) (i : ι) : Gl (X i) x := by
  show (X i).env.scope.names.lookup x = _
  rw [F.hsc i]
  exact h
theorem Fx.pass (F : Fx X P w K mg base N sc own k) (i : ι) : PassesOwn (model (X i).prog (X i).w) (X i).A (X i).env (X i).xe := F.xe i
theorem Fx.hu (F : Fx X P w K mg base N sc own k) (i : ι) : (X i).A.units + 64 < cLine := (F.room i).units
theorem Fx.hu1 (F : Fx X P w K mg base N sc own k) (i : ι) : (X i).A.units + 1 < cLine := by have := F.hu i; omega

/-! ### the readings: the weakest word -/
def We (X : ι → Cx) (e : Expr) : TE := fun σ H Q => ∃ t : TE, (∀ i, PE (X i) e t) ∧ t σ H Q
def Wt (X : ι → Cx) (e : Expr) : TT := fun σ H Q => ∃ t : TT, (∀ i, PT (X i) e t) ∧ t σ H Q
def Ww (X : ι → Cx) (e : Expr) : TT := fun σ H Q => ∃ t : TT, (∀ i, PW (X i) e t) ∧ t σ H Q
def Wa (X : ι → Cx) (es : List Expr) : TA := fun σ H Q => ∃ t : TA, (∀ i, PA (X i) es t) ∧ t σ H Q
def Ws (X : ι → Cx) (st : List Stmt) : TS := fun D σ H => ∃ t : TS, (∀ i, PSs (X i) st t) ∧ t D σ H
def Wg (X : ι → Cx) (tg : Expr) : TG := fun v σ H Q => ∃ t : TG, (∀ i, PG (X i) tg t) ∧ t v σ H Q
def Wi (X : ι → Cx) (tg iter : Expr) : TI := fun σ H R => ∃ t : TI, (∀ i, PI (X i) tg iter t) ∧ t σ H R
theorem We.pe (i : ι) {e : Expr} : PE (X i) e (We X e) := ⟨fun pins s σ H Q I ⟨_, h, q⟩ => (h i).run pins s σ H Q I q⟩
theorem Wt.pt (i : ι) {e : Expr} : PT (X i) e (Wt X e) := ⟨fun pins s σ H Q I ⟨_, h, q⟩ => (h i).run pins s σ H Q I q⟩
theorem Ww.pw (i : ι) {e : Expr} : PW (X i) e (Ww X e) := ⟨fun wh pins s σ H Q I ⟨_, h, q⟩ => (h i).run wh pins s σ H Q I q⟩
theorem Wa.pa (i : ι) {es : List Expr} : PA (X i) es (Wa X es) := ⟨fun pos pins s σ H Q I ⟨_, h, q⟩ => (h i).run pos pins s σ H Q I q⟩
theorem Ws.ps (i : ι) {st : List Stmt} : PSs (X i) st (Ws X st) := ⟨fun pins s σ H D I ⟨_, h, q⟩ => (h i).run pins s σ H D I q⟩
theorem Wg.pg (i : ι) {tg : Expr} : PG (X i) tg (Wg X tg) := ⟨fun pins s σ H v u Q I r ⟨_, h, q⟩ => (h i).run pins s σ H v u Q I r q⟩
theorem Wi.pi (i : ι) {tg iter : Expr} : PI (X i) tg iter (Wi X tg iter) := ⟨fun pins s σ H R I ⟨_, h, q⟩ => (h i).run pins s σ H R I q⟩

/-! ### an expression gives the data d: B is what stays -/
def Ev (X : ι → Cx) (e : Expr) (σ : L2.St) (B : Hp) (d : PyData) : Prop := ∀ H, Ex B H → ∀ Q : VK, (∀ v B' H', Nw B H B' H' → Rp B' v d → Q v H') → We X e σ H Q
def Et (X : ι → Cx) (e : Expr) (σ : L2.St) (B : Hp) (b : Bool) : Prop := ∀ H, Ex B H → ∀ Q : Bool → Hp → Prop, (∀ H', Ex H H' → Q b H') → Wt X e σ H Q
def Ew (X : ι → Cx) (e : Expr) (σ : L2.St) (B : Hp) (b : Bool) : Prop := ∀ H, Ex B H → ∀ Q : Bool → Hp → Prop, (∀ H', Ex H H' → Q b H') → Ww X e σ H Q
def Ea (X : ι → Cx) (es : List Expr) (σ : L2.St) (B : Hp) (ds : List PyData) : Prop := ∀ H, Ex B H → ∀ Q : List V → Hp → Prop, (∀ vs B' H', Nw B H B' H' → RpAll B' vs ds → Q vs H') → Wa X es σ H Q
variable {e a b c : Expr} {es : List Expr} {σ : L2.St} {B B' H H' : Hp} {d d1 d2 d3 : PyData} {ds : List PyData} {pos : Pos} {v : V}
theorem Ev.mono (h : Ev X e σ B d) (x : Ex B B') : Ev X e σ B' d := fun H e' Q q => h H (x.trans e') Q fun v B1 H1 n r => q v (fun a => if B1 a = none then B' a else B1 a) H1
  ⟨fun a o ho => by
      by_cases z : B1 a = none
      · show (if B1 a = none then B' a else B1 a) = some o
        rw [if_pos z]; exact ho
      · show (if B1 a = none then B' a else B1 a) = some o
        rw [if_neg z]
        cases y : B1 a with
        | none => exact absurd y z
        | some u =>
          have h1 := n.bh a u y
          have h2 := n.hh a o (e' a o ho)
          rw [h1] at h2
          exact h2,
   fun a o ho => by
      have ho : (if B1 a = none then B' a else B1 a) = some o := ho
      by_cases z : B1 a = none
      · rw [if_pos z] at ho
        exact n.hh a o (e' a o ho)
      · rw [if_neg z] at ho
        exact n.bh a o ho,
   n.hh,
   fun a ha => by
      show (if B1 a = none then B' a else B1 a) = B' a
      by_cases z : B1 a = none
      · rw [if_pos z]
      · rw [if_neg z]
        have h1 := n.old a ha
        cases y : B1 a with
        | none => exact absurd y z
        | some u => rw [y] at h1; rw [x a u h1.symm]⟩
  (r.up fun a o ho => by
    show (if B1 a = none then B' a else B1 a) = some o
    rw [if_neg (by rw [ho]; simp)]; exact ho)
theorem Et.mono {b : Bool} (h : Et X e σ B b) (x : Ex B B') : Et X e σ B' b := fun H e' Q q => h H (x.trans e') Q q
theorem Ev.is (h : Ev X e σ B d) (q : d = d1) : Ev X e σ B d1 := by rw [← q]; exact h
theorem Et.is {x y : Bool} (h : Et X e σ B x) (q : x = y) : Et X e σ B y := by rw [← q]; exact h
end
end Lay
end

section
set_option Elab.async false
set_option linter.all false
set_option maxRecDepth 100000
set_option maxHeartbeats 1000000
namespace Lay
open PySem PySem.Spec PyProof.Rows L2
section
variable {ι : Type} {X : ι → Cx} {P : Program} {w : World} {K : PySem.W.Frag} {mg : Str → Option Value} {base : Heap} {N : List Str} {sc : Scope} {own : Str → Bool} {k : Nat}
variable {e a b c : Expr} {es : List Expr} {σ : L2.St} {B B' H H' : Hp} {d d1 d2 d3 : PyData} {ds : List PyData} {pos : Pos} {v : V}

/-! ### names, constants -/
theorem we_var (F : Fx X P w K mg base N sc own k) (i : Nat) {x : Str} {Q : VK} (hs : σ[i]? = some (some v)) (q : Q v H) (hN : N[i]? = some x := by rfl)
    (hv : Vis sc x := by first | exact Or.inl rfl | exact Or.inr (Or.inl rfl) | exact Or.inr (Or.inr rfl)) (hd : (x == ("__debug__" : Str)) = false := by decide) (hcd : (x == ("__classdict__" : Str)) = false := by decide) :
    We X (.Name x pos) σ H Q := ⟨tVar i, fun j => pe_var (by rw [F.hN j]; exact hN) (by rw [F.hsc j]; exact hv) hd hcd, v, hs, q⟩
theorem Fx.nm (F : Fx X P w K mg base N sc own k) (i : Nat) {x : Str} (hs : σ[i]? = some (some v)) (r : Rp B v d) (hN : N[i]? = some x := by rfl)
    (hv : Vis sc x := by first | exact Or.inl rfl | exact Or.inr (Or.inl rfl) | exact Or.inr (Or.inr rfl)) (hd : (x == ("__debug__" : Str)) = false := by decide) (hcd : (x == ("__classdict__" : Str)) = false := by decide) :
    Ev X (.Name x pos) σ B d := fun H e _ q => we_var F i hs (q v B H (Nw.refl e) r) hN hv hd hcd
theorem ev_int {i : Int} {j : Nat} : Ev X (.Constant (.int i) j pos) σ B (.int i) := fun H e _ q => ⟨tC (.int i), fun _ => pe_int, q _ B H (Nw.refl e) (.int i)⟩
theorem ev_bl {x : Bool} {j : Nat} : Ev X (.Constant (.bool x) j pos) σ B (.bool x) := fun H e _ q => ⟨tC (.bl x), fun _ => pe_bl, q _ B H (Nw.refl e) (.bl x)⟩
theorem ev_non {j : Nat} : Ev X (.Constant .none j pos) σ B .none := fun H e _ q => ⟨tC .non, fun _ => pe_non, q _ B H (Nw.refl e) .non⟩
theorem ev_str {x : Str} {j : Nat} : Ev X (.Constant (.str x) j pos) σ B (.str x) := fun H e _ q => ⟨tC (.str x), fun _ => pe_str, q _ B H (Nw.refl e) (.str x)⟩

/-! ### operators by data -/
def Op2 (X : ι → Cx) (f : Value → Value → Sem Value) (d1 d2 d3 : PyData) : Prop := ∃ r : R2, (∀ i, OpR (X i) f r) ∧ ∀ B H v1 v2, Ex B H → Rp B v1 d1 → Rp B v2 d2 → ∀ Q : VK, (∀ v B' H', Nw B H B' H' → Rp B' v d3 → Q v H') → r v1 v2 H Q
theorem ev_bin {op : Operator} (o : Op2 X (binaryOp op) d1 d2 d3) (ha : Ev X a σ B d1) (hb : Ev X b σ B d2) : Ev X (.BinOp a op b pos) σ B d3 := fun H x Q q => by
  obtain ⟨r, ho, hr⟩ := o
  refine ⟨tOp r (We X a) (We X b), fun i => pe_op (ho i) (We.pe i) (We.pe i), ?_⟩
  refine ha H x _ fun v1 B1 H1 n1 r1 => ?_
  refine hb.mono n1.bb H1 n1.bh _ fun v2 B2 H2 n2 r2 => ?_
  exact hr B2 H2 v1 v2 n2.bh (r1.up n2.bb) r2 Q fun v B3 H3 n3 r3 => q v B3 H3 ((n1.trans n2).trans n3) r3
theorem ev_cmp {op : CmpOp} {y : Bool} (o : Op2 X (compareOp op) d1 d2 (.bool y)) (ha : Ev X a σ B d1) (hb : Ev X b σ B d2) (hm : behindInMarks op b = false := by first | exact nomark _ | rfl) : Ev X (.Compare a [op] [b] pos) σ B (.bool y) := fun H x Q q => by
  obtain ⟨r, ho, hr⟩ := o
  refine ⟨tOp r (We X a) (We X b), fun i => pe_cmpR (ho i) (We.pe i) (We.pe i) hm, ?_⟩
  refine ha H x _ fun v1 B1 H1 n1 r1 => ?_
  refine hb.mono n1.bb H1 n1.bh _ fun v2 B2 H2 n2 r2 => ?_
  exact hr B2 H2 v1 v2 n2.bh (r1.up n2.bb) r2 Q fun v B3 H3 n3 r3 => q v B3 H3 ((n1.trans n2).trans n3) r3
theorem et_cmp {op : CmpOp} {y : Bool} (o : Op2 X (compareOp op) d1 d2 (.bool y)) (ha : Ev X a σ B d1) (hb : Ev X b σ B d2) (hm : behindInMarks op b = false := by first | exact nomark _ | rfl) : Et X (.Compare a [op] [b] pos) σ B y := fun H x Q q => by
  obtain ⟨r, ho, hr⟩ := o
  refine ⟨tTest (tOp r (We X a) (We X b)), fun i => pt_cmpR (ho i) (We.pe i) (We.pe i) hm, ?_⟩
  refine ha H x _ fun v1 B1 H1 n1 r1 => ?_
  refine hb.mono n1.bb H1 n1.bh _ fun v2 B2 H2 n2 r2 => ?_
  exact hr B2 H2 v1 v2 n2.bh (r1.up n2.bb) r2 _ fun v B3 H3 n3 r3 => by
    cases r3
    exact ⟨_, rfl, q H3 ((n1.trans n2).trans n3).hh⟩
/-- a < b < c -/
theorem et_chain {op op' : CmpOp} {y z : Bool} {d4 : PyData} (o : Op2 X (compareOp op) d1 d2 (.bool y)) (o' : Op2 X (compareOp op') d2 d4 (.bool z)) (ha : Ev X a σ B d1) (hb : Ev X b σ B d2) (hc : Ev X c σ B d4)
    (hm : lastMarks [op, op'] [b, c] = false := by with_unfolding_all rfl) : Et X (.Compare a [op, op'] [b, c] pos) σ B (y && z) := fun H x Q q => by
  obtain ⟨r, ho, hr⟩ := o
  obtain ⟨r', ho', hr'⟩ := o'
  refine ⟨_, fun i => pt_chain (ho i) (ho' i) (We.pe i) (We.pe i) (We.pe i) hm, ?_⟩
  refine ha H x _ fun v1 B1 H1 n1 r1 => ?_
  refine hb.mono n1.bb H1 n1.bh _ fun v2 B2 H2 n2 r2 => ?_
  refine hr B2 H2 v1 v2 n2.bh (r1.up n2.bb) r2 _ fun v B3 H3 n3 r3 => ?_
  cases r3
  refine ⟨_, rfl, ?_⟩
  have n := (n1.trans n2).trans n3
  cases y with
  | false => exact ⟨_, rfl, q H3 n.hh⟩
  | true =>
    refine hc.mono n.bb H3 n.bh _ fun v4 B4 H4 n4 r4 => ?_
    refine hr' B4 H4 v2 v4 n4.bh ((r2.up n3.bb).up n4.bb) r4 _ fun v B5 H5 n5 r5 => ?_
    cases r5
    exact ⟨_, rfl, q H5 ((n.trans n4).trans n5).hh⟩
/-- two ints -/
theorem Op2.I0 {f : Value → Value → Sem Value} {g : Int → Int → V} {i j : Int} (ho : ∀ x, OpR (X x) f (rI0 g)) (hg : ∀ B, Rp B (g i j) d) : Op2 X f (.int i) (.int j) d :=
  ⟨_, ho, fun B H v1 v2 x r1 r2 Q q => by cases r1; cases r2; exact ⟨i, j, rfl, rfl, q _ B H (Nw.refl x) (hg B)⟩⟩
theorem Op2.I {f : Value → Value → Sem Value} {C : Int → Int → Prop} {g : Int → Int → V} {i j : Int} (ho : ∀ x, OpR (X x) f (rI C g)) (hc : C i j) (hg : ∀ B, Rp B (g i j) d) : Op2 X f (.int i) (.int j) d :=
  ⟨_, ho, fun B H v1 v2 x r1 r2 Q q => by cases r1; cases r2; exact ⟨i, j, rfl, rfl, hc, q _ B H (Nw.refl x) (hg B)⟩⟩
theorem o_add {i j : Int} : Op2 X (binaryOp .Add) (.int i) (.int j) (.int (i + j)) := Op2.I0 (fun _ => op_add) fun _ => .int _
theorem o_sub {i j : Int} : Op2 X (binaryOp .Sub) (.int i) (.int j) (.int (i - j)) := Op2.I0 (fun _ => op_sub) fun _ => .int _
theorem o_mul {i j : Int} (h : CMul i j) : Op2 X (binaryOp .Mult) (.int i) (.int j) (.int (i * j)) := Op2.I (fun _ => op_mul) h fun _ => .int _
theorem o_mod {i j : Int} (h : 0 < j) : Op2 X (binaryOp .Mod) (.int i) (.int j) (.int (i % j)) := Op2.I (fun _ => op_mod) h fun _ => .int _
theorem o_fdiv {i j : Int} (h : CDiv i j) : Op2 X (binaryOp .FloorDiv) (.int i) (.int j) (.int (i / j)) := Op2.I (fun _ => op_fdiv) h fun _ => .int _
theorem o_lt {i j : Int} : Op2 X (compareOp .Lt) (.int i) (.int j) (.bool (decide (i < j))) := Op2.I0 (fun _ => op_lt) fun _ => .bl _
theorem o_le {i j : Int} : Op2 X (compareOp .LtE) (.int i) (.int j) (.bool (decide (i ≤ j))) := Op2.I0 (fun _ => op_le) fun _ => .bl _
theorem o_gt {i j : Int} : Op2 X (compareOp .Gt) (.int i) (.int j) (.bool (decide (j < i))) := Op2.I0 (fun _ => op_gt) fun _ => .bl _
theorem o_ge {i j : Int} : Op2 X (compareOp .GtE) (.int i) (.int j) (.bool (decide (j ≤ i))) := Op2.I0 (fun _ => op_ge) fun _ => .bl _
theorem o_eqI {i j : Int} : Op2 X (compareOp .Eq) (.int i) (.int j) (.bool (decide (i = j))) :=
  ⟨_, fun _ => op_eq, fun B H v1 v2 x r1 r2 Q q => by
    cases r1; cases r2
    refine ⟨rfl, ?_⟩
    rw [show decide (V.int i = V.int j) = decide (i = j) by simp]
    exact q _ B H (Nw.refl x) (.bl _)⟩
/-- == and != of bools -/
theorem o_eqB {i j : Bool} : Op2 X (compareOp .Eq) (.bool i) (.bool j) (.bool (decide (i = j))) :=
  ⟨_, fun _ => op_eq, fun B H v1 v2 x r1 r2 Q q => by
    cases r1; cases r2
    refine ⟨rfl, ?_⟩
    rw [show decide (V.bl i = V.bl j) = decide (i = j) by simp]
    exact q _ B H (Nw.refl x) (.bl _)⟩
theorem o_neB {i j : Bool} : Op2 X (compareOp .NotEq) (.bool i) (.bool j) (.bool (!decide (i = j))) :=
  ⟨_, fun _ => op_ne, fun B H v1 v2 x r1 r2 Q q => by
    cases r1; cases r2
    refine ⟨rfl, ?_⟩
    rw [show decide (V.bl i = V.bl j) = decide (i = j) by simp]
    exact q _ B H (Nw.refl x) (.bl _)⟩
def isNone : PyData → Bool | .none => true | _ => false
theorem Rp.isN {B : Hp} {v : V} {d : PyData} (r : Rp B v d) : decide (v = .non) = isNone d := by
  cases r <;> simp [isNone]
theorem o_isN : Op2 X (compareOp .Is) d .none (.bool (isNone d)) :=
  ⟨_, fun _ => op_isN, fun B H v1 v2 x r1 r2 Q q => by
    cases r2
    refine ⟨rfl, ?_⟩
    rw [r1.isN]
    exact q _ B H (Nw.refl x) (.bl _)⟩
theorem o_notN : Op2 X (compareOp .IsNot) d .none (.bool (!isNone d)) :=
  ⟨_, fun _ => op_notN, fun B H v1 v2 x r1 r2 Q q => by
    cases r2
    refine ⟨rfl, ?_⟩
    rw [r1.isN]
    exact q _ B H (Nw.refl x) (.bl _)⟩
/-- equality of data: it can be read, and is not deep -/
def Flat (d : PyData) : Prop := SeqAt.shaped d = true
theorem o_eqD (F : Fx X P w K mg base N sc own k) (s1 : Flat d1) (s2 : Flat d2) : Op2 X (compareOp .Eq) d1 d2 (.bool (PyData.eqv d1 d2)) :=
  ⟨rEqD K, fun i => by have h := op_eqD (X := X i) (F.hu i); rw [F.hK i] at h; exact h, fun B H v1 v2 x r1 r2 Q q => ⟨d1, d2, (r1.up x).dp, (r2.up x).dp, s1, s2, q _ B H (Nw.refl x) (.bl _)⟩⟩
theorem o_neD (F : Fx X P w K mg base N sc own k) (s1 : Flat d1) (s2 : Flat d2) : Op2 X (compareOp .NotEq) d1 d2 (.bool (!PyData.eqv d1 d2)) :=
  ⟨rNeD K, fun i => by have h := op_neD (X := X i) (F.hu i); rw [F.hK i] at h; exact h, fun B H v1 v2 x r1 r2 Q q => ⟨d1, d2, (r1.up x).dp, (r2.up x).dp, s1, s2, q _ B H (Nw.refl x) (.bl _)⟩⟩
/-- list + list, tuple + tuple -/
theorem o_catL {ds es : List PyData} (h : ds.length + es.length ≤ sizeLine) : Op2 X (binaryOp .Add) (.list ds) (.list es) (.list (ds ++ es)) :=
  ⟨rCat, fun _ => op_cat, fun B H v1 v2 x r1 r2 Q q => by
    cases r1 with
    | @lst p1 xs1 _ h1 a1 =>
      cases r2 with
      | @lst p2 xs2 _ h2 a2 =>
        refine ⟨_, _, _, _, rfl, rfl, x _ _ h1, x _ _ h2, by rw [a1.length, a2.length]; exact h, fun p hp => ?_⟩
        have n := Nw.new (o := .lst (xs1 ++ xs2)) x hp
        exact q _ _ _ n (.lst upd_same ((a1.append a2).up n.bb))⟩
theorem o_catT {ds es : List PyData} (h : ds.length + es.length ≤ sizeLine) : Op2 X (binaryOp .Add) (.tuple ds) (.tuple es) (.tuple (ds ++ es)) :=
  ⟨fun x y H Q => ∃ a b xs ys, x = .ref a ∧ y = .ref b ∧ H a = some (.tup xs) ∧ H b = some (.tup ys) ∧ xs.length + ys.length ≤ sizeLine ∧
      (xs = [] → Q (.ref b) H) ∧ (xs ≠ [] → ys = [] → Q (.ref a) H) ∧ (xs ≠ [] → ys ≠ [] → ∀ p, H p = none → Q (.ref p) (upd H p (.tup (xs ++ ys)))),
    fun i => fun pins s σ H x y v u Q I rx ry ⟨a, b, xs, ys, e1, e2, h1, h2, h3⟩ => op_catA pins s σ H x y v u Q I rx ry ⟨a, b, xs, ys, e1, e2, SqT.of h1, SqT.of h2, h3⟩,
    fun B H v1 v2 x r1 r2 Q q => by
      cases r1 with
      | @tup a1 xs1 _ h1 a1' =>
        cases r2 with
        | @tup a2 xs2 _ h2 a2' =>
          refine ⟨a1, a2, xs1, xs2, rfl, rfl, x _ _ h1, x _ _ h2, by rw [a1'.length, a2'.length]; exact h, fun z => ?_, fun _ z => ?_, fun _ _ p hp => ?_⟩
          · subst z
            cases a1'
            exact q _ B H (Nw.refl x) (.tup h2 a2')
          · subst z
            cases a2'
            refine q _ B H (Nw.refl x) (.tup h1 ?_)
            rw [List.append_nil]
            exact a1'
          · have n := Nw.new (o := .tup (xs1 ++ xs2)) x hp
            exact q _ _ _ n (.tup upd_same ((a1'.append a2').up n.bb))⟩
theorem RpAll.rep {H : Hp} {v : V} {d : PyData} (r : Rp H v d) : ∀ n : Nat, RpAll H (List.replicate n v) (List.replicate n d)
  | 0 => .nil
  | n + 1 => .cons r (RpAll.rep r n)
/-- [x] * n -/
theorem o_rep1 {n : Int} (h0 : 0 ≤ n) (h : n ≤ 10000) : Op2 X (binaryOp .Mult) (.list [d]) (.int n) (.list (List.replicate n.toNat d)) :=
  ⟨rRep, fun _ => op_rep, fun B H v1 v2 x r1 r2 Q q => by
    cases r2
    cases r1 with
    | @lst a1 xs1 _ h1 a1' =>
      cases a1' with
      | @cons y _ _ _ ry rr =>
        cases rr
        refine ⟨_, _, _, rfl, rfl, x _ _ h1, by omega, by omega, by rw [sizeLine_eq, List.length_cons, List.length_nil]; omega, fun p hp => ?_⟩
        have e : (List.replicate n.toNat [y]).flatten = List.replicate n.toNat y := by
          generalize n.toNat = m
          induction m with
          | zero => rfl
          | succ m ih => rw [List.replicate_succ, List.replicate_succ, List.flatten_cons, ih]; rfl
        have n' := Nw.new (o := .lst ((List.replicate n.toNat [y]).flatten)) x hp
        refine q _ _ _ n' (.lst upd_same ?_)
        have r' := RpAll.rep (ry.up n'.bb) n.toNat
        rw [← e] at r'
        exact r'⟩
theorem o_inL (F : Fx X P w K mg base N sc own k) (s1 : Flat d) (s2 : Flat (.list ds)) : Op2 X (compareOp .In) d (.list ds) (.bool (ds.any fun z => PyData.eqv z d)) :=
  ⟨rInD K, fun i => by have h := op_inD (X := X i) (by have := (F.room i).un; omega); rw [F.hK i] at h; exact h, fun B H v1 v2 x r1 r2 Q q => ⟨d, ds, (r1.up x).dp, (r2.up x).dp, s1, s2, q _ B H (Nw.refl x) (.bl _)⟩⟩
theorem o_notInL (F : Fx X P w K mg base N sc own k) (s1 : Flat d) (s2 : Flat (.list ds)) : Op2 X (compareOp .NotIn) d (.list ds) (.bool (!ds.any fun z => PyData.eqv z d)) :=
  ⟨rNotInD K, fun i => by have h := op_notInD (X := X i) (by have := (F.room i).un; omega); rw [F.hK i] at h; exact h, fun B H v1 v2 x r1 r2 Q q => ⟨d, ds, (r1.up x).dp, (r2.up x).dp, s1, s2, q _ B H (Nw.refl x) (.bl _)⟩⟩
/-- x in a tuple of data -/
def rNotInU (K : PySem.W.Frag) : R2 := fun x y H Q => ∃ d ds, Dp K H x d ∧ Dp K H y (.tuple ds) ∧ SeqAt.shaped d = true ∧ SeqAt.shaped (.tuple ds) = true ∧ Q (.bl (!ds.any fun z => PyData.eqv z d)) H
theorem op_notInU {X : Cx} (hu : X.A.units + 65 < cLine) : OpR X (compareOp .NotIn) (rNotInU X.K) := by
  intro pins s σ H x y v u Q I rx ry h
  obtain ⟨d, ds, hd, he, sd, se, q⟩ := h
  obtain ⟨as, r1⟩ := Dp.reads I d x v hd rx
  obtain ⟨bs, r2⟩ := Dp.reads I (.tuple ds) y u he ry
  refine SeqAt.notIn_tuple_reads r2 r1 (SeqAt.canLay_of_shaped se) (SeqAt.canLay_of_shaped sd) ?_ ⟨.bl _, H, I, rfl, q⟩
  have h1 := SeqAt.depth_of_shaped sd
  have h2 : min (PyData.depthAll ds) d.depth ≤ d.depth := Nat.min_le_right _ _
  omega
theorem o_notInU (F : Fx X P w K mg base N sc own k) (s1 : Flat d) (s2 : Flat (.tuple ds)) : Op2 X (compareOp .NotIn) d (.tuple ds) (.bool (!ds.any fun z => PyData.eqv z d)) :=
  ⟨rNotInU K, fun i => by have h := op_notInU (X := X i) (by have := (F.room i).un; omega); rw [F.hK i] at h; exact h, fun B H v1 v2 x r1 r2 Q q => ⟨d, ds, (r1.up x).dp, (r2.up x).dp, s1, s2, q _ B H (Nw.refl x) (.bl _)⟩⟩

/-! ### and, or, not, if -/
theorem ev_one {op : BoolOp} (h : Ev X a σ B d) : Ev X (.BoolOp op [a] pos) σ B d := fun H x Q q => ⟨We X a, fun i => pe_one (We.pe i), h H x Q q⟩
theorem ev_and {rest : List Expr} {x y : Bool} (ha : Ev X a σ B (.bool x)) (hb : x = true → Ev X (.BoolOp .And (b :: rest) pos) σ B (.bool y)) : Ev X (.BoolOp .And (a :: b :: rest) pos) σ B (.bool (x && y)) := fun H z Q q => by
  refine ⟨_, fun i => pe_and (We.pe i) (We.pe i), ?_⟩
  refine ha H z _ fun v B1 H1 n1 r1 => ?_
  cases r1
  refine ⟨x, rfl, ?_⟩
  cases x with
  | true =>
    rw [if_pos rfl]
    exact (hb rfl).mono n1.bb H1 n1.bh Q fun v B2 H2 n2 r2 => q v B2 H2 (n1.trans n2) r2
  | false =>
    rw [if_neg Bool.false_ne_true]
    exact q _ B1 H1 n1 (.bl false)
theorem ev_or {rest : List Expr} {x y : Bool} (ha : Ev X a σ B (.bool x)) (hb : x = false → Ev X (.BoolOp .Or (b :: rest) pos) σ B (.bool y)) : Ev X (.BoolOp .Or (a :: b :: rest) pos) σ B (.bool (x || y)) := fun H z Q q => by
  refine ⟨_, fun i => pe_or (We.pe i) (We.pe i), ?_⟩
  refine ha H z _ fun v B1 H1 n1 r1 => ?_
  cases r1
  refine ⟨x, rfl, ?_⟩
  cases x with
  | true =>
    rw [if_pos rfl]
    exact q _ B1 H1 n1 (.bl true)
  | false =>
    rw [if_neg Bool.false_ne_true]
    exact (hb rfl).mono n1.bb H1 n1.bh Q fun v B2 H2 n2 r2 => q v B2 H2 (n1.trans n2) r2
theorem ev_not {x : Bool} (ha : Ev X a σ B (.bool x)) : Ev X (.UnaryOp .Not a pos) σ B (.bool (!x)) := fun H z Q q => by
  refine ⟨_, fun i => pe_not (We.pe i), ?_⟩
  refine ha H z _ fun v B1 H1 n1 r1 => ?_
  cases r1
  exact ⟨x, rfl, q _ B1 H1 n1 (.bl _)⟩
/-- an expression that gives a bool, as a test (a name, a call) -/
theorem et_val {y : Bool} (h : Ev X e σ B (.bool y)) (he : ∀ env whole, isTrue e env whole = (do let v ← whole; standAt e.pos; holding [v] (truthy v)) := by intro _ _; rfl) : Et X e σ B y := fun H x Q q => by
  refine ⟨_, fun i => pt_val (We.pe i) (he _), ?_⟩
  exact h H x _ fun v B1 H1 n1 r1 => by cases r1; exact ⟨y, rfl, q H1 n1.hh⟩
theorem et_not {y : Bool} (h : Et X a σ B y) : Et X (.UnaryOp .Not a pos) σ B (!y) := fun H x Q q => ⟨_, fun i => pt_not (Wt.pt i), h H x _ q⟩
theorem ew_and1 {y : Bool} (h : Et X a σ B y) : Ew X (.BoolOp .And [a] pos) σ B y := fun H x Q q => ⟨_, fun i => pw_and1 (Wt.pt i), h H x Q q⟩
theorem ew_or1 {y : Bool} (h : Et X a σ B y) : Ew X (.BoolOp .Or [a] pos) σ B y := fun H x Q q => ⟨_, fun i => pw_or1 (Wt.pt i), h H x Q q⟩
theorem ew_and {rest : List Expr} {x y : Bool} (ha : Et X a σ B x) (hb : x = true → Ew X (.BoolOp .And (b :: rest) pos) σ B y) : Ew X (.BoolOp .And (a :: b :: rest) pos) σ B (x && y) := fun H z Q q => by
  refine ⟨_, fun i => pw_and (Wt.pt i) (Ww.pw i), ?_⟩
  refine ha H z _ fun H1 e1 => ?_
  cases x with
  | true => exact hb rfl H1 (z.trans e1) Q fun H2 e2 => q H2 (e1.trans e2)
  | false => exact q H1 e1
theorem ew_or {rest : List Expr} {x y : Bool} (ha : Et X a σ B x) (hb : x = false → Ew X (.BoolOp .Or (b :: rest) pos) σ B y) : Ew X (.BoolOp .Or (a :: b :: rest) pos) σ B (x || y) := fun H z Q q => by
  refine ⟨_, fun i => pw_or (Wt.pt i) (Ww.pw i), ?_⟩
  refine ha H z _ fun H1 e1 => ?_
  cases x with
  | true => exact q H1 e1
  | false => exact hb rfl H1 (z.trans e1) Q fun H2 e2 => q H2 (e1.trans e2)
theorem et_w {y : Bool} (h : Ew X e σ B y) : Et X e σ B y := fun H x Q q => ⟨_, fun i => (Ww.pw i).pt, h H x Q q⟩
/-- two tests, three -/
theorem et_and2 {x y : Bool} (ha : Et X a σ B x) (hb : x = true → Et X b σ B y) : Et X (.BoolOp .And [a, b] pos) σ B (x && y) := et_w (ew_and ha fun h => ew_and1 (hb h))
theorem et_or2 {x y : Bool} (ha : Et X a σ B x) (hb : x = false → Et X b σ B y) : Et X (.BoolOp .Or [a, b] pos) σ B (x || y) := et_w (ew_or ha fun h => ew_or1 (hb h))
theorem ev_if {y : Bool} (hc : Et X c σ B y) (h1 : y = true → Ev X a σ B d) (h2 : y = false → Ev X b σ B d) : Ev X (.IfExp c a b pos) σ B d := fun H x Q q => by
  refine ⟨_, fun i => pe_ifExp (Wt.pt i) (We.pe i) (We.pe i), ?_⟩
  refine hc H x _ fun H1 e1 => ?_
  cases y with
  | true =>
    rw [if_pos rfl]
    exact h1 rfl H1 (x.trans e1) Q fun v B2 H2 n2 r2 => q v B2 H2 ((Nw.grow x e1).trans n2) r2
  | false =>
    rw [if_neg Bool.false_ne_true]
    exact h2 rfl H1 (x.trans e1) Q fun v B2 H2 n2 r2 => q v B2 H2 ((Nw.grow x e1).trans n2) r2

/-! ### argument lists, displays -/
theorem ea_nil : Ea X [] σ B [] := fun H x Q q => ⟨tNil, fun _ => pa_nil, q [] B H (Nw.refl x) .nil⟩
theorem ea_cons (h : Ev X e σ B d) (hr : Ea X es σ B ds) (hs : ∀ env, starEach (e :: es) env = (false, eval e env) :: starEach es env := by intro _; rfl) : Ea X (e :: es) σ B (d :: ds) := fun H x Q q => by
  refine ⟨_, fun i => pa_cons (We.pe i) (Wa.pa i) (hs _), ?_⟩
  refine h H x _ fun v B1 H1 n1 r1 => ?_
  have hr' : Ea X es σ B1 ds := fun H2 x2 Q2 q2 => by
    -- growing the base: as Ev.mono
    refine hr H2 (n1.bb.trans x2) Q2 fun vs B3 H3 n3 r3 => q2 vs (fun a => if B3 a = none then B1 a else B3 a) H3 ⟨fun a o ho => ?_, fun a o ho => ?_, n3.hh, fun a ha => ?_⟩ (r3.up fun a o ho => by
      show (if B3 a = none then B1 a else B3 a) = some o
      rw [if_neg (by rw [ho]; simp)]; exact ho)
    · show (if B3 a = none then B1 a else B3 a) = some o
      by_cases z : B3 a = none
      · rw [if_pos z]; exact ho
      · rw [if_neg z]
        cases y : B3 a with
        | none => exact absurd y z
        | some u =>
          have h1 := n3.bh a u y
          have h2 := n3.hh a o (x2 a o ho)
          rw [h1] at h2
          exact h2
    · have ho : (if B3 a = none then B1 a else B3 a) = some o := ho
      by_cases z : B3 a = none
      · rw [if_pos z] at ho
        exact n3.hh a o (x2 a o ho)
      · rw [if_neg z] at ho
        exact n3.bh a o ho
    · show (if B3 a = none then B1 a else B3 a) = B1 a
      by_cases z : B3 a = none
      · rw [if_pos z]
      · rw [if_neg z]
        have h1 := n3.old a ha
        cases y : B3 a with
        | none => exact absurd y z
        | some u => rw [y] at h1; rw [n1.bb a u h1.symm]
  refine hr' H1 n1.bh _ fun vs B2 H2 n2 r2 => ?_
  exact q _ B2 H2 (n1.trans n2) (.cons (r1.up n2.bb) r2)
theorem ev_tup {x1 : Nat} (h : Ea X es σ B ds) (hz : ds.length ≤ sizeLine := by first | decide | (simp only [List.length_cons, List.length_nil]; decide)) : Ev X (.Tuple es x1 pos) σ B (.tuple ds) := fun H x Q q => by
  refine ⟨_, fun i => pe_tup (Wa.pa i), ?_⟩
  refine h H x _ fun vs B1 H1 n1 r1 => ⟨by rw [r1.length]; exact hz, fun p hp => ?_⟩
  have n2 := Nw.new (o := .tup vs) n1.bh hp
  exact q _ _ _ (n1.trans n2) (.tup upd_same (r1.up n2.bb))
theorem ev_lst (h : Ea X es σ B ds) (hz : ds.length ≤ sizeLine := by first | decide | (simp only [List.length_cons, List.length_nil]; decide)) : Ev X (.List es pos) σ B (.list ds) := fun H x Q q => by
  refine ⟨_, fun i => pe_lst (Wa.pa i), ?_⟩
  refine h H x _ fun vs B1 H1 n1 r1 => ⟨by rw [r1.length]; exact hz, fun p hp => ?_⟩
  have n2 := Nw.new (o := .lst vs) n1.bh hp
  exact q _ _ _ (n1.trans n2) (.lst upd_same (r1.up n2.bb))

/-! ### subscripts -/
theorem ev_ix {i : Int} {j : Nat} (ha : Ev X a σ B d) (hb : Ev X b σ B (.int i)) (hi : i = (j : Int)) (hd : items d = some ds) (hj : ds[j]? = some d1) (hs : PlainIx b := by exact fun _ _ => rfl) : Ev X (.Subscript a b pos) σ B d1 := fun H x Q q => by
  subst hi
  have fin : ∀ {v1 : V} {B2 H2 : Hp}, Nw B H B2 H2 → Rp B2 v1 d → ∃ p xs u, v1 = .ref p ∧ (B2 p = some (.lst xs) ∨ B2 p = some (.tup xs)) ∧ xs[j]? = some u ∧ Rp B2 u d1 := fun {v1 B2 H2} n r => by
    cases r with
    | lst h1 h2 =>
      cases hd
      obtain ⟨u, e1, e2⟩ := h2.get hj
      exact ⟨_, _, u, rfl, .inl h1, e1, e2⟩
    | tup h1 h2 =>
      cases hd
      obtain ⟨u, e1, e2⟩ := h2.get hj
      exact ⟨_, _, u, rfl, .inr h1, e1, e2⟩
    | _ => cases hd
  refine ⟨tOp (fun x y H Q => ∃ p xs u, x = .ref p ∧ y = .int (j : Int) ∧ (H p = some (.lst xs) ∨ H p = some (.tup xs)) ∧ xs[j]? = some u ∧ Q u H) (We X a) (We X b), fun i => pe_ix (fun value slice pins s σ H x y v u Q I rx ry h hs => ?_) (We.pe i) (We.pe i) hs, ?_⟩
  · obtain ⟨p, xs, u', rfl, rfl, h1 | h1, h2, q⟩ := h
    · exact ix_list value slice pins s σ H _ _ v u Q I rx ry ⟨p, xs, _, u', rfl, rfl, SqL.of h1, atI_nat h2, q⟩ hs
    · exact ix_tup value slice pins s σ H _ _ v u Q I rx ry ⟨p, xs, _, u', rfl, rfl, SqT.of h1, atI_nat h2, q⟩ hs
  · refine ha H x _ fun v1 B1 H1 n1 r1 => ?_
    refine hb.mono n1.bb H1 n1.bh _ fun v2 B2 H2 n2 r2 => ?_
    cases r2
    obtain ⟨p, xs, u, rfl, h1, h2, h3⟩ := fin (n1.trans n2) (r1.up n2.bb)
    refine ⟨p, xs, u, rfl, rfl, ?_, h2, q u B2 H2 (n1.trans n2) h3⟩
    rcases h1 with h1 | h1
    · exact .inl (n2.bh _ _ h1)
    · exact .inr (n2.bh _ _ h1)
end
end Lay
end

section
set_option Elab.async false
set_option linter.all false
set_option maxRecDepth 100000
set_option maxHeartbeats 1000000
namespace Lay
open PySem PySem.Spec PyProof.Rows L2
section
variable {ι : Type} {X : ι → Cx} {P : Program} {w : World} {K : PySem.W.Frag} {mg : Str → Option Value} {base : Heap} {N : List Str} {sc : Scope} {own : Str → Bool} {k : Nat}
variable {e a b c : Expr} {es : List Expr} {σ : L2.St} {B B' H H' : Hp} {d d1 d2 d3 : PyData} {ds : List PyData} {pos p : Pos} {v : V}

/-! ### calls of built-ins -/
def C1 (X : ι → Cx) (f : Value) (ds : List PyData) (d : PyData) : Prop := ∃ r : List V → Hp → VK → Prop, (∀ i, CallR (X i) f r) ∧ ∀ B H vs, Ex B H → RpAll B vs ds → ∀ Q : VK, (∀ v B' H', Nw B H B' H' → Rp B' v d → Q v H') → r vs H Q
theorem ev_callB (F : Fx X P w K mg base N sc own k) {x : Str} {id : String} (o : C1 X (.builtin id) ds d) (ha : Ea X (e :: es) σ B ds) (hm : mg x = none) (hv : bootBuiltins x = some (.builtin id) := by first | exact boot_len | decide +kernel) (hg : sc.names.lookup x = some .globalImplicit := by rfl)
    (hn : x ≠ "__name__" := by decide) (hdb : (x == ("__debug__" : Str)) = false := by decide) (he : ∀ env, starEach (e :: es) env = (false, eval e env) :: starEach es env := by intro _; rfl) (hpl : ∀ env, (backTo pos (starEach es env)).any (·.1) = false := by intro _; rfl) :
    Ev X (.Call (.Name x p) (e :: es) [] pos) σ B d := fun H z Q q => by
  obtain ⟨r, ho, hr⟩ := o
  refine ⟨tCB r (Wa X (e :: es)), fun i => pe_callB (ho i) (F.gl hg i) (by rw [F.hmg i]; exact hm) hv (Wa.pa i) hn hdb (he _) (hpl _), ?_⟩
  refine ha H z _ fun vs B1 H1 n1 r1 => ?_
  exact hr B1 H1 vs n1.bh r1 Q fun v B2 H2 n2 r2 => q v B2 H2 (n1.trans n2) r2
theorem ev_callTy (F : Fx X P w K mg base N sc own k) {x : Str} {id : String} (o : C1 X (.type id) ds d) (ha : Ea X (e :: es) σ B ds) (hm : mg x = none) (hv : bootBuiltins x = some (.type id) := by decide +kernel) (hg : sc.names.lookup x = some .globalImplicit := by rfl)
    (hn : x ≠ "__name__" := by decide) (hdb : (x == ("__debug__" : Str)) = false := by decide) (he : ∀ env, starEach (e :: es) env = (false, eval e env) :: starEach es env := by intro _; rfl) (hpl : ∀ env, (backTo pos (starEach es env)).any (·.1) = false := by intro _; rfl) :
    Ev X (.Call (.Name x p) (e :: es) [] pos) σ B d := fun H z Q q => by
  obtain ⟨r, ho, hr⟩ := o
  refine ⟨tCB r (Wa X (e :: es)), fun i => pe_callTy (ho i) (F.gl hg i) (by rw [F.hmg i]; exact hm) hv (Wa.pa i) hn hdb (he _) (hpl _), ?_⟩
  refine ha H z _ fun vs B1 H1 n1 r1 => ?_
  exact hr B1 H1 vs n1.bh r1 Q fun v B2 H2 n2 r2 => q v B2 H2 (n1.trans n2) r2
theorem Rp.ref {B : Hp} {v : V} {d : PyData} {ds : List PyData} (r : Rp B v d) (h : items d = some ds) : ∃ p xs, v = .ref p ∧ (B p = some (.lst xs) ∧ d = .list ds ∨ B p = some (.tup xs) ∧ d = .tuple ds) ∧ RpAll B xs ds := by
  cases r with
  | lst h1 h2 => cases h; exact ⟨_, _, rfl, .inl ⟨h1, rfl⟩, h2⟩
  | tup h1 h2 => cases h; exact ⟨_, _, rfl, .inr ⟨h1, rfl⟩, h2⟩
  | _ => cases h
theorem c_len (F : Fx X P w K mg base N sc own k) (h : items d = some ds) : C1 X (.builtin "len") [d] (.int (ds.length : Nat)) :=
  ⟨fun xs H Q => ∃ p ys, xs = [.ref p] ∧ (SqL K H p ys ∨ SqT K H p ys) ∧ Q (.int ys.length) H, fun i => by have h := call_len_seq (X := X i); rw [F.hK i] at h; exact h, fun B H vs x r Q q => by
    cases r with
    | cons r1 r2 =>
      cases r2
      obtain ⟨p, xs, rfl, h1, h2⟩ := r1.ref h
      refine ⟨p, xs, rfl, ?_, ?_⟩
      · rcases h1 with ⟨h1, _⟩ | ⟨h1, _⟩
        · exact .inl (SqL.of (x _ _ h1))
        · exact .inr (SqT.of (x _ _ h1))
      · rw [h2.length]
        exact q _ B H (Nw.refl x) (.int _)⟩
theorem c_abs {i : Int} : C1 X (.builtin "abs") [.int i] (.int (if i < 0 then -i else i)) :=
  ⟨_, fun _ => call_abs, fun B H vs x r Q q => by
    cases r with
    | cons r1 r2 => cases r1; cases r2; exact ⟨i, rfl, q _ B H (Nw.refl x) (.int _)⟩⟩
theorem c_max2 (F : Fx X P w K mg base N sc own k) {i j : Int} : C1 X (.builtin "max") [.int i, .int j] (.int (if j > i then j else i)) :=
  ⟨_, fun y => call_max2 (F.calm y), fun B H vs x r Q q => by
    obtain ⟨v, u, rfl, r1, r2⟩ := r.two
    cases r1; cases r2
    exact ⟨i, j, rfl, q _ B H (Nw.refl x) (.int _)⟩⟩
theorem c_int {i : Int} : C1 X (.type "int") [.int i] (.int i) :=
  ⟨_, fun _ => call_int1, fun B H vs x r Q q => by
    cases r with
    | cons r1 r2 => cases r1; cases r2; exact .inl ⟨i, rfl, q _ B H (Nw.refl x) (.int _)⟩⟩
theorem c_intB {y : Bool} : C1 X (.type "int") [.bool y] (.int (if y then 1 else 0)) :=
  ⟨_, fun _ => call_int1, fun B H vs x r Q q => by
    cases r with
    | cons r1 r2 => cases r1; cases r2; exact .inr ⟨y, rfl, q _ B H (Nw.refl x) (.int _)⟩⟩
theorem c_min (F : Fx X P w K mg base N sc own k) {ns : List Int} {m : Int} (h : m ∈ ns) (hm : ∀ y ∈ ns, m ≤ y) : C1 X (.builtin "min") [.list (ns.map PyData.int)] (.int m) :=
  ⟨rMin K, fun y => by have h := cr_min (X := X y) (F.calm y); rw [F.hK y] at h; exact h, fun B H vs x r Q q => by
    cases r with
    | cons r1 r2 =>
      cases r2
      cases r1 with
      | @lst a xs _ h1 h2 =>
        have e := RpAll.ints_inv h2
        subst e
        refine ⟨a, ns, rfl, SqL.of (x _ _ h1), List.length_pos_of_mem h, fun m' hm' hle => ?_⟩
        have : m' = m := Int.le_antisymm (hle m h) (hm m' hm')
        subst this
        exact q _ B H (Nw.refl x) (.int _)⟩
theorem c_max (F : Fx X P w K mg base N sc own k) {ns : List Int} {m : Int} (h : m ∈ ns) (hm : ∀ y ∈ ns, y ≤ m) : C1 X (.builtin "max") [.list (ns.map PyData.int)] (.int m) :=
  ⟨rMax K, fun y => by have h := cr_max (X := X y) (F.calm y); rw [F.hK y] at h; exact h, fun B H vs x r Q q => by
    cases r with
    | cons r1 r2 =>
      cases r2
      cases r1 with
      | @lst a xs _ h1 h2 =>
        have e := RpAll.ints_inv h2
        subst e
        refine ⟨a, ns, rfl, SqL.of (x _ _ h1), List.length_pos_of_mem h, fun m' hm' hle => ?_⟩
        have : m' = m := Int.le_antisymm (hm m' hm') (hle m h)
        subst this
        exact q _ B H (Nw.refl x) (.int _)⟩
theorem c_all (F : Fx X P w K mg base N sc own k) {bs : List Bool} : C1 X (.builtin "all") [.list (bs.map PyData.bool)] (.bool (bs.all id)) :=
  ⟨rAll K, fun y => by have h := cr_all (X := X y) (F.calm y); rw [F.hK y] at h; exact h, fun B H vs x r Q q => by
    cases r with
    | cons r1 r2 =>
      cases r2
      cases r1 with
      | @lst a xs _ h1 h2 =>
        have e := RpAll.bools_inv h2
        subst e
        exact ⟨a, bs, rfl, SqL.of (x _ _ h1), q _ B H (Nw.refl x) (.bl _)⟩⟩
/-- list(x), tuple(x) of a list or tuple of data -/
theorem c_list (F : Fx X P w K mg base N sc own k) (h : items d = some ds) : C1 X (.type "list") [d] (.list ds) :=
  ⟨fun xs H Q => ∃ p ys, xs = [.ref p] ∧ (SqL K H p ys ∨ SqT K H p ys) ∧ ∀ l, H l = none → Q (.ref l) (upd H l (.lst ys)), fun y => by have h := call_list_of (X := X y); rw [F.hK y] at h; exact h, fun B H vs x r Q q => by
    cases r with
    | cons r1 r2 =>
      cases r2
      obtain ⟨p, xs, rfl, h1, h2⟩ := r1.ref h
      refine ⟨p, xs, rfl, ?_, fun l hl => ?_⟩
      · rcases h1 with ⟨h1, _⟩ | ⟨h1, _⟩
        · exact .inl (SqL.of (x _ _ h1))
        · exact .inr (SqT.of (x _ _ h1))
      · have n := Nw.new (o := .lst xs) x hl
        exact q _ _ _ n (.lst upd_same (h2.up n.bb))⟩
theorem c_tuple (F : Fx X P w K mg base N sc own k) : C1 X (.type "tuple") [.list ds] (.tuple ds) :=
  ⟨fun xs H Q => ∃ p ys, xs = [.ref p] ∧ ((SqL K H p ys ∧ ∀ l, H l = none → Q (.ref l) (upd H l (.tup ys))) ∨ (SqT K H p ys ∧ Q (.ref p) H)), fun y => by have h := call_tuple_of (X := X y); rw [F.hK y] at h; exact h, fun B H vs x r Q q => by
    cases r with
    | cons r1 r2 =>
      cases r2
      cases r1 with
      | @lst a xs _ h1 h2 =>
        refine ⟨a, xs, rfl, .inl ⟨SqL.of (x _ _ h1), fun l hl => ?_⟩⟩
        have n := Nw.new (o := .tup xs) x hl
        exact q _ _ _ n (.tup upd_same (h2.up n.bb))⟩

/-! ### calls of defs -/
/-- a def of the text and its promise -/
structure Fn (P : Program) (w : World) (K : PySem.W.Frag) (mg : Str → Option Value) (base : Heap) (x : Str) (j : Nat) (ps : List Str) (sp : Sp) : Prop where
  ex : ∃ (f : Addr) (fd : FuncData), FnOk P w K mg base CX0 j f fd ps sp ∧ mg x = some (.ref f) ∧ PySem.W.keepIn K (.ref f) = true ∧ Binds K fd ps []
theorem we_call (F : Fx X P w K mg base N sc own k) {x : Str} {j : Nat} {ps : List Str} {sp : Sp} (G : Fn P w K mg base x j ps sp) (hj : j ≤ k) {Q : VK} (h : Wa X (e :: es) σ H fun vs H1 => sp vs H1 Q E0) (hg : sc.names.lookup x = some .globalImplicit := by rfl)
    (hdb : (x == ("__debug__" : Str)) = false := by decide) (he : ∀ env, starEach (e :: es) env = (false, eval e env) :: starEach es env := by intro _; rfl) (hpl : ∀ env, (backTo pos (starEach es env)).any (·.1) = false := by intro _; rfl) : We X (.Call (.Name x p) (e :: es) [] pos) σ H Q := by
  obtain ⟨f, fd, G, hm, hk, hb⟩ := G.ex
  refine ⟨tCall sp [] E0 (Wa X (e :: es)), fun i => ?_, ?_⟩
  · refine pe_call (ds := []) ?_ ((F.room i).mono hj) (F.gl hg i) (by rw [F.hmg i]; exact hm) (by rw [F.hK i]; exact hk) (by rw [F.hK i]; exact hb) .nil pass0 (Wa.pa i) hdb (he _) (hpl _)
    rw [F.hP i, F.hw i, F.hK i, F.hmg i, F.hbase i]
    exact G
  · unfold tCall
    simp only [List.append_nil]
    exact h
theorem we_call0 (F : Fx X P w K mg base N sc own k) {x : Str} {j : Nat} {ps : List Str} {sp : Sp} (G : Fn P w K mg base x j ps sp) (hj : j ≤ k) {Q : VK} (h : sp [] H Q E0) (hg : sc.names.lookup x = some .globalImplicit := by rfl)
    (hdb : (x == ("__debug__" : Str)) = false := by decide) : We X (.Call (.Name x p) [] [] pos) σ H Q := by
  obtain ⟨f, fd, G, hm, hk, hb⟩ := G.ex
  refine ⟨tCall sp [] E0 tNil, fun i => ?_, ?_⟩
  · refine pe_call0 (ds := []) ?_ ((F.room i).mono hj) (F.gl hg i) (by rw [F.hmg i]; exact hm) (by rw [F.hK i]; exact hk) (by rw [F.hK i]; exact hb) .nil pass0 hdb
    rw [F.hP i, F.hw i, F.hK i, F.hmg i, F.hbase i]
    exact G
  · exact h
/-- the promise of a def upon data: R tells what comes of what -/
def spD (R : List PyData → PyData → Prop) : Sp := fun vs H Q _ => ∃ B ds d, Ex B H ∧ RpAll B vs ds ∧ R ds d ∧ ∀ v B' H', Nw B H B' H' → Rp B' v d → Q v H'
theorem ev_call (F : Fx X P w K mg base N sc own k) {x : Str} {j : Nat} {ps : List Str} {R : List PyData → PyData → Prop} (G : Fn P w K mg base x j ps (spD R)) (ha : Ea X (e :: es) σ B ds) (hR : R ds d) (hj : j ≤ k := by omega) (hg : sc.names.lookup x = some .globalImplicit := by rfl)
    (hdb : (x == ("__debug__" : Str)) = false := by decide) (he : ∀ env, starEach (e :: es) env = (false, eval e env) :: starEach es env := by intro _; rfl) (hpl : ∀ env, (backTo pos (starEach es env)).any (·.1) = false := by intro _; rfl) : Ev X (.Call (.Name x p) (e :: es) [] pos) σ B d := fun H z Q q => by
  refine we_call F G hj (ha H z _ fun vs B1 H1 n1 r1 => ?_) hg hdb he hpl
  exact ⟨B1, ds, d, n1.bh, r1, hR, fun v B2 H2 n2 r2 => q v B2 H2 (n1.trans n2) r2⟩
/-- THE RULE for a def upon data -/
theorem fn_data {x qual : Str} {st : Stmt} {f : Addr} {fd : FuncData} {ps : List Str} {R : List PyData → PyData → Prop} (F : Fun K x qual st f fd) (S : FnScope N ps (defScope st)) (hm : mg x = some (.ref f)) (hb : Binds K fd ps [])
    (len : ∀ ds d, R ds d → ds.length = ps.length)
    (body : ∀ (X : Unit → Cx), Fx X P w K mg base N (defScope st) (fun _ => true) k → ∀ (vs : List V) (ds : List PyData) (d : PyData) (B H : Hp) (D : Ends), Ex B H → RpAll B vs ds → R ds d → (∀ v B' H', Nw B H B' H' → Rp B' v d → D.rt v H') → (∀ σ' H', D.nx σ' H' = D.rt .non H') → Ws X (defBody st) D (start N vs) H) :
    Fn P w K mg base x (k + 1) ps (spD R) := by
  refine ⟨f, fd, F.ok S (fun vs H Q E h => ?_) (fun cdv A outer s H vs Q E hr h => ?_), hm, F.kp, hb⟩
  · obtain ⟨B, ds, d, _, ra, hR, _⟩ := h
    rw [ra.length]
    exact len ds d hR
  · obtain ⟨B, ds, d, eB, ra, hR, q⟩ := h
    have FX : Fx (fun _ : Unit => (cxOf CX0 P w K mg base N qual (defScope st) f cdv A outer s H E).nox) P w K mg base N (defScope st) (fun _ => true) k :=
      ⟨fun _ => rfl, fun _ => rfl, fun _ => rfl, fun _ => rfl, fun _ => rfl, fun _ => rfl, S.nd, fun _ => rfl, fun _ => rfl, fun _ => hr, fun _ => .never, fun _ _ _ => rfl⟩
    obtain ⟨t, ht, hq⟩ := body _ FX vs ds d B H { nx := fun _ H' => Q .non H', rt := Q } eB ra hR (fun v B' H' n r => q v B' H' n r) (fun _ _ => rfl)
    exact ⟨t, ht (), hq⟩
/-- .. with any promise -/
theorem fn_any {x qual : Str} {st : Stmt} {f : Addr} {fd : FuncData} {ps : List Str} {sp : Sp} (F : Fun K x qual st f fd) (S : FnScope N ps (defScope st)) (hm : mg x = some (.ref f)) (hb : Binds K fd ps [])
    (len : ∀ vs H Q E, sp vs H Q E → vs.length = ps.length)
    (body : ∀ (X : Unit → Cx), Fx X P w K mg base N (defScope st) (fun _ => true) k → ∀ (vs : List V) (H : Hp) (Q : VK) (E : XK), sp vs H Q E → Ws X (defBody st) { nx := fun _ H' => Q .non H', rt := Q } (start N vs) H) :
    Fn P w K mg base x (k + 1) ps sp := by
  refine ⟨f, fd, F.ok S len (fun cdv A outer s H vs Q E hr h => ?_), hm, F.kp, hb⟩
  have FX : Fx (fun _ : Unit => (cxOf CX0 P w K mg base N qual (defScope st) f cdv A outer s H E).nox) P w K mg base N (defScope st) (fun _ => true) k :=
    ⟨fun _ => rfl, fun _ => rfl, fun _ => rfl, fun _ => rfl, fun _ => rfl, fun _ => rfl, S.nd, fun _ => rfl, fun _ => rfl, fun _ => hr, fun _ => .never, fun _ _ _ => rfl⟩
  obtain ⟨t, ht, hq⟩ := body _ FX vs H Q E h
  exact ⟨t, ht (), hq⟩

/-! ### targets -/
theorem wg_name (F : Fx X P w K mg base N sc own k) (i : Nat) {x : Str} {Q : L2.St → Hp → Prop} (q : Q (σ.set i (some v)) H) (hN : N[i]? = some x := by rfl) (hx : Loc sc x := by first | exact Or.inl rfl | exact Or.inr rfl)
    (ho : own x = true ∨ sc.names.lookup x = some .local := by first | exact .inl rfl | exact .inr rfl) : Wg X (.Name x pos) v σ H Q :=
  ⟨gName i, fun j => pg_name (F.nd' j) (by rw [F.hN j]; exact hN) (by rw [F.hsc j]; exact hx) (F.own' ho j), q⟩
theorem wg_tup2 (F : Fx X P w K mg base N sc own k) {t1 t2 : Expr} {kk : Nat} {Q : L2.St → Hp → Prop} (r : Rp B v (.tuple [d1, d2])) (x : Ex B H)
    (q : ∀ v1 v2, Rp B v1 d1 → Rp B v2 d2 → Wg X t1 v1 σ H fun σ' H' => Wg X t2 v2 σ' H' Q)
    (h1 : ∀ env, (assignEach [t1, t2] env).map (·.2) = assign t1 env :: (assignEach [t2] env).map (·.2) := by intro _; rfl) (h2 : ∀ env, (assignEach [t2] env).map (·.2) = assign t2 env :: (assignEach [] env).map (·.2) := by intro _; rfl)
    (hn : ∀ env, (assignEach [t1, t2] env).length = 2 := by intro _; rfl) (hst : ∀ env, (assignEach [t1, t2] env).findIdx? (·.1) = none := by intro _; rfl) : Wg X (.Tuple [t1, t2] kk pos) v σ H Q := by
  refine ⟨gTup K 2 (gCons (Wg X t1) (gCons (Wg X t2) gNil)), fun j => ?_, ?_⟩
  · have h := pg_tup (X := X j) (pos := pos) (k := kk) (F.calm j) (pgs_cons (Wg.pg (X := X) (tg := t1) j) (pgs_cons (Wg.pg (X := X) (tg := t2) j) pgs_nil (h2 _)) (h1 _)) (hn _) (hst _)
    rw [F.hK j] at h
    exact h
  · cases r with
    | @tup a xs _ h1 h2 =>
      obtain ⟨v1, v2, rfl, r1, r2⟩ := h2.two
      refine ⟨a, _, rfl, SqT.of (x _ _ h1), rfl, v1, [v2], rfl, ?_⟩
      obtain ⟨t, ht, hq⟩ := q v1 v2 r1 r2
      refine ⟨t, ht, ?_⟩
      -- what is behind the first: weaken
      have : (fun σ' H' => Wg X t2 v2 σ' H' Q) = (fun σ' H' => gCons (Wg X t2) gNil [v2] σ' H' Q) := by
        funext σ' H'
        apply propext
        constructor
        · rintro ⟨t', ht', hq'⟩
          refine ⟨v2, [], rfl, t', ht', ?_⟩
          have e : (fun σ'' H'' => gNil [] σ'' H'' Q) = Q := by
            funext σ'' H''
            apply propext
            exact ⟨fun z => z.2, fun z => ⟨rfl, z⟩⟩
          rw [e]
          exact hq'
        · rintro ⟨v', r', e, t', ht', hq'⟩
          cases e
          refine ⟨t', ht', ?_⟩
          have e : (fun σ'' H'' => gNil [] σ'' H'' Q) = Q := by
            funext σ'' H''
            apply propext
            exact ⟨fun z => z.2, fun z => ⟨rfl, z⟩⟩
          rw [e] at hq'
          exact hq'
      rw [← this]
      exact hq
theorem wg_tup3 (F : Fx X P w K mg base N sc own k) {t1 t2 t3 : Expr} {kk : Nat} {Q : L2.St → Hp → Prop} (r : Rp B v (.tuple [d1, d2, d3])) (x : Ex B H)
    (q : ∀ v1 v2 v3, Rp B v1 d1 → Rp B v2 d2 → Rp B v3 d3 → Wg X t1 v1 σ H fun σ' H' => Wg X t2 v2 σ' H' fun σ'' H'' => Wg X t3 v3 σ'' H'' Q)
    (h1 : ∀ env, (assignEach [t1, t2, t3] env).map (·.2) = assign t1 env :: (assignEach [t2, t3] env).map (·.2) := by intro _; rfl) (h2 : ∀ env, (assignEach [t2, t3] env).map (·.2) = assign t2 env :: (assignEach [t3] env).map (·.2) := by intro _; rfl)
    (h3 : ∀ env, (assignEach [t3] env).map (·.2) = assign t3 env :: (assignEach [] env).map (·.2) := by intro _; rfl)
    (hn : ∀ env, (assignEach [t1, t2, t3] env).length = 3 := by intro _; rfl) (hst : ∀ env, (assignEach [t1, t2, t3] env).findIdx? (·.1) = none := by intro _; rfl) : Wg X (.Tuple [t1, t2, t3] kk pos) v σ H Q := by
  have en : ∀ Q : L2.St → Hp → Prop, (fun σ'' H'' => gNil [] σ'' H'' Q) = Q := fun Q => by
    funext σ'' H''
    apply propext
    exact ⟨fun z => z.2, fun z => ⟨rfl, z⟩⟩
  have ec : ∀ (t : TG) (u : TGs) (y : V) (r : List V) (Q : L2.St → Hp → Prop), (fun σ' H' => gCons t u (y :: r) σ' H' Q) = (fun σ' H' => t y σ' H' fun σ'' H'' => u r σ'' H'' Q) := fun t u y r Q => by
    funext σ' H'
    apply propext
    constructor
    · rintro ⟨v', r', e, h⟩
      cases e
      exact h
    · intro h
      exact ⟨y, r, rfl, h⟩
  refine ⟨gTup K 3 (gCons (Wg X t1) (gCons (Wg X t2) (gCons (Wg X t3) gNil))), fun j => ?_, ?_⟩
  · have h := pg_tup (X := X j) (pos := pos) (k := kk) (F.calm j) (pgs_cons (Wg.pg (X := X) (tg := t1) j) (pgs_cons (Wg.pg (X := X) (tg := t2) j) (pgs_cons (Wg.pg (X := X) (tg := t3) j) pgs_nil (h3 _)) (h2 _)) (h1 _)) (hn _) (hst _)
    rw [F.hK j] at h
    exact h
  · cases r with
    | @tup a xs _ h1 h2 =>
      obtain ⟨v1, v2, v3, rfl, r1, r2, r3⟩ := h2.three
      refine ⟨a, _, rfl, SqT.of (x _ _ h1), rfl, v1, [v2, v3], rfl, ?_⟩
      rw [ec]
      rw [ec]
      rw [en]
      exact q v1 v2 v3 r1 r2 r3
end
end Lay
end

section
set_option Elab.async false
set_option linter.all false
set_option maxRecDepth 100000
set_option maxHeartbeats 1000000
namespace Lay
open PySem PySem.Spec PyProof.Rows L2

/-! ### what is walked -/
/-- J gives the data ds, one a turn, while B stands -/
structure Drives (J : It) (B : Hp) (ds : List PyData) : Prop where
  go : ∀ i H, Ex B H → i < ds.length → J.go i H
  yld : ∀ i d, ds[i]? = some d → ∀ H x H', Ex B H → J.yld i H x H' → ∀ B', Ex B B' → Ex B' H → ∃ B'', Nw B' H B'' H' ∧ Rp B'' x d
  stop : ∀ i H, Ex B H → ds.length ≤ i → J.stop i H
section
variable {ι : Type} {X : ι → Cx} {P : Program} {w : World} {K : PySem.W.Frag} {mg : Str → Option Value} {base : Heap} {N : List Str} {sc : Scope} {own : Str → Bool} {k : Nat}
variable {e a b c tg iter : Expr} {es : List Expr} {σ : L2.St} {B B' H H' : Hp} {d d1 d2 d3 : PyData} {ds : List PyData} {pos p : Pos} {v : V} {D : Ends} {rest : List Stmt}
def Ei (X : ι → Cx) (tg iter : Expr) (σ : L2.St) (B : Hp) (ds : List PyData) : Prop := ∀ H, Ex B H → ∀ R : It → Hp → Prop, (∀ J B1 H1, Nw B H B1 H1 → Drives J B1 ds → R J H1) → Wi X tg iter σ H R
theorem drives_list {B : Hp} {a : Addr} {xs : List V} (h : B a = some (.lst xs)) (r : RpAll B xs ds) : Drives (Itl K a) B ds where
  go := fun i H x hi => by
    obtain ⟨d, hd⟩ : ∃ d, ds[i]? = some d := ⟨_, List.getElem?_eq_getElem hi⟩
    obtain ⟨v, hv, _⟩ := r.get hd
    exact ⟨xs, v, SqL.of (x _ _ h), hv⟩
  yld := fun i d hd H y H' x hy B' b1 b2 => by
    obtain ⟨rfl, hy⟩ := hy
    obtain ⟨d', e1, e2⟩ := r.getV (hy xs (SqL.of (x _ _ h)))
    rw [hd] at e1
    cases e1
    exact ⟨B', Nw.refl b2, e2.up b1⟩
  stop := fun i H x hi => ⟨xs, SqL.of (x _ _ h), by rw [r.length]; exact hi⟩
theorem drives_tup {B : Hp} {a : Addr} {xs : List V} (h : B a = some (.tup xs)) (r : RpAll B xs ds) : Drives (Itt K a) B ds where
  go := fun i H x hi => by
    obtain ⟨d, hd⟩ : ∃ d, ds[i]? = some d := ⟨_, List.getElem?_eq_getElem hi⟩
    obtain ⟨v, hv, _⟩ := r.get hd
    exact ⟨xs, v, SqT.of (x _ _ h), hv⟩
  yld := fun i d hd H y H' x hy B' b1 b2 => by
    obtain ⟨rfl, hy⟩ := hy
    obtain ⟨d', e1, e2⟩ := r.getV (hy xs (SqT.of (x _ _ h)))
    rw [hd] at e1
    cases e1
    exact ⟨B', Nw.refl b2, e2.up b1⟩
  stop := fun i H x hi => ⟨xs, SqT.of (x _ _ h), by rw [r.length]; exact hi⟩
theorem ei_list (F : Fx X P w K mg base N sc own k) (h : Ev X iter σ B (.list ds)) : Ei X tg iter σ B ds := fun H x R q => by
  refine ⟨iList K (We X iter), fun i => ?_, ?_⟩
  · have h := pi_list (X := X i) (tg := tg) (We.pe (X := X) (e := iter) i)
    rw [F.hK i] at h
    exact h
  · refine h H x _ fun v B1 H1 n1 r1 => ?_
    cases r1 with
    | @lst a xs _ h1 h2 => exact ⟨a, rfl, ⟨xs, SqL.of (n1.bh _ _ h1)⟩, q _ B1 H1 n1 (drives_list h1 h2)⟩
theorem ei_tup (F : Fx X P w K mg base N sc own k) (h : Ev X iter σ B (.tuple ds)) : Ei X tg iter σ B ds := fun H x R q => by
  refine ⟨iTup K (We X iter), fun i => ?_, ?_⟩
  · have h := pi_tup (X := X i) (tg := tg) (We.pe (X := X) (e := iter) i)
    rw [F.hK i] at h
    exact h
  · refine h H x _ fun v B1 H1 n1 r1 => ?_
    cases r1 with
    | @tup a xs _ h1 h2 => exact ⟨a, rfl, ⟨xs, SqT.of (n1.bh _ _ h1)⟩, q _ B1 H1 n1 (drives_tup h1 h2)⟩
/-- a list or a tuple -/
theorem ei_seq (F : Fx X P w K mg base N sc own k) (h : Ev X iter σ B d) (hd : items d = some ds) : Ei X tg iter σ B ds := by
  cases d with
  | list _ => cases hd; exact ei_list F h
  | tuple _ => cases hd; exact ei_tup F h
  | _ => cases hd
def rngD (lo : Int) (n : Nat) : List PyData := (List.range n).map fun i => .int (lo + (i : Nat))
theorem drives_rng {lo : Int} {n : Nat} : Drives (Itr lo n) B (rngD lo n) where
  go := fun i H _ hi => by
    show i < n
    unfold rngD at hi
    rw [List.length_map, List.length_range] at hi
    exact hi
  yld := fun i d hd H y H' x hy B' b1 b2 => by
    obtain ⟨rfl, rfl⟩ := hy
    have hi : i < n := by
      have := (List.getElem?_eq_some_iff.mp hd).1
      unfold rngD at this
      rwa [List.length_map, List.length_range] at this
    unfold rngD at hd
    rw [List.getElem?_map, List.getElem?_range hi] at hd
    cases hd
    exact ⟨B', Nw.refl b2, .int _⟩
  stop := fun i H _ hi => by
    show n ≤ i
    unfold rngD at hi
    rw [List.length_map, List.length_range] at hi
    exact hi

theorem ei_range1 (F : Fx X P w K mg base N sc own k) {n : Int} (h : Ev X a σ B (.int n)) (hm : mg "range" = none) (h0 : -1000000 ≤ n ∧ n ≤ 1000000) (hg : sc.names.lookup ("range" : Str) = some .globalImplicit := by rfl) (hs : ∀ env, starEach [a] env = [(false, eval a env)] := by intro _; rfl) :
    Ei X tg (.Call (.Name "range" p) [a] [] pos) σ B (rngD 0 n.toNat) := fun H x R q => by
  refine ⟨iRng1 (Wa X [a]), fun i => pi_range1 (F.gl hg i) (by rw [F.hmg i]; exact hm) (Wa.pa i) (hs _), ?_⟩
  refine ea_cons h ea_nil (fun env => by rw [hs]; rfl) H x _ fun vs B1 H1 n1 r1 => ?_
  cases r1 with
  | cons r1 r2 =>
    cases r2
    cases r1
    exact ⟨n, rfl, by omega, by omega, q _ B1 H1 n1 drives_rng⟩
theorem ei_range2 (F : Fx X P w K mg base N sc own k) {lo n : Int} (h : Ev X a σ B (.int lo)) (h' : Ev X b σ B (.int n)) (hm : mg "range" = none) (h0 : -1000000 ≤ n ∧ n ≤ 1000000) (h1 : -1000000 ≤ lo ∧ lo ≤ 1000000) (hg : sc.names.lookup ("range" : Str) = some .globalImplicit := by rfl)
    (hs : ∀ env, starEach [a, b] env = [(false, eval a env), (false, eval b env)] := by intro _; rfl) (hs2 : ∀ env, starEach [b] env = [(false, eval b env)] := by intro _; rfl) :
    Ei X tg (.Call (.Name "range" p) [a, b] [] pos) σ B (rngD lo (n - lo).toNat) := fun H x R q => by
  refine ⟨iRng2 (Wa X [a, b]), fun i => pi_range2 (F.gl hg i) (by rw [F.hmg i]; exact hm) (Wa.pa i) (hs _) (hs2 _), ?_⟩
  refine ea_cons h (ea_cons h' ea_nil (fun env => by rw [hs2]; rfl)) (fun env => by rw [hs, hs2]) H x _ fun vs B1 H1 n1 r1 => ?_
  obtain ⟨v, u, rfl, r1, r2⟩ := r1.two
  cases r1; cases r2
  exact ⟨lo, n, rfl, by omega, q _ B1 H1 n1 drives_rng⟩
/-- zip of two lists -/
theorem ei_zip (F : Fx X P w K mg base N sc own k) {xs ys : List PyData} {elts : List Expr} {kk : Nat} {tpos : Pos} (h : Ev X a σ B (.list xs)) (h' : Ev X b σ B (.list ys)) (hm : mg "zip" = none) (hg : sc.names.lookup ("zip" : Str) = some .globalImplicit := by rfl)
    (hs : ∀ env, starEach [a, b] env = (false, eval a env) :: starEach [b] env := by intro _; rfl) (hpl : ∀ env, (backTo pos (starEach [b] env)).any (·.1) = false := by intro _; rfl) (hs2 : ∀ env, starEach [b] env = (false, eval b env) :: starEach [] env := by intro _; rfl) :
    Ei X (.Tuple elts kk tpos) (.Call (.Name "zip" p) [a, b] [] pos) σ B ((xs.zip ys).map fun z => .tuple [z.1, z.2]) := fun H x R q => by
  refine ⟨iZip K (Wa X [a, b]), fun i => ?_, ?_⟩
  · have h := pi_zip (X := X i) (p := p) (pos := pos) (tpos := tpos) (elts := elts) (kk := kk) (F.gl hg i) (by rw [F.hmg i]; exact hm) (Wa.pa (X := X) (es := [a, b]) i) (hs _) (hpl _)
    rw [F.hK i] at h
    exact h
  · refine ea_cons h (ea_cons h' ea_nil hs2) hs H x _ fun vs B1 H1 n1 r1 => ?_
    obtain ⟨v, u, rfl, r1, r2⟩ := r1.two
    cases r1 with
    | @lst a1 xs1 _ h1 g1 =>
      cases r2 with
      | @lst a2 xs2 _ h2 g2 =>
        refine ⟨a1, a2, xs1, xs2, rfl, SqL.of (n1.bh _ _ h1), SqL.of (n1.bh _ _ h2), q _ B1 H1 n1 ⟨fun i H' e' hi => ?_, fun i d hd H' y H'' e' hy B' b1 b2 => ?_, fun i H' e' hi => ?_⟩⟩
        · rw [List.length_map, List.length_zip] at hi
          obtain ⟨v, hv, _⟩ := g1.get (List.getElem?_eq_getElem (show i < xs.length by omega))
          obtain ⟨u, hu, _⟩ := g2.get (List.getElem?_eq_getElem (show i < ys.length by omega))
          exact ⟨xs1, xs2, v, u, SqL.of (e' _ _ h1), SqL.of (e' _ _ h2), hv, hu⟩
        · obtain ⟨T, y1, y2, rfl, hT, rfl, f1, f2⟩ := hy
          obtain ⟨d1, e1, s1⟩ := g1.getV (f1 _ (SqL.of (e' _ _ h1)))
          obtain ⟨d2, e2, s2⟩ := g2.getV (f2 _ (SqL.of (e' _ _ h2)))
          rw [List.getElem?_map, (List.getElem?_zip_eq_some (z := (d1, d2))).mpr ⟨e1, e2⟩] at hd
          cases hd
          have n := Nw.new (o := .tup [y1, y2]) b2 hT
          exact ⟨_, n, .tup upd_same (.cons ((s1.up b1).up n.bb) (.cons ((s2.up b1).up n.bb) .nil))⟩
        · rw [List.length_map, List.length_zip] at hi
          refine ⟨xs1, xs2, SqL.of (e' _ _ h1), SqL.of (e' _ _ h2), ?_⟩
          rw [g1.length, g2.length]
          omega
theorem ei_enum (F : Fx X P w K mg base N sc own k) {xs : List PyData} {elts : List Expr} {kk : Nat} {tpos : Pos} (h : Ev X a σ B (.list xs)) (hm : mg "enumerate" = none) (hg : sc.names.lookup ("enumerate" : Str) = some .globalImplicit := by rfl)
    (hs : ∀ env, starEach [a] env = [(false, eval a env)] := by intro _; rfl) :
    Ei X (.Tuple elts kk tpos) (.Call (.Name "enumerate" p) [a] [] pos) σ B (xs.zipIdx.map fun z => .tuple [.int (z.2 : Nat), z.1]) := fun H x R q => by
  refine ⟨iEnum K (Wa X [a]), fun i => ?_, ?_⟩
  · have h := pi_enum (X := X i) (p := p) (pos := pos) (tpos := tpos) (elts := elts) (kk := kk) (F.gl hg i) (by rw [F.hmg i]; exact hm) (Wa.pa (X := X) (es := [a]) i) (hs _)
    rw [F.hK i] at h
    exact h
  · refine ea_cons h ea_nil (fun env => by rw [hs]; rfl) H x _ fun vs B1 H1 n1 r1 => ?_
    cases r1 with
    | cons r1 r2 =>
      cases r2
      cases r1 with
      | @lst a1 xs1 _ h1 g1 =>
        refine ⟨a1, xs1, rfl, SqL.of (n1.bh _ _ h1), q _ B1 H1 n1 ⟨fun i H' e' hi => ?_, fun i d hd H' y H'' e' hy B' b1 b2 => ?_, fun i H' e' hi => ?_⟩⟩
        · rw [List.length_map, List.length_zipIdx] at hi
          obtain ⟨v, hv, _⟩ := g1.get (List.getElem?_eq_getElem hi)
          exact ⟨xs1, v, SqL.of (e' _ _ h1), hv⟩
        · obtain ⟨T, y2, rfl, hT, rfl, f2⟩ := hy
          obtain ⟨d2, e2, s2⟩ := g1.getV (f2 _ (SqL.of (e' _ _ h1)))
          rw [List.getElem?_map, List.getElem?_zipIdx, e2] at hd
          simp only [Option.map_some, Nat.zero_add, Option.some.injEq] at hd
          subst hd
          have n := Nw.new (o := .tup [.int (i : Nat), y2]) b2 hT
          exact ⟨_, n, .tup upd_same (.cons (.int _) (.cons ((s2.up b1).up n.bb) .nil))⟩
        · rw [List.length_map, List.length_zipIdx] at hi
          exact ⟨xs1, SqL.of (e' _ _ h1), by rw [g1.length]; exact hi⟩

/-! ### comprehensions -/
/-- the blocks of a comprehension -/
abbrev Bx (ι : Type) : Type := ι × Shared × Hp × Addr × List (Str × Addr) × List Addr
def Blk (X : ι → Cx) (scope : Scope) : Bx ι → Cx := fun z => (X z.1).blk z.2.1 z.2.2.1 scope (compEnvC scope z.2.2.2.2.1 z.2.2.2.1 (X z.1).env) z.2.2.2.2.2
theorem Fx.blk (F : Fx X P w K mg base N sc own k) (scope : Scope) : Fx (Blk X scope) P w K mg base N (relS scope sc) (fun x => scope.names.lookup x == some .cell) k :=
  ⟨fun i => F.hP i.1, fun i => F.hw i.1, fun i => F.hK i.1, fun i => F.hmg i.1, fun i => F.hbase i.1, fun i => F.hN i.1, F.nd, fun i => by
    show relS scope (X i.1).env.scope = _
    rw [F.hsc i.1], fun i => F.calm i.1, fun i => F.room i.1, fun _ => .never, fun _ _ h => h⟩
def Wts (X : ι → Cx) (ifs : List Expr) : TT := fun σ H Q => ∃ t : TT, (∀ i, PTs (X i) ifs t) ∧ t σ H Q
theorem Wts.pts (i : ι) {ifs : List Expr} : PTs (X i) ifs (Wts X ifs) := ⟨fun pins s σ H Q I ⟨_, h, q⟩ => (h i).run pins s σ H Q I q⟩
def Es (X : ι → Cx) (ifs : List Expr) (σ : L2.St) (B : Hp) (b : Bool) : Prop := ∀ H, Ex B H → ∀ Q : Bool → Hp → Prop, (∀ H', Ex H H' → Q b H') → Wts X ifs σ H Q
theorem es_nil : Es X [] σ B true := fun H x Q q => ⟨tYes, fun _ => pts_nil, q H (Ex.refl H)⟩
theorem es_one {y : Bool} (h : Et X c σ B y) : Es X [c] σ B y := fun H x Q q => ⟨_, fun i => pts_one (Wt.pt i), h H x Q q⟩
theorem wipe_set {σ : L2.St} {i : Nat} {x : Option V} : ∀ {vs : List Nat}, i ∈ vs → wipe (σ.set i x) vs = wipe σ vs
  | [], h => absurd h List.not_mem_nil
  | v :: vs, h => by
    unfold wipe
    by_cases q : i ∈ vs
    · rw [wipe_set q]
    · have e : v = i := by
        rcases List.mem_cons.mp h with z | z
        · exact z.symm
        · exact absurd z q
      subst e
      clear h
      induction vs with
      | nil => unfold wipe; rw [List.set_set]
      | cons u us ih =>
        unfold wipe
        have h1 : ¬ v = u := fun z => q (by rw [z]; exact List.mem_cons_self)
        have h2 : v ∉ us := fun z => q (List.mem_cons_of_mem _ z)
        rw [List.set_comm _ _ (fun z => h1 z.symm), ih h2, List.set_comm _ _ (fun z => h1 z)]
theorem wipe_wipe (σ : L2.St) : ∀ vs us : List Nat, (∀ v ∈ vs, v ∈ us) → wipe (wipe σ vs) us = wipe σ us
  | [], _, _ => rfl
  | v :: vs, us, h => by
    show wipe ((wipe σ vs).set v none) us = _
    rw [wipe_set (h v List.mem_cons_self), wipe_wipe σ vs us fun x hx => h x (List.mem_cons_of_mem _ hx)]
theorem wipe_self (σ : L2.St) (vs : List Nat) : wipe (wipe σ vs) vs = wipe σ vs := wipe_wipe σ vs vs fun _ h => h
/-- a turn of a comprehension: the target takes v; then the test, then the element -/
def Turn1 (X : ι → Cx) (tg : Expr) (ifs : List Expr) (elt : Expr) (σ : L2.St) (vs : List Nat) (B H : Hp) (v : V) (c : Bool) (f : PyData) : Prop :=
  Wg X tg v (wipe σ vs) H fun σ2 H2 => H2 = H ∧ wipe σ2 vs = wipe σ vs ∧ Es X ifs σ2 B c ∧ (c = true → Ev X elt σ2 B f)
theorem Wg.weak {Q Q' : L2.St → Hp → Prop} (h : Wg X tg v σ H Q) (q : ∀ σ' H', Q σ' H' → Q' σ' H') : Wg X tg v σ H Q' := by
  obtain ⟨t, ht, hq⟩ := h
  exact ⟨fun v σ H Q' => ∃ Q, t v σ H Q ∧ ∀ σ' H', Q σ' H' → Q' σ' H', fun i => ⟨fun pins s σ H v u Q' I r ⟨Q, h1, h2⟩ => thn ((ht i).run pins s σ H v u Q I r h1) fun _ s' ⟨σ', H', I', z⟩ => ⟨σ', H', I', h2 _ _ z⟩⟩, Q, hq, q⟩
theorem lc_read {α : Type} {xs : List α} {enc : α → PyData} {elt : Expr} {ifs : List Expr} {scope : Scope} {vs : List Nat} (hI : Ei X tg iter σ B (xs.map enc)) (c : α → Bool) (f : α → PyData) (hz : xs.length ≤ 100000)
    (turn : ∀ x ∈ xs, ∀ B1 H1 v, Ex B B1 → Ex B1 H1 → Rp B1 v (enc x) → Turn1 (Blk X scope) tg ifs elt σ vs B1 H1 v (c x) (f x)) :
    ∀ H, Ex B H → ∀ Q : VK, (∀ v B' H', Nw B H B' H' → Rp B' v (.list ((xs.filter c).map f)) → Q v H') → tLc (Wi X tg iter) (Wg (Blk X scope) tg) (Wts (Blk X scope) ifs) (We (Blk X scope) elt) vs σ H Q := fun H x Q q => by
  refine hI H x _ fun J B1 H1 n1 dr Da hD => ?_
  have lx : (xs.map enc).length = xs.length := List.length_map _
  refine ⟨fun i m H' => m = xs.length - i ∧ i ≤ xs.length ∧ ∃ Bi acc, Nw B1 H1 Bi H' ∧ Bi Da = none ∧ H' Da = some (.lst acc) ∧ acc.length ≤ i ∧ RpAll Bi acc (((xs.take i).filter c).map f),
    ⟨_, rfl, Nat.zero_le _, B1, [], ⟨Ex.refl _, n1.bh.trans (Ex.new hD), Ex.new hD, fun _ _ => rfl⟩, n1.bh.free hD, upd_same, Nat.le_refl _, .nil⟩, ?_⟩
  rintro i m H' ⟨rfl, hi, Bi, acc, n2, bD, hD', hl, ra⟩
  by_cases hlt : i < xs.length
  · refine .inr ⟨dr.go i H' (n2.bb.trans n2.bh) (by rw [lx]; exact hlt), fun H'' => i + 1 ≤ xs.length ∧ ∃ Bi acc, Nw B1 H1 Bi H'' ∧ Bi Da = none ∧ H'' Da = some (.lst acc) ∧ acc.length ≤ i + 1 ∧ RpAll Bi acc (((xs.take (i + 1)).filter c).map f),
      fun H'' w => ⟨xs.length - (i + 1), by omega, rfl, w⟩, fun v H2 y => ?_⟩
    have hx : (xs.map enc)[i]? = some (enc xs[i]) := by rw [List.getElem?_map, List.getElem?_eq_getElem hlt]; rfl
    obtain ⟨B2, n3, rv⟩ := dr.yld i _ hx H' v H2 (n2.bb.trans n2.bh) y Bi n2.bb n2.bh
    have cD := n3.cell hD' bD
    have eB : Ex B B2 := (n1.bb.trans n2.bb).trans n3.bb
    have tk : (xs.take (i + 1)).filter c = (xs.take i).filter c ++ (if c xs[i] = true then [xs[i]] else []) := by
      rw [List.take_succ, List.getElem?_eq_getElem hlt, List.filter_append]
      show _ ++ List.filter c [xs[i]] = _
      rw [List.filter_cons]
      rfl
    refine Wg.weak (turn xs[i] (List.getElem_mem hlt) B2 H2 v eB n3.bh rv) fun σ2 H3 ⟨e3, wp, ht, hv⟩ => ⟨wp, ?_⟩
    subst e3
    refine ht H3 n3.bh _ fun H4 e4 => ?_
    cases hc : c xs[i] with
    | false =>
      rw [if_neg Bool.false_ne_true]
      refine ⟨hlt, B2, acc, ⟨n2.bb.trans n3.bb, n3.bh.trans e4, (n2.hh.trans n3.hh).trans e4, fun a ha => ?_⟩, cD.2, e4 _ _ cD.1, Nat.le_succ_of_le hl, ?_⟩
      · have h1 : H' a ≠ none := fun z => ha (n2.hh.free z)
        rw [n3.old a h1, n2.old a ha]
      · rw [tk, hc, if_neg Bool.false_ne_true, List.append_nil]
        exact ra.up n3.bb
    | true =>
      rw [if_pos rfl]
      refine hv hc H4 (n3.bh.trans e4) _ fun y B4 H5 n4 ry => ?_
      have cD4 := n4.cell (e4 _ _ cD.1) cD.2
      refine ⟨acc, cD4.1, Nat.lt_of_le_of_lt (Nat.le_trans hl (Nat.le_of_lt (Nat.lt_of_lt_of_le hlt hz))) (by decide), hlt, B4, acc ++ [y], ⟨(n2.bb.trans n3.bb).trans n4.bb, n4.bh.mut cD4.2, (((n2.hh.trans n3.hh).trans e4).trans n4.hh).mut hD, fun a ha => ?_⟩, cD4.2, upd_same, ?_, ?_⟩
      · have h1 : H' a ≠ none := fun z => ha (n2.hh.free z)
        have h2 : H3 a ≠ none := fun z => h1 (n3.hh.free z)
        have h3 : H4 a ≠ none := fun z => h2 (e4.free z)
        rw [n4.old a h3, n3.old a h1, n2.old a ha]
      · rw [List.length_append]
        show acc.length + 1 ≤ i + 1
        omega
      · rw [tk, hc, if_pos rfl, List.map_append]
        exact ((ra.up n3.bb).up n4.bb).append (.cons ry .nil)
  · have e : i = xs.length := by omega
    subst e
    rw [List.take_length] at ra
    refine .inl ⟨dr.stop _ H' (n2.bb.trans n2.bh) (by rw [lx]; exact Nat.le_refl _), ?_⟩
    refine q _ (upd Bi Da (.lst acc)) H' (n1.trans ⟨n2.bb.trans (Ex.new bD), fun a o ha => ?_, n2.hh, fun a ha => ?_⟩) (.lst upd_same (ra.up (Ex.new bD)))
    · by_cases z : a = Da
      · rw [z, upd_same] at ha
        rw [z, hD', ← ha]
      · rw [upd_ne z] at ha
        exact n2.bh a o ha
    · rw [upd_ne (fun z => ha (by rw [z]; exact hD))]
      exact n2.old a ha
theorem ev_lc (F : Fx X P w K mg base N sc own k) {α : Type} {xs : List α} {enc : α → PyData} {elt : Expr} {ifs : List Expr} {scope : Scope} (ow : List (Str × Nat)) (hI : Ei X tg iter σ B (xs.map enc)) (c : α → Bool) (f : α → PyData) (hz : xs.length ≤ 100000)
    (turn : ∀ x ∈ xs, ∀ B1 H1 v, Ex B B1 → Ex B1 H1 → Rp B1 v (enc x) → Turn1 (Blk X scope) tg ifs elt σ (ow.map (·.2)) B1 H1 v (c x) (f x)) (ok : blkC N sc scope ow = true := by decide +kernel) (hs : ∀ env x, foldedSetIterable iter env x = pure x := by intro _ _; rfl) :
    Ev X (.ListComp elt [⟨tg, iter, ifs, 0⟩] scope pos) σ B (.list ((xs.filter c).map f)) := fun H x Q q =>
  ⟨_, fun i => pe_lc (own := ow) (F.calm i) (F.nd' i) (Wi.pi i) (by rw [F.hN i, F.hsc i]; exact blkOk_by ok) (fun s H C cl fp => Wg.pg (X := Blk X scope) (i, s, H, C, cl, fp)) (fun s H C cl fp => Wts.pts (X := Blk X scope) (i, s, H, C, cl, fp)) (fun s H C cl fp => We.pe (X := Blk X scope) (i, s, H, C, cl, fp)) (hs _),
    lc_read hI c f hz turn H x Q q⟩
end
end Lay
end

section
set_option Elab.async false
set_option linter.all false
set_option maxRecDepth 100000
set_option maxHeartbeats 1000000
namespace Lay
open PySem PySem.Spec PyProof.Rows L2
section
variable {ι : Type} {X : ι → Cx} {P : Program} {w : World} {K : PySem.W.Frag} {mg : Str → Option Value} {base : Heap} {N : List Str} {sc : Scope} {own : Str → Bool} {k : Nat}
variable {e a b c tg iter : Expr} {es : List Expr} {σ : L2.St} {B B' H H' : Hp} {d d1 d2 d3 : PyData} {ds : List PyData} {pos p : Pos} {v : V} {D : Ends} {rest body s1 s2 : List Stmt}

theorem ws_nil (q : D.nx σ H) : Ws X [] D σ H := ⟨tNext, fun _ => pss_nil, q⟩
/-- x = e, e whatever -/
theorem ws_setR (F : Fx X P w K mg base N sc own k) (i : Nat) {x : Str} {p' : Pos} (h : We X e σ H fun v H1 => Ws X rest D (σ.set i (some v)) H1) (hN : N[i]? = some x := by rfl) (hx : Loc sc x := by first | exact Or.inl rfl | exact Or.inr rfl)
    (ho : own x = true ∨ sc.names.lookup x = some .local := by first | exact .inl rfl | exact .inr rfl) (hs : ∀ env, swapsWith e (some (.Name x p')) pos.line env = pure false := by intro _; rfl) : Ws X (.Assign [.Name x p'] e pos :: rest) D σ H :=
  ⟨tSeq (tAsg (We X e) (gName i)) (Ws X rest), fun j => pss_cons (ps_set (F.nd' j) (by rw [F.hN j]; exact hN) (by rw [F.hsc j]; exact hx) (We.pe j) (hs _) (F.own' ho j)) (Ws.ps j), h⟩
theorem ws_set (F : Fx X P w K mg base N sc own k) (i : Nat) {x : Str} {p' : Pos} (h : Ev X e σ B d) (hB : Ex B H) (q : ∀ v B' H', Nw B H B' H' → Rp B' v d → Ws X rest D (σ.set i (some v)) H') (hN : N[i]? = some x := by rfl) (hx : Loc sc x := by first | exact Or.inl rfl | exact Or.inr rfl)
    (ho : own x = true ∨ sc.names.lookup x = some .local := by first | exact .inl rfl | exact .inr rfl) (hs : ∀ env, swapsWith e (some (.Name x p')) pos.line env = pure false := by intro _; rfl) : Ws X (.Assign [.Name x p'] e pos :: rest) D σ H :=
  ws_setR F i (h H hB _ q) hN hx ho hs
/-- x = [comprehension], x a local -/
theorem ws_setLc (F : Fx X P w K mg base N sc own k) (i : Nat) {x : Str} {py : Pos} {α : Type} {xs : List α} {enc : α → PyData} {elt : Expr} {ifs : List Expr} {scope : Scope} {spos : Pos} (ow : List (Str × Nat)) (hI : Ei X tg iter σ B (xs.map enc)) (c : α → Bool) (f : α → PyData) (hz : xs.length ≤ 100000)
    (turn : ∀ x ∈ xs, ∀ B1 H1 v, Ex B B1 → Ex B1 H1 → Rp B1 v (enc x) → Turn1 (Blk X scope) tg ifs elt σ (ow.map (·.2)) B1 H1 v (c x) (f x)) (hB : Ex B H)
    (q : ∀ v B' H', Nw B H B' H' → Rp B' v (.list ((xs.filter c).map f)) → Ws X rest D (σ.set i (some v)) H') (ok : blkC N sc scope ow = true := by decide +kernel) (hN : N[i]? = some x := by rfl) (hx : sc.names.lookup x = some .local := by rfl) (hk : sc.kind = .function := by rfl)
    (hl : (py.line == pos.line) = true := by rfl) (ha : (scope.names.any fun (n, k) => n == x && (k == .local || k == .cell)) = false := by decide +kernel) (hs : ∀ env x, foldedSetIterable iter env x = pure x := by intro _ _; rfl) :
    Ws X (.Assign [.Name x py] (.ListComp elt [⟨tg, iter, ifs, 0⟩] scope pos) spos :: rest) D σ H :=
  ⟨_, fun j => pss_cons (ps_setLc (own := ow) (F.calm j) (F.nd' j) (by rw [F.hN j]; exact hN) (by rw [F.hsc j]; exact hx) (sw_true (by rw [F.hsc j]; exact hk) (by rw [F.hsc j]; exact hx) hl ha) (Wi.pi j) (by rw [F.hN j, F.hsc j]; exact blkOk_by ok)
      (fun s H C cl fp => Wg.pg (X := Blk X scope) (j, s, H, C, cl, fp)) (fun s H C cl fp => Wts.pts (X := Blk X scope) (j, s, H, C, cl, fp)) (fun s H C cl fp => We.pe (X := Blk X scope) (j, s, H, C, cl, fp)) (hs _)) (Ws.ps (X := X) (st := rest) j),
    lc_read hI c f hz turn H hB _ q⟩
theorem ws_ret (h : Ev X e σ B d) (hB : Ex B H) (q : ∀ v B' H', Nw B H B' H' → Rp B' v d → D.rt v H') : Ws X (.Return (some e) pos :: rest) D σ H :=
  ⟨tSeq (tRet (We X e)) (Ws X rest), fun i => pss_cons (ps_ret (We.pe i)) (Ws.ps i), h H hB _ q⟩
theorem ws_retR (h : We X e σ H D.rt) : Ws X (.Return (some e) pos :: rest) D σ H :=
  ⟨tSeq (tRet (We X e)) (Ws X rest), fun i => pss_cons (ps_ret (We.pe i)) (Ws.ps i), h⟩
theorem ws_if {y : Bool} (h : Et X c σ B y) (hB : Ex B H) (h1 : y = true → ∀ H1, Ex H H1 → Ws X s1 { D with nx := Ws X rest D } σ H1) (h2 : y = false → ∀ H1, Ex H H1 → Ws X s2 { D with nx := Ws X rest D } σ H1) : Ws X (.If c s1 s2 pos :: rest) D σ H := by
  refine ⟨tSeq (tIfS (Wt X c) (Ws X s1) (Ws X s2)) (Ws X rest), fun i => pss_cons (ps_if (Wt.pt i) (Ws.ps i) (Ws.ps i)) (Ws.ps i), ?_⟩
  refine h H hB _ fun H1 e1 => ?_
  cases y with
  | true => rw [if_pos rfl]; exact h1 rfl H1 e1
  | false => rw [if_neg Bool.false_ne_true]; exact h2 rfl H1 e1
/-- an if whose suite leaves the def -/
theorem ws_ifN {y : Bool} (h : Et X c σ B y) (hB : Ex B H) (h1 : y = true → ∀ H1, Ex H H1 → Ws X s1 { D with nx := Ws X rest D } σ H1) (h2 : y = false → ∀ H1, Ex H H1 → Ws X rest D σ H1) : Ws X (.If c s1 [] pos :: rest) D σ H :=
  ws_if h hB h1 fun z H1 e1 => ws_nil (h2 z H1 e1)
/-- for; the word Pv by the turn -/
theorem ws_for (F : Fx X P w K mg base N sc own k) (hI : Ei X tg iter σ B ds) (hB : Ex B H)
    (q : ∀ B1 H1, Nw B H B1 H1 → ∃ Pv : Nat → L2.St → Hp → Prop, Pv 0 σ H1 ∧ (∀ i d σ' H', ds[i]? = some d → Pv i σ' H' → ∃ B', Ex B1 B' ∧ Ex B' H' ∧ ∀ v B'' H'', Nw B' H' B'' H'' → Rp B'' v d →
      Wg X tg v σ' H'' fun σ2 H2 => Ws X body { D with nx := Pv (i + 1), ct := Pv (i + 1), bk := Ws X rest D } σ2 H2) ∧ (∀ i σ' H', Pv i σ' H' → Ex B1 H') ∧ ∀ σ' H', Pv ds.length σ' H' → Ws X rest D σ' H')
    (hs : ∀ env x, foldedSetIterable iter env x = pure x := by intro _ _; rfl) : Ws X (.For tg iter body [] pos :: rest) D σ H := by
  refine ⟨tSeq (tFor (Wi X tg iter) (Wg X tg) (Ws X body)) (Ws X rest), fun i => pss_cons (ps_for (F.pass i) (F.calm i) (Wi.pi i) (Wg.pg i) (Ws.ps i) (hs _)) (Ws.ps i), ?_⟩
  refine hI H hB _ fun J B1 H1 n1 dr => ?_
  obtain ⟨Pv, p0, turn, base, fin⟩ := q B1 H1 n1
  refine ⟨fun i m σ H => m = ds.length - i ∧ i ≤ ds.length ∧ Pv i σ H, ⟨_, rfl, Nat.zero_le _, p0⟩, ?_⟩
  rintro i m σ' H' ⟨rfl, hi, pv⟩
  have b1 := base i σ' H' pv
  by_cases hlt : i < ds.length
  · refine .inr ⟨dr.go i H' b1 hlt, Pv (i + 1), fun σ'' H'' pv' => ⟨ds.length - (i + 1), by omega, rfl, hlt, pv'⟩, fun x H2 y => ?_⟩
    have hd := List.getElem?_eq_getElem hlt
    obtain ⟨B', x1, x2, h⟩ := turn i _ σ' H' hd pv
    obtain ⟨B'', n, r⟩ := dr.yld i _ hd H' x H2 b1 y B' x1 x2
    exact h x B'' H2 n r
  · have e : i = ds.length := by omega
    subst e
    exact .inl ⟨dr.stop _ H' b1 (Nat.le_refl _), fin σ' H' pv⟩
theorem ws_break (q : D.bk σ H) : Ws X (.Break pos :: rest) D σ H := ⟨tSeq tBreak (Ws X rest), fun i => pss_cons ps_break (Ws.ps i), q⟩
theorem ws_while (F : Fx X P w K mg base N sc own k) (Pv : Nat → L2.St → Hp → Prop) (m0 : Nat) (h0 : Pv m0 σ H)
    (turn : ∀ m σ' H', Pv m σ' H' → ∃ B' y, Ex B' H' ∧ Et X c σ' B' y ∧ (y = true → ∀ H2, Ex H' H2 → Ws X body { D with nx := fun σ3 H3 => ∃ m', m' < m ∧ Pv m' σ3 H3, ct := fun σ3 H3 => ∃ m', m' < m ∧ Pv m' σ3 H3, bk := Ws X rest D } σ' H2) ∧ (y = false → ∀ H2, Ex H' H2 → Ws X rest D σ' H2)) :
    Ws X (.While c body [] pos :: rest) D σ H := by
  refine ⟨tSeq (tWhile (Wt X c) (Ws X body)) (Ws X rest), fun i => pss_cons (ps_while (F.pass i) (Wt.pt i) (Ws.ps i)) (Ws.ps i), ?_⟩
  refine ⟨Pv, ⟨m0, h0⟩, fun m σ' H' pv => ?_⟩
  obtain ⟨B', y, e1, h, h1, h2⟩ := turn m σ' H' pv
  refine h H' e1 _ fun H2 e2 => ?_
  cases y with
  | true => rw [if_pos rfl]; exact ⟨_, fun _ _ z => z, h1 rfl H2 e2⟩
  | false => rw [if_neg Bool.false_ne_true]; exact h2 rfl H2 e2
/-- an expression's value dropped -/
theorem ws_exprR (h : We X e σ H fun _ H1 => Ws X rest D σ H1) (hs : ∀ env, swapsWith e none pos.line env = pure false := by intro _; rfl) : Ws X (.Expr e pos :: rest) D σ H :=
  ⟨tSeq (tDrop (We X e)) (Ws X rest), fun i => pss_cons (ps_expr (We.pe i) (hs _)) (Ws.ps i), h⟩
/-- x += e, ints -/
theorem ws_aug (F : Fx X P w K mg base N sc own k) (i : Nat) {x : Str} {p' : Pos} {m n : Int} (hσ : σ[i]? = some (some (.int m))) (h : Ev X e σ B (.int n)) (hB : Ex B H) (q : ∀ B' H', Nw B H B' H' → Ws X rest D (σ.set i (some (.int (m + n)))) H') (hN : N[i]? = some x := by rfl) (hx : Loc sc x := by first | exact Or.inl rfl | exact Or.inr rfl)
    (ho : own x = true ∨ sc.names.lookup x = some .local := by first | exact .inl rfl | exact .inr rfl) : Ws X (.AugAssign (.Name x p') .Add e pos :: rest) D σ H := by
  refine ⟨tSeq (tAug i (We X e) (ipI fun i j => i + j)) (Ws X rest), fun j => pss_cons (ps_aug (F.nd' j) (by rw [F.hN j]; exact hN) (by rw [F.hsc j]; exact hx) (We.pe j) ip_add (F.own' ho j)) (Ws.ps j), ?_⟩
  refine ⟨.int m, hσ, ?_⟩
  refine h H hB _ fun v B1 H1 n1 r1 => ?_
  cases r1
  exact ⟨m, n, rfl, rfl, q B1 H1 n1⟩
/-- a, b = x, y: two local names -/
theorem ws_par (F : Fx X P w K mg base N sc own k) (i j : Nat) {x y : Str} {px py pt pt2 : Pos} {kt k2 : Nat} (h : Wa X [a, b] σ H fun vs H1 => ∃ v w, vs = [v, w] ∧ Ws X rest D ((σ.set i (some v)).set j (some w)) H1) (hi : N[i]? = some x := by rfl) (hj : N[j]? = some y := by rfl) (hij : i ≠ j := by decide)
    (hx : sc.names.lookup x = some .local := by rfl) (hy : sc.names.lookup y = some .local := by rfl)
    (hw : ∀ i, swappedStores [.Tuple [.Name x px, .Name y py] kt pt] (.Tuple [a, b] k2 pt2) (X i).env = pure (some [x, y]))
    (hs : ∀ env, swapsWithSole [.Tuple [.Name x px, .Name y py] kt pt] (.Tuple [a, b] k2 pt2) pos.line env = pure false := by intro _; rfl) : Ws X (.Assign [.Tuple [.Name x px, .Name y py] kt pt] (.Tuple [a, b] k2 pt2) pos :: rest) D σ H :=
  ⟨tSeq (tPar i j (Wa X [a, b])) (Ws X rest), fun z => pss_cons (ps_par (F.calm z) (F.nd' z) (by rw [F.hN z]; exact hi) (by rw [F.hN z]; exact hj) hij (by rw [F.hsc z]; exact hx) (by rw [F.hsc z]; exact hy) (Wa.pa z) (hw z) (hs _)) (Ws.ps z), h⟩
/-- target = e: a tuple target from a tuple -/
theorem ws_asgR (F : Fx X P w K mg base N sc own k) (h : We X e σ H fun v H1 => Wg X tg v σ H1 fun σ' H' => Ws X rest D σ' H') (hs : ∀ env, swapsWithSole [tg] e pos.line env = pure false := by intro _; rfl) (hw : ∀ i, swappedStores [tg] e (X i).env = pure none)
    (h1 : ∀ env, (assignEach [tg] env).map (·.2) = [assign tg env] := by intro _; rfl) : Ws X (.Assign [tg] e pos :: rest) D σ H :=
  ⟨tSeq (tAsg (We X e) (Wg X tg)) (Ws X rest), fun i => pss_cons (ps_asg (We.pe i) (Wg.pg i) (hs _) (hw i) (h1 _)) (Ws.ps i), h⟩
end
end Lay
end

section
set_option Elab.async false
set_option linter.all false
set_option maxRecDepth 100000
set_option maxHeartbeats 1000000
namespace Lay
open PySem PySem.Spec PyProof.Rows L2
section
variable {ι : Type} {X : ι → Cx} {P : Program} {w : World} {K : PySem.W.Frag} {mg : Str → Option Value} {base : Heap} {N : List Str} {sc : Scope} {own : Str → Bool} {k : Nat}
variable {e a b c tg iter : Expr} {es : List Expr} {σ : L2.St} {B B' H H' : Hp} {d d1 d2 d3 : PyData} {ds : List PyData} {pos p : Pos} {v : V} {D : Ends} {rest body s1 s2 : List Stmt}
theorem ev_neg {i : Int} (h : Ev X a σ B (.int i)) : Ev X (.UnaryOp .USub a pos) σ B (.int (-i)) := fun H x Q q => by
  refine ⟨_, fun i => pe_un un_neg (We.pe i), ?_⟩
  refine h H x _ fun v B1 H1 n1 r1 => ?_
  cases r1
  exact ⟨i, rfl, q _ B1 H1 n1 (.int _)⟩
/-- the readings of a comprehension's targets -/
theorem turn_name {X : ι → Cx} (F : Fx X P w K mg base N sc own k) (j : Nat) {x : Str} {elt : Expr} {ifs : List Expr} {vs : List Nat} {y : Bool} (hj : j ∈ vs) (h : Es X ifs ((wipe σ vs).set j (some v)) B y) (he : y = true → Ev X elt ((wipe σ vs).set j (some v)) B d) (hN : N[j]? = some x := by rfl)
    (hx : Loc sc x := by first | exact Or.inl rfl | exact Or.inr rfl) (ho : own x = true ∨ sc.names.lookup x = some .local := by first | exact .inl rfl | exact .inr rfl) : Turn1 X (.Name x pos) ifs elt σ vs B H v y d :=
  wg_name F j ⟨rfl, by rw [wipe_set hj, wipe_self], h, he⟩ hN hx ho
theorem turn_two {X : ι → Cx} (F : Fx X P w K mg base N sc own k) (j l : Nat) {x1 x2 : Str} {kk : Nat} {p1 p2 : Pos} {elt : Expr} {ifs : List Expr} {vs : List Nat} {y : Bool} (r : Rp B v (.tuple [d1, d2])) (e : Ex B H) (hj : j ∈ vs) (hl : l ∈ vs)
    (h : ∀ v1 v2, Rp B v1 d1 → Rp B v2 d2 → Es X ifs (((wipe σ vs).set j (some v1)).set l (some v2)) B y ∧ (y = true → Ev X elt (((wipe σ vs).set j (some v1)).set l (some v2)) B d)) (hN : N[j]? = some x1 := by rfl) (hN2 : N[l]? = some x2 := by rfl)
    (hx : Loc sc x1 := by first | exact Or.inl rfl | exact Or.inr rfl) (ho : own x1 = true ∨ sc.names.lookup x1 = some .local := by first | exact .inl rfl | exact .inr rfl)
    (hx2 : Loc sc x2 := by first | exact Or.inl rfl | exact Or.inr rfl) (ho2 : own x2 = true ∨ sc.names.lookup x2 = some .local := by first | exact .inl rfl | exact .inr rfl) :
    Turn1 X (.Tuple [.Name x1 p1, .Name x2 p2] kk pos) ifs elt σ vs B H v y d :=
  wg_tup2 F r e fun v1 v2 r1 r2 => wg_name F j (wg_name F l ⟨rfl, by rw [wipe_set hl, wipe_set hj, wipe_self], (h v1 v2 r1 r2).1, (h v1 v2 r1 r2).2⟩ hN2 hx2 ho2) hN hx ho
theorem turn_three {X : ι → Cx} (F : Fx X P w K mg base N sc own k) (j l m : Nat) {x1 x2 x3 : Str} {kk : Nat} {p1 p2 p3 : Pos} {elt : Expr} {ifs : List Expr} {vs : List Nat} {y : Bool} (r : Rp B v (.tuple [d1, d2, d3])) (e : Ex B H) (hj : j ∈ vs) (hl : l ∈ vs) (hm : m ∈ vs) {d : PyData}
    (h : ∀ v1 v2 v3, Rp B v1 d1 → Rp B v2 d2 → Rp B v3 d3 → Es X ifs ((((wipe σ vs).set j (some v1)).set l (some v2)).set m (some v3)) B y ∧ (y = true → Ev X elt ((((wipe σ vs).set j (some v1)).set l (some v2)).set m (some v3)) B d))
    (hN : N[j]? = some x1 := by rfl) (hN2 : N[l]? = some x2 := by rfl) (hN3 : N[m]? = some x3 := by rfl)
    (hx : Loc sc x1 := by first | exact Or.inl rfl | exact Or.inr rfl) (ho : own x1 = true ∨ sc.names.lookup x1 = some .local := by first | exact .inl rfl | exact .inr rfl)
    (hx2 : Loc sc x2 := by first | exact Or.inl rfl | exact Or.inr rfl) (ho2 : own x2 = true ∨ sc.names.lookup x2 = some .local := by first | exact .inl rfl | exact .inr rfl)
    (hx3 : Loc sc x3 := by first | exact Or.inl rfl | exact Or.inr rfl) (ho3 : own x3 = true ∨ sc.names.lookup x3 = some .local := by first | exact .inl rfl | exact .inr rfl) :
    Turn1 X (.Tuple [.Name x1 p1, .Name x2 p2, .Name x3 p3] kk pos) ifs elt σ vs B H v y d :=
  wg_tup3 F r e fun v1 v2 v3 r1 r2 r3 => wg_name F j (wg_name F l (wg_name F m ⟨rfl, by rw [wipe_set hm, wipe_set hl, wipe_set hj, wipe_self], (h v1 v2 v3 r1 r2 r3).1, (h v1 v2 v3 r1 r2 r3).2⟩ hN3 hx3 ho3) hN2 hx2 ho2) hN hx ho
end
end Lay
end

section
set_option Elab.async false
set_option linter.all false
set_option maxRecDepth 100000
set_option maxHeartbeats 1000000
namespace Lay
open PySem PySem.Spec PyProof.Rows L2
section
variable {ι : Type} {X : ι → Cx} {P : Program} {w : World} {K : PySem.W.Frag} {mg : Str → Option Value} {base : Heap} {N : List Str} {sc : Scope} {own : Str → Bool} {k : Nat}
variable {e a b c tg iter : Expr} {es : List Expr} {σ : L2.St} {B B' H H' : Hp} {d d1 d2 d3 : PyData} {ds : List PyData} {pos p : Pos} {v : V} {D : Ends} {rest body s1 s2 : List Stmt}
/-! ### raw words -/
theorem wa_nil {Q : List V → Hp → Prop} (q : Q [] H) : Wa X [] σ H Q := ⟨tNil, fun _ => pa_nil, q⟩
theorem wa_cons {Q : List V → Hp → Prop} (h : We X e σ H fun v H1 => Wa X es σ H1 fun vs H2 => Q (v :: vs) H2) (hs : ∀ env, starEach (e :: es) env = (false, eval e env) :: starEach es env := by intro _; rfl) : Wa X (e :: es) σ H Q :=
  ⟨tCons (We X e) (Wa X es), fun i => pa_cons (We.pe i) (Wa.pa i) (hs _), h⟩
theorem we_ty (F : Fx X P w K mg base N sc own k) {x : Str} {T : String} {Q : VK} (q : Q (.ty T) H) (hm : mg x = none) (hv : bootBuiltins x = some (.type T) := by decide +kernel) (hg : sc.names.lookup x = some .globalImplicit := by rfl) (hn : x ≠ "__name__" := by decide) (hd : (x == ("__debug__" : Str)) = false := by decide) :
    We X (.Name x pos) σ H Q := ⟨tC (.ty T), fun i => pe_bltn (F.gl hg i) (by rw [F.hmg i]; exact hm) hv rfl hn hd, q⟩

/-! ### isinstance -/
def tyName : PyData → String
  | .none => "NoneType"
  | .bool _ => "bool"
  | .int _ => "int"
  | .str _ => "str"
  | .list _ => "list"
  | .tuple _ => "tuple"
  | .dict _ => "dict"
theorem Rp.ty {K : PySem.W.Frag} (r : Rp B v d) (x : Ex B H) : TyX K H v (.type (tyName d)) := by
  cases r with
  | non => exact .base .non
  | bl b => exact .base (.bl b)
  | int i => exact .base (.int i)
  | str s => exact .base (.str s)
  | lst h _ => exact .base (.lst (x _ _ h))
  | tup h _ => exact .base (.tup (x _ _ h))
/-- isinstance(x, T) -/
def isA (T : String) (d : PyData) : Bool := decide (tyName d = T) || (decide (T = "int") && decide (tyName d = "bool"))
theorem kit_isA (d : PyData) (T : String) (hT : T = "list" ∨ T = "tuple" ∨ T = "bool" ∨ T = "str" ∨ T = "int") : kitB (tyName d) T = some (isA T d) := by
  rcases hT with rfl | rfl | rfl | rfl | rfl <;> cases d <;> first | rfl | decide +kernel
theorem ev_isi (F : Fx X P w K mg base N sc own k) {x : Str} {T : String} {p1 p2 : Pos} (ha : Ev X a σ B d) (hT : T = "list" ∨ T = "tuple" ∨ T = "bool" ∨ T = "str" ∨ T = "int") (hi : mg "isinstance" = none) (hm : mg x = none) (hv : bootBuiltins x = some (.type T) := by decide +kernel)
    (hg : sc.names.lookup ("isinstance" : Str) = some .globalImplicit := by rfl) (hgx : sc.names.lookup x = some .globalImplicit := by rfl) (hn : x ≠ "__name__" := by decide) (hd : (x == ("__debug__" : Str)) = false := by decide)
    (he : ∀ env, starEach [a, .Name x p2] env = (false, eval a env) :: starEach [.Name x p2] env := by intro _; rfl) : Ev X (.Call (.Name "isinstance" p1) [a, .Name x p2] [] pos) σ B (.bool (isA T d)) := fun H z Q q => by
  refine ⟨tCB (rIsi K) (Wa X [a, .Name x p2]), fun i => ?_, ?_⟩
  · have h := pe_callB (p := p1) (pos := pos) (call_isi (X := X i)) (F.gl hg i) (by rw [F.hmg i]; exact hi) (by decide +kernel) (Wa.pa (X := X) (es := [a, .Name x p2]) i) (by decide) (by decide) (he _) rfl
    rw [F.hK i] at h
    exact h
  · refine wa_cons (ha H z _ fun v B1 H1 n1 r1 => wa_cons (we_ty F (wa_nil ?_) hm hv hgx hn hd)) he
    exact ⟨v, .ty T, .type (tyName d), .type T, isA T d, rfl, .ty T, r1.ty n1.bh, kit_ty (kit_isA d T hT), q _ B1 H1 n1 (.bl _)⟩
theorem ev_isi2 (F : Fx X P w K mg base N sc own k) {x y : Str} {T U : String} {p1 p2 p3 p4 : Pos} {kk : Nat} (ha : Ev X a σ B d) (hT : T = "list" ∨ T = "tuple" ∨ T = "bool" ∨ T = "str" ∨ T = "int") (hU : U = "list" ∨ U = "tuple" ∨ U = "bool" ∨ U = "str" ∨ U = "int") (hi : mg "isinstance" = none) (hm : mg x = none) (hmy : mg y = none) (hv : bootBuiltins x = some (.type T) := by decide +kernel) (hvy : bootBuiltins y = some (.type U) := by decide +kernel)
    (hg : sc.names.lookup ("isinstance" : Str) = some .globalImplicit := by rfl) (hgx : sc.names.lookup x = some .globalImplicit := by rfl) (hgy : sc.names.lookup y = some .globalImplicit := by rfl) (hn : x ≠ "__name__" := by decide) (hd : (x == ("__debug__" : Str)) = false := by decide) (hny : y ≠ "__name__" := by decide) (hdy : (y == ("__debug__" : Str)) = false := by decide)
    (he : ∀ env, starEach [a, .Tuple [.Name x p2, .Name y p3] kk p4] env = (false, eval a env) :: starEach [.Tuple [.Name x p2, .Name y p3] kk p4] env := by intro _; rfl) : Ev X (.Call (.Name "isinstance" p1) [a, .Tuple [.Name x p2, .Name y p3] kk p4] [] pos) σ B (.bool (isA T d || isA U d)) := fun H z Q q => by
  refine ⟨tCB (rIsiT K) (Wa X [a, .Tuple [.Name x p2, .Name y p3] kk p4]), fun i => ?_, ?_⟩
  · have h := pe_callB (p := p1) (pos := pos) (call_isiT (X := X i)) (F.gl hg i) (by rw [F.hmg i]; exact hi) (by decide +kernel) (Wa.pa (X := X) (es := [a, .Tuple [.Name x p2, .Name y p3] kk p4]) i) (by decide) (by decide) (he _) rfl
    rw [F.hK i] at h
    exact h
  · refine wa_cons (ha H z _ fun v B1 H1 n1 r1 => wa_cons ?_) he
    refine ⟨tTup (Wa X [.Name x p2, .Name y p3]), fun i => pe_tup (Wa.pa i), ?_⟩
    refine wa_cons (we_ty F (wa_cons (we_ty F (wa_nil ?_) hmy hvy hgy hny hdy)) hm hv hgx hn hd)
    refine ⟨by show 2 ≤ sizeLine; decide, fun p hp => wa_nil ?_⟩
    have x1 : Ex H1 (upd H1 p (.tup [.ty T, .ty U])) := Ex.new hp
    refine ⟨v, p, [.ty T, .ty U], .type (tyName d), [.type T, .type U], _, rfl, upd_same, .cons (.ty T) (.cons (.ty U) .nil), r1.ty (n1.bh.trans x1), ?_, q _ B1 _ (n1.trans (Nw.grow n1.bh x1)) (.bl _)⟩
    refine kitAny_cons (kit_ty (kit_isA d T hT)) (fun h => ?_) fun h => by rw [h]; rfl
    rw [h, Bool.false_or]
    exact kitAny_cons (kit_ty (kit_isA d U hU)) (fun h => by rw [h]; exact kitAny_nil) fun h => h
/-! ### stores of tuples -/
theorem swapped_scope {ts : List Expr} {e : Expr} {env env' : Env} (h : env.scope = env'.scope) : swappedStores ts e env = swappedStores ts e env' := by
  unfold swappedStores Env.blockKind Env.kindOf
  rw [h]
/-- an environment with that scope -/
def envS (sc : Scope) : Env := envOfC "" sc 0 0 .none
theorem Fx.swap (F : Fx X P w K mg base N sc own k) {ts : List Expr} {e : Expr} {r : Sem (Option (List Str))} (h : swappedStores ts e (envS sc) = r) (i : ι) : swappedStores ts e (X i).env = r := by
  rw [swapped_scope (env' := envS sc) (F.hsc i)]
  exact h
end
end Lay
end

section
set_option Elab.async false
set_option linter.all false
set_option maxRecDepth 100000
set_option maxHeartbeats 1000000
namespace Lay
open PySem PySem.Spec PyProof.Rows L2
section
variable {ι : Type} {X : ι → Cx} {P : Program} {w : World} {K : PySem.W.Frag} {mg : Str → Option Value} {base : Heap} {N : List Str} {sc : Scope} {own : Str → Bool} {k : Nat}
variable {e a b c tg iter : Expr} {es : List Expr} {σ : L2.St} {B B' H H' : Hp} {d d1 d2 d3 : PyData} {ds : List PyData} {pos p : Pos} {v : V} {D : Ends} {rest body s1 s2 : List Stmt}
theorem o_neI {i j : Int} : Op2 X (compareOp .NotEq) (.int i) (.int j) (.bool (!decide (i = j))) :=
  ⟨_, fun _ => op_ne, fun B H v1 v2 x r1 r2 Q q => by
    cases r1; cases r2
    refine ⟨rfl, ?_⟩
    rw [show decide (V.int i = V.int j) = decide (i = j) by simp]
    exact q _ B H (Nw.refl x) (.bl _)⟩
/-- list(range(n)) -/
theorem ev_listRange (F : Fx X P w K mg base N sc own k) {n : Int} {p1 p2 : Pos} (h : Ev X a σ B (.int n)) (ml : mg "list" = none) (mr : mg "range" = none) (h0 : 0 ≤ n ∧ n ≤ 10000) (hgl : sc.names.lookup ("list" : Str) = some .globalImplicit := by rfl) (hgr : sc.names.lookup ("range" : Str) = some .globalImplicit := by rfl)
    (na : ∀ env, starEach [.Call (.Name "range" p1) [a] [] p2] env = (false, eval (.Call (.Name "range" p1) [a] [] p2) env) :: starEach [] env := by intro _; rfl) (na2 : ∀ env, starEach [a] env = (false, eval a env) :: starEach [] env := by intro _; rfl) :
    Ev X (.Call (.Name "list" p) [.Call (.Name "range" p1) [a] [] p2] [] pos) σ B (.list (rngD 0 n.toNat)) := fun H x Q q => by
  refine ⟨tLstRg (tRg1 (We X a)), fun i => pe_listRg (F.calm i) (F.gl hgl i) (by rw [F.hmg i]; exact ml) (prg_1 (F.gl hgr i) (by rw [F.hmg i]; exact mr) (We.pe i) (na2 _)) (na _), ?_⟩
  refine h H x _ fun v B1 H1 n1 r1 => ?_
  cases r1
  refine ⟨n, rfl, RgOk.of_le (by omega) (by omega) (by omega) (by omega), fun q' hq => ?_⟩
  have n2 := Nw.new (o := .lst (rgV 0 n)) n1.bh hq
  refine q _ _ _ (n1.trans n2) (.lst upd_same ?_)
  have e : rngD 0 n.toNat = ((List.range n.toNat).map fun i => (0 : Int) + (i : Nat)).map PyData.int := by unfold rngD; rw [List.map_map]; rfl
  have e2 : rgV 0 n = ((List.range n.toNat).map fun i => (0 : Int) + (i : Nat)).map V.int := by unfold rgV; rw [List.map_map, Int.sub_zero]; rfl
  rw [e, e2]
  exact RpAll.ints _

/-! ### cells: new lists that will change -/
/-- a new list, not of what stays -/
def En (X : ι → Cx) (e : Expr) (σ : L2.St) (B : Hp) (ds : List PyData) : Prop := ∀ H, Ex B H → ∀ Q : VK, (∀ p B' H' vs, Nw B H B' H' → H p = none → B' p = none → H' p = some (.lst vs) → RpAll B' vs ds → Q (.ref p) H') → We X e σ H Q
theorem en_nil : En X (.List [] pos) σ B [] := fun H x Q q => by
  refine ⟨tLst tNil, fun i => pe_lst pa_nil, ⟨Nat.zero_le _, fun p hp => ?_⟩⟩
  exact q p B _ [] (Nw.grow x (Ex.new hp)) hp (x.free hp) upd_same .nil
theorem en_rep {n : Int} {p' : Pos} (ha : Ea X [a] σ B [d]) (hb : Ev X b σ B (.int n)) (h0 : 0 ≤ n) (h : n ≤ 10000) : En X (.BinOp (.List [a] p') .Mult b pos) σ B (List.replicate n.toNat d) := fun H x Q q => by
  refine ⟨tOp rRep (We X _) (We X b), fun i => pe_op op_rep (We.pe i) (We.pe i), ?_⟩
  refine ev_lst ha (by simp only [List.length_cons, List.length_nil]; decide) H x _ fun v1 B1 H1 n1 r1 => ?_
  refine hb.mono n1.bb H1 n1.bh _ fun v2 B2 H2 n2 r2 => ?_
  cases r2
  have r1 := r1.up n2.bb
  cases r1 with
  | @lst a1 xs1 _ h1 a1' =>
    cases a1' with
    | @cons y _ _ _ ry rr =>
      cases rr
      refine ⟨_, _, _, rfl, rfl, n2.bh _ _ h1, by omega, by omega, by rw [sizeLine_eq, List.length_cons, List.length_nil]; omega, fun p hp => ?_⟩
      have e : (List.replicate n.toNat [y]).flatten = List.replicate n.toNat y := by
        generalize n.toNat = m
        induction m with
        | zero => rfl
        | succ m ih => rw [List.replicate_succ, List.replicate_succ, List.flatten_cons, ih]; rfl
      have nn := n1.trans n2
      refine q p B2 _ _ (nn.trans (Nw.grow nn.bh (Ex.new hp))) (nn.hh.free hp) (nn.bh.free hp) upd_same ?_
      rw [e]
      exact RpAll.rep ry _
theorem Ev.use {Q : VK} (h : Ev X e σ B d) (hB : Ex B H) (q : ∀ v B' H', Nw B H B' H' → Rp B' v d → Q v H') : We X e σ H Q := h H hB Q q
theorem En.use {Q : VK} (h : En X e σ B ds) (hB : Ex B H) (q : ∀ p B' H' vs, Nw B H B' H' → H p = none → B' p = none → H' p = some (.lst vs) → RpAll B' vs ds → Q (.ref p) H') : We X e σ H Q := h H hB Q q
/-- a cell is taken in -/
theorem Nw.adopt {p : Addr} {o : HO} (n : Nw B H B' H') (h : H p = none) (hb : B' p = none) (h' : H' p = some o) : Nw B H (upd B' p o) H' :=
  ⟨n.bb.trans (Ex.new hb), fun a u ha => by
    by_cases z : a = p
    · rw [z, upd_same] at ha
      rw [z, h', ← ha]
    · rw [upd_ne z] at ha
      exact n.bh a u ha, n.hh, fun a ha => by
    rw [upd_ne (fun z => ha (by rw [z]; exact h))]
    exact n.old a ha⟩
/-- a cell changes -/
theorem Nw.put {p : Addr} {o : HO} (n : Nw B H B' H') (h : H p = none) (hb : B' p = none) : Nw B H B' (upd H' p o) := ⟨n.bb, n.bh.mut hb, n.hh.mut h, n.old⟩
theorem wg_tup3R (F : Fx X P w K mg base N sc own k) {t1 t2 t3 : Expr} {kk : Nat} {Q : L2.St → Hp → Prop} {q : Addr} {v1 v2 v3 : V} (h1 : H q = some (.tup [v1, v2, v3]))
    (hq : Wg X t1 v1 σ H fun σ' H' => Wg X t2 v2 σ' H' fun σ'' H'' => Wg X t3 v3 σ'' H'' Q)
    (e1 : ∀ env, (assignEach [t1, t2, t3] env).map (·.2) = assign t1 env :: (assignEach [t2, t3] env).map (·.2) := by intro _; rfl) (e2 : ∀ env, (assignEach [t2, t3] env).map (·.2) = assign t2 env :: (assignEach [t3] env).map (·.2) := by intro _; rfl)
    (e3 : ∀ env, (assignEach [t3] env).map (·.2) = assign t3 env :: (assignEach [] env).map (·.2) := by intro _; rfl)
    (hn : ∀ env, (assignEach [t1, t2, t3] env).length = 3 := by intro _; rfl) (hst : ∀ env, (assignEach [t1, t2, t3] env).findIdx? (·.1) = none := by intro _; rfl) : Wg X (.Tuple [t1, t2, t3] kk pos) (.ref q) σ H Q := by
  have en : ∀ Q : L2.St → Hp → Prop, (fun σ'' H'' => gNil [] σ'' H'' Q) = Q := fun Q => by
    funext σ'' H''
    apply propext
    exact ⟨fun z => z.2, fun z => ⟨rfl, z⟩⟩
  have ec : ∀ (t : TG) (u : TGs) (y : V) (r : List V) (Q : L2.St → Hp → Prop), (fun σ' H' => gCons t u (y :: r) σ' H' Q) = (fun σ' H' => t y σ' H' fun σ'' H'' => u r σ'' H'' Q) := fun t u y r Q => by
    funext σ' H'
    apply propext
    constructor
    · rintro ⟨v', r', e, h⟩
      cases e
      exact h
    · intro h
      exact ⟨y, r, rfl, h⟩
  refine ⟨gTup K 3 (gCons (Wg X t1) (gCons (Wg X t2) (gCons (Wg X t3) gNil))), fun j => ?_, ?_⟩
  · have h := pg_tup (X := X j) (pos := pos) (k := kk) (F.calm j) (pgs_cons (Wg.pg (X := X) (tg := t1) j) (pgs_cons (Wg.pg (X := X) (tg := t2) j) (pgs_cons (Wg.pg (X := X) (tg := t3) j) pgs_nil (e3 _)) (e2 _)) (e1 _)) (hn _) (hst _)
    rw [F.hK j] at h
    exact h
  · refine ⟨q, _, rfl, SqT.of h1, rfl, v1, [v2, v3], rfl, ?_⟩
    rw [ec, ec, en]
    exact hq
theorem wg_tup2R (F : Fx X P w K mg base N sc own k) {t1 t2 : Expr} {kk : Nat} {Q : L2.St → Hp → Prop} {q : Addr} {v1 v2 : V} (h1 : H q = some (.tup [v1, v2]))
    (hq : Wg X t1 v1 σ H fun σ' H' => Wg X t2 v2 σ' H' Q)
    (e1 : ∀ env, (assignEach [t1, t2] env).map (·.2) = assign t1 env :: (assignEach [t2] env).map (·.2) := by intro _; rfl) (e2 : ∀ env, (assignEach [t2] env).map (·.2) = assign t2 env :: (assignEach [] env).map (·.2) := by intro _; rfl)
    (hn : ∀ env, (assignEach [t1, t2] env).length = 2 := by intro _; rfl) (hst : ∀ env, (assignEach [t1, t2] env).findIdx? (·.1) = none := by intro _; rfl) : Wg X (.Tuple [t1, t2] kk pos) (.ref q) σ H Q := by
  have en : ∀ Q : L2.St → Hp → Prop, (fun σ'' H'' => gNil [] σ'' H'' Q) = Q := fun Q => by
    funext σ'' H''
    apply propext
    exact ⟨fun z => z.2, fun z => ⟨rfl, z⟩⟩
  have ec : ∀ (t : TG) (u : TGs) (y : V) (r : List V) (Q : L2.St → Hp → Prop), (fun σ' H' => gCons t u (y :: r) σ' H' Q) = (fun σ' H' => t y σ' H' fun σ'' H'' => u r σ'' H'' Q) := fun t u y r Q => by
    funext σ' H'
    apply propext
    constructor
    · rintro ⟨v', r', e, h⟩
      cases e
      exact h
    · intro h
      exact ⟨y, r, rfl, h⟩
  refine ⟨gTup K 2 (gCons (Wg X t1) (gCons (Wg X t2) gNil)), fun j => ?_, ?_⟩
  · have h := pg_tup (X := X j) (pos := pos) (k := kk) (F.calm j) (pgs_cons (Wg.pg (X := X) (tg := t1) j) (pgs_cons (Wg.pg (X := X) (tg := t2) j) pgs_nil (e2 _)) (e1 _)) (hn _) (hst _)
    rw [F.hK j] at h
    exact h
  · refine ⟨q, _, rfl, SqT.of h1, rfl, v1, [v2], rfl, ?_⟩
    rw [ec, en]
    exact hq
/-- a tuple made, raw -/
theorem we_tup {x1 : Nat} {Q : VK} (h : Wa X es σ H fun vs H1 => vs.length ≤ sizeLine ∧ ∀ p, H1 p = none → Q (.ref p) (upd H1 p (.tup vs))) : We X (.Tuple es x1 pos) σ H Q := ⟨tTup (Wa X es), fun i => pe_tup (Wa.pa i), h⟩
/-- xs[i] = e, xs a cell -/
theorem ws_setItem (F : Fx X P w K mg base N sc own k) (io : Nat) {x : Str} {px p' : Pos} {i : Expr} {g : Addr} {vs : List V} {j : Nat} (he : Ev X e σ B d) (hi : Ev X i σ B (.int (j : Nat))) (hB : Ex B H) (ho : σ[io]? = some (some (.ref g))) (hg : H g = some (.lst vs)) (hgB : B g = none) (hj : j < vs.length)
    (q : ∀ v B' H', Nw B H B' H' → B' g = none → H' g = some (.lst vs) → Rp B' v d → Ws X rest D σ (upd H' g (.lst (vs.set j v))))
    (hN : N[io]? = some x := by rfl) (hv : Vis sc x := by first | exact Or.inl rfl | exact Or.inr (Or.inl rfl) | exact Or.inr (Or.inr rfl)) (hd : (x == ("__debug__" : Str)) = false := by decide) (hcd : (x == ("__classdict__" : Str)) = false := by decide)
    (ha : ∀ env v, assign (.Subscript (.Name x px) i p') env v = (do
      let ov ← holding [v] (eval (.Name x px) env)
      let iv ← holding [v, ov] (eval i env)
      standAt p'
      holding [v, ov, iv] (setItem ov iv v)
      release [v, ov, iv] []) := by intro _ _; rfl) (hs : ∀ env, swapsWithSole [.Subscript (.Name x px) i p'] e pos.line env = pure false := by intro _; rfl) (hw : ∀ env, swappedStores [.Subscript (.Name x px) i p'] e env = pure none := by intro _; rfl)
    (h1 : ∀ env, (assignEach [.Subscript (.Name x px) i p'] env).map (·.2) = [assign (.Subscript (.Name x px) i p') env] := by intro _; rfl) :
    Ws X (.Assign [.Subscript (.Name x px) i p'] e pos :: rest) D σ H := by
  refine ⟨tSeq (tAsg (We X e) (gSub (tVar io) (We X i) rSetL)) (Ws X rest), fun y => pss_cons (ps_asg (We.pe y) (pg_sub (pe_var (by rw [F.hN y]; exact hN) (by rw [F.hsc y]; exact hv) hd hcd) (We.pe y) set_list (ha _)) (hs _) (hw _) (h1 _)) (Ws.ps y), ?_⟩
  refine he H hB _ fun v B1 H1 n1 r1 => ⟨.ref g, ho, ?_⟩
  refine hi.mono n1.bb H1 n1.bh _ fun v2 B2 H2 n2 r2 => ?_
  cases r2
  have n := n1.trans n2
  have cc := n.cell hg hgB
  refine ⟨g, vs, _, j, rfl, rfl, cc.1, ?_, q v B2 H2 n cc.2 cc.1 (r1.up n2.bb)⟩
  unfold ixN
  rw [if_pos (by omega), if_pos (by omega)]
  simp
/-- xs.append(e), xs a cell -/
theorem ws_append (F : Fx X P w K mg base N sc own k) (io : Nat) {x : Str} {px p1 p2 : Pos} {g : Addr} {vs : List V} (he : Ev X e σ B d) (hB : Ex B H) (ho : σ[io]? = some (some (.ref g))) (hg : H g = some (.lst vs)) (hgB : B g = none) (hz : vs.length < 10000)
    (q : ∀ v B' H', Nw B H B' H' → B' g = none → H' g = some (.lst vs) → Rp B' v d → Ws X rest D σ (upd H' g (.lst (vs ++ [v]))))
    (hN : N[io]? = some x := by rfl) (hv : Vis sc x := by first | exact Or.inl rfl | exact Or.inr (Or.inl rfl) | exact Or.inr (Or.inr rfl)) (hd : (x == ("__debug__" : Str)) = false := by decide) (hcd : (x == ("__classdict__" : Str)) = false := by decide)
    (hst : ∀ env, starEach [e] env = (false, eval e env) :: starEach [] env := by intro _; rfl)
    (hfew : ∀ env, ((backTo p2 (starEach [e] env)).all (fun x => !x.1) && (backToKw p2 (keywordEach [] env)).all (fun x => x.1.isSome) && decide (([e] : List Expr).length + ([] : List Keyword).length + (if ([] : List Keyword).isEmpty then 0 else 1) < 30)) = true := by intro _; rfl)
    (hline : (p1.endLine == p2.line) = true := by rfl) (hbase : ∀ env, attributeBase (.Name x px) "append" env (eval (.Name x px) env) = eval (.Name x px) env := by intro _; rfl) :
    Ws X (.Expr (.Call (.Attribute (.Name x px) "append" p1) [e] [] p2) pos :: rest) D σ H := by
  refine ⟨tSeq (tDrop (tBM K "list" rAppend (tVar io) (tCons (We X e) tNil))) (Ws X rest), fun y => ?_, ?_⟩
  · refine pss_cons (ps_expr ?_ rfl) (Ws.ps y)
    have h := pe_bm (X := X y) (cpos := p2) (apos := p1) PySem.F.plainAttrs_list PySem.F.slot_list_append PySem.F.type_list_append mt_append (pe_var (i := io) (pos := px) (by rw [F.hN y]; exact hN) (by rw [F.hsc y]; exact hv) hd hcd) (pa_cons (We.pe (X := X) (e := e) y) pa_nil (hst _)) (hbase _) (hfew _) hline (hst _) rfl
    rw [F.hK y] at h
    exact h
  · refine ⟨.ref g, ho, .inl ⟨rfl, _, SqL.of hg⟩, ?_⟩
    refine he H hB _ fun v B1 H1 n1 r1 => ?_
    have cc := n1.cell hg hgB
    exact ⟨g, vs, v, rfl, rfl, cc.1, Nat.lt_of_lt_of_le hz (by decide), q v B1 H1 n1 cc.2 cc.1 r1⟩
end
end Lay
end

section
set_option Elab.async false
set_option linter.all false
set_option maxRecDepth 100000
set_option maxHeartbeats 1000000
namespace Lay
open PySem PySem.Spec PyProof.Rows L2
open PySem.W (EachIs AllAlike Sortable dataLe alike)
/-- the sorted list -/
def srt {β : Type} (enc : β → PyData) (bs : List β) : List β := bs.mergeSort (dataLe false enc)
theorem srt_perm {β : Type} (enc : β → PyData) (bs : List β) : (srt enc bs).Perm bs := List.mergeSort_perm _ _
section
variable {β : Type}
theorem each_vals : ∀ {its : List (V × β)} {us : List Value}, Vals (its.map (·.1)) us → EachIs (fun v (z : V × β) => RelV z.1 v) us its
  | [], _, h => by cases h; exact .nil
  | z :: its, _, h => by
    cases h with
    | cons r t => exact .cons r (each_vals t)
theorem vals_each : ∀ {its : List (V × β)} {us : List Value}, EachIs (fun v (z : V × β) => RelV z.1 v) us its → Vals (its.map (·.1)) us
  | [], _, h => by cases h; exact .nil
  | z :: its, _, h => by
    cases h with
    | cons r t => exact .cons r (vals_each t)
theorem each_and {R R' : Value → V × β → Prop} : ∀ {its : List (V × β)} {us : List Value}, EachIs R us its → (∀ v z, z ∈ its → R v z → R' v z) → EachIs R' us its
  | _, _, .nil, _ => .nil
  | _, _, .cons r t, h => .cons (h _ _ List.mem_cons_self r) (each_and t fun v z hz => h v z (List.mem_cons_of_mem _ hz))
/-- what is asked of the items -/
structure SortOk (enc : β → PyData) (bs : List β) : Prop where
  alike : AllAlike (bs.map enc)
  able : Sortable (bs.map enc)
  len : bs.length ≤ 10000
  deep : ∀ b ∈ bs, (enc b).depth ≤ 60
variable {X : Cx} {pins : List (Addr × Obj)} {σ : L2.St} {H : Hp} {s : Shared}
theorem reads_of (I : Inv X pins σ H s) {enc : β → PyData} {its : List (V × β)} (hr : ∀ z ∈ its, Rp H z.1 (enc z.2)) {us : List Value} (e : EachIs (fun v (z : V × β) => RelV z.1 v) us its) :
    EachIs (fun v (z : V × β) => ∃ as, Reads s.heap v (enc z.2) as) us its := each_and e fun v z hz r => Dp.reads I _ _ v ((hr z hz).dp) r
def rSortedL (K : PySem.W.Frag) (enc : β → PyData) : List V → Hp → VK → Prop := fun vs H Q => ∃ (a : Addr) (its : List (V × β)), vs = [.ref a] ∧ SqL K H a (its.map (·.1)) ∧ (∀ z ∈ its, Rp H z.1 (enc z.2)) ∧ SortOk enc (its.map (·.2)) ∧
  ∀ p, H p = none → Q (.ref p) (upd H p (.lst ((srt (fun z => enc z.2) its).map (·.1))))
theorem ok2 {enc : β → PyData} {its : List (V × β)} (h : SortOk enc (its.map (·.2))) : AllAlike (its.map fun z => enc z.2) ∧ Sortable (its.map fun z => enc z.2) ∧ its.length ≤ 10000 ∧ ∀ z ∈ its, (enc z.2).depth ≤ 60 := by
  have e : (its.map (·.2)).map enc = its.map fun z => enc z.2 := by rw [List.map_map]; rfl
  refine ⟨by rw [← e]; exact h.alike, by rw [← e]; exact h.able, by have := h.len; rwa [List.length_map] at this, fun z hz => h.deep _ (List.mem_map_of_mem hz)⟩
theorem cr_sortedL {enc : β → PyData} {kk : Nat} (hr : Room kk X.A) : CallR X (.builtin "sorted") (rSortedL X.K enc) := by
  intro pins s σ H xs us Q I r h
  obtain ⟨a, its, rfl, hl, hp, ok, q⟩ := h
  obtain rfl := Vals.ref1 r
  obtain ⟨vs, rv, pl, hz⟩ := I.list hl
  obtain ⟨o1, o2, o3, o4⟩ := ok2 ok
  have e := each_vals rv
  have hun := hr.un
  refine PySem.W.sorted_data (bs := its) (enc := fun z => enc z.2) pl.isList e (reads_of I hp e) o1 o2 (by rw [sizeLine_eq]; omega) (fun z hz => ?_) fun out ho eo => ?_
  · have := o4 z hz
    omega
  · obtain ⟨ep, he⟩ := PyProof.Rows.sortedAll_at s.heap vs out.toArray
    have rv' := vals_each eo
    have hlen : ((srt (fun z : V × β => enc z.2) its).map (·.1)).length ≤ sizeLine := by
      rw [List.length_map, (srt_perm _ _).length_eq, sizeLine_eq]
      omega
    have hf : H (s.heap.objs.size + 1) = none := I.hok.fresh (Nat.le_succ _)
    exact ⟨.ref (s.heap.objs.size + 1), upd H (s.heap.objs.size + 1) (.lst ((srt (fun z => enc z.2) its).map (·.1))), I.laid (t' := s.toks) (fun b o e => PyProof.Rows.sortedAll_old e) (Nat.le_succ _) ⟨hlen, out, ep, rv', he⟩, rfl, q _ hf⟩
end
section
variable {ι : Type} {X : ι → Cx} {P : Program} {w : World} {K : PySem.W.Frag} {mg : Str → Option Value} {base : Heap} {N : List Str} {sc : Scope} {own : Str → Bool} {k : Nat} {β : Type}
theorem zip_snd {enc : β → PyData} {B : Hp} : ∀ {vs : List V} {bs : List β}, RpAll B vs (bs.map enc) → (vs.zip bs).map (·.1) = vs ∧ (vs.zip bs).map (·.2) = bs ∧ ∀ z ∈ vs.zip bs, Rp B z.1 (enc z.2)
  | [], [], _ => ⟨rfl, rfl, fun _ h => absurd h (by simp)⟩
  | [], b :: bs, h => by cases h
  | v :: vs, [], h => by cases h
  | v :: vs, b :: bs, h => by
    cases h with
    | cons h1 h2 =>
      obtain ⟨a, c, d⟩ := zip_snd h2
      refine ⟨by rw [List.zip_cons_cons, List.map_cons, a], by rw [List.zip_cons_cons, List.map_cons, c], fun z hz => ?_⟩
      rw [List.zip_cons_cons] at hz
      rcases List.mem_cons.mp hz with q | q
      · rw [q]; exact h1
      · exact d z q
theorem rp_of_zip {enc : β → PyData} {B : Hp} : ∀ {zs : List (V × β)}, (∀ z ∈ zs, Rp B z.1 (enc z.2)) → RpAll B (zs.map (·.1)) ((zs.map (·.2)).map enc)
  | [], _ => .nil
  | z :: zs, h => .cons (h z List.mem_cons_self) (rp_of_zip fun y hy => h y (List.mem_cons_of_mem _ hy))
theorem srt_snd (enc : β → PyData) (zs : List (V × β)) : (srt (fun z : V × β => enc z.2) zs).map (·.2) = srt enc (zs.map (·.2)) :=
  List.map_mergeSort fun a _ b _ => rfl
/-- the sorted items stand for the sorted data -/
theorem srt_rp {enc : β → PyData} {B : Hp} {vs : List V} {bs : List β} (h : RpAll B vs (bs.map enc)) : RpAll B ((srt (fun z : V × β => enc z.2) (vs.zip bs)).map (·.1)) ((srt enc bs).map enc) := by
  obtain ⟨a, c, d⟩ := zip_snd h
  have e := srt_snd enc (vs.zip bs)
  rw [c] at e
  rw [← e]
  exact rp_of_zip fun z hz => d z ((srt_perm _ _).mem_iff.mp hz)
theorem c_sortedL (F : Fx X P w K mg base N sc own k) {enc : β → PyData} {bs : List β} (ok : SortOk enc bs) : C1 X (.builtin "sorted") [.list (bs.map enc)] (.list ((srt enc bs).map enc)) :=
  ⟨rSortedL K enc, fun i => by have h := cr_sortedL (X := X i) (enc := enc) (F.room i); rw [F.hK i] at h; exact h, fun B H vs x r Q q => by
    cases r with
    | cons r1 r2 =>
      cases r2
      cases r1 with
      | @lst a xs _ h1 h2 =>
        obtain ⟨e1, e2, e3⟩ := zip_snd h2
        refine ⟨a, xs.zip bs, rfl, by rw [e1]; exact SqL.of (x _ _ h1), fun z hz => (e3 z hz).up x, by rw [e2]; exact ok, fun p hp => ?_⟩
        have n := Nw.new (o := .lst ((srt (fun z : V × β => enc z.2) (xs.zip bs)).map (·.1))) x hp
        exact q _ _ _ n (.lst upd_same ((srt_rp h2).up n.bb))⟩
end
end Lay
end

section
set_option Elab.async false
set_option linter.all false
set_option maxRecDepth 100000
set_option maxHeartbeats 1000000
/-! dict cells: taken into what stays while they are read, then dropped again -/
namespace Lay
open PySem PySem.Spec PyProof.Rows L2
def hole (B : Hp) (g : Addr) : Hp := fun a => if a = g then none else B a
theorem hole_same {B : Hp} {g : Addr} : hole B g g = none := if_pos rfl
theorem hole_ne {B : Hp} {g a : Addr} (h : ¬ a = g) : hole B g a = B a := if_neg h
/-- no list or tuple -/
def Dic : HO → Prop | .lst _ => False | .tup _ => False | _ => True
mutual
theorem Rp.hole' {B : Hp} {g : Addr} {o : HO} (hg : B g = some o) (ho : Dic o) : ∀ (d : PyData) {v : V}, Rp B v d → Rp (hole B g) v d
  | .none, _, h => by cases h; exact .non
  | .bool _, _, h => by cases h; exact .bl _
  | .int _, _, h => by cases h; exact .int _
  | .str _, _, h => by cases h; exact .str _
  | .list ds, _, h => by
    cases h with
    | @lst a xs _ h1 h2 => exact .lst (by rw [hole_ne (fun z => by rw [z, hg] at h1; cases h1; exact ho)]; exact h1) (RpAll.hole' hg ho ds h2)
  | .tuple ds, _, h => by
    cases h with
    | @tup a xs _ h1 h2 => exact .tup (by rw [hole_ne (fun z => by rw [z, hg] at h1; cases h1; exact ho)]; exact h1) (RpAll.hole' hg ho ds h2)
  | .dict _, _, h => by cases h
theorem RpAll.hole' {B : Hp} {g : Addr} {o : HO} (hg : B g = some o) (ho : Dic o) : ∀ (ds : List PyData) {vs : List V}, RpAll B vs ds → RpAll (hole B g) vs ds
  | [], _, h => by cases h; exact .nil
  | d :: ds, _, h => by
    cases h with
    | cons h1 h2 => exact .cons (Rp.hole' hg ho d h1) (RpAll.hole' hg ho ds h2)
end
section
variable {B H B' H' : Hp} {g : Addr} {o : HO}
theorem ex_take (e : Ex B H) (h : H g = some o) : Ex (upd B g o) H := fun a u ha => by
  by_cases z : a = g
  · rw [z, upd_same] at ha
    rw [z, h, ← ha]
  · rw [upd_ne z] at ha
    exact e a u ha
/-- what was taken in is dropped: the cell stands yet -/
theorem Nw.drop (n : Nw (upd B g o) H B' H') (hb : B g = none) : Nw B H (hole B' g) H' ∧ B' g = some o ∧ H' g = some o ∧ hole B' g g = none := by
  have hB : B' g = some o := n.bb g o upd_same
  refine ⟨⟨fun a u ha => ?_, fun a u ha => ?_, n.hh, fun a ha => ?_⟩, hB, n.bh g o hB, hole_same⟩
  · have z : ¬ a = g := fun z => by rw [z, hb] at ha; cases ha
    rw [hole_ne z]
    exact n.bb a u (by rw [upd_ne z]; exact ha)
  · by_cases z : a = g
    · rw [z, hole_same] at ha; cases ha
    · rw [hole_ne z] at ha
      exact n.bh a u ha
  · by_cases z : a = g
    · rw [z, hole_same, hb]
    · rw [hole_ne z, n.old a ha, upd_ne z]
theorem Rp.drop {v : V} {d : PyData} (r : Rp B' v d) (hg : B' g = some o) (ho : Dic o := by trivial) : Rp (hole B' g) v d := Rp.hole' hg ho d r
end
section
variable {X : Cx}
/-- max of a dict of whole numbers -/
def rMaxDk : List V → Hp → VK → Prop := fun vs H Q => ∃ (a : Addr) (kvs : List (Key × V)) (ns : List Int), vs = [.ref a] ∧ H a = some (.dK kvs) ∧ kvs.map (·.1) = ns.map Sum.inl ∧ 0 < ns.length ∧ ∀ m, m ∈ ns → (∀ y, y ∈ ns → y ≤ m) → Q (.int m) H
theorem key_int {i : Int} {v : Value} (h : keyIs (.inl i) v = true) : ∃ t, v = .int i t := by
  rcases keyIs_shape h with ⟨j, t, e, rfl⟩ | ⟨x, t, e, rfl⟩
  · cases e; exact ⟨t, rfl⟩
  · cases e
theorem cr_maxDk (hc : X.calm = true) : CallR X (.builtin "max") rMaxDk := by
  intro pins s σ H vs us Q I r h
  obtain ⟨a, kvs, ns, rfl, ea, hk, hne, q⟩ := h
  rw [Vals.ref1 r]
  obtain ⟨z, hd, xs, rel, dd⟩ := dk_of I.hok ea
  obtain ⟨ep, da⟩ := dd.dictAt
  have hl : xs.length = ns.length := by
    have e := congrArg List.length hk
    rw [List.length_map, List.length_map] at e
    rw [← rel.length]; exact e
  have keys : ∀ {kvs : List (Key × V)} {xs : List (Key × Value)}, KV kvs xs → ∀ ns : List Int, kvs.map (·.1) = ns.map Sum.inl → ∀ (i : Nat) (p : Key × Value), xs[i]? = some p → p.1 = Sum.inl (ns.getD i 0) := by
    intro kvs xs r
    unfold KV at r
    induction r with
    | nil => intro ns _ i p h; simp at h
    | @cons p q ps qs h t ih =>
      intro ns e i w hw
      cases ns with
      | nil => cases e
      | cons n ns =>
        rw [List.map_cons, List.map_cons, List.cons.injEq] at e
        cases i with
        | zero =>
          simp only [List.getElem?_cons_zero, Option.some.injEq] at hw
          subst hw
          rw [← h.1, e.1]; rfl
        | succ i =>
          rw [List.getElem?_cons_succ] at hw
          rw [ih ns e.2 i w hw]; rfl
  have hP : ∀ (i : Nat) (v : Value), (∃ k x, xs[i]? = some (k, x) ∧ (mixKind X.prog X.w).is k v = true) → ∃ t, v = .int (ns.getD i 0) t := fun i v ⟨k, x, hx, hv⟩ => by
    have e := keys rel ns hk i _ hx
    rw [mixKind_is, show k = Sum.inl (ns.getD i 0) from e] at hv
    exact key_int hv
  refine call_max_walk ?_
  refine wpAny_pyIter_dict hd da ?_
  have ha : a < s.heap.objs.size := by obtain ⟨o, _, ho, _⟩ := da; exact Heap.lt_size ho
  refine ⟨s.heap.objs.size, [s.heap.objs.size, a], [s.heap.objs.size], xs.length, _, _, fun i j => decide (ns.getD i 0 > ns.getD j 0), rfl, Walks.dictKeys (knd := mixKind X.prog X.w) (show X.A.in1.handled = none from I.ok.hd hc) _ a (Nat.ne_of_lt ha) xs ep,
    ⟨⟨_, Heap.get?_push_size _ rfl, rfl, rfl⟩, da.keep fun b o e => Heap.get?_push_of_some _ e⟩, fun b hb => ?_, by omega, CmpOf.ints_gt (fun i => ns.getD i 0) hP, fun v h' tk hv hkk => ?_⟩
  · show b < (s.heap.push _).objs.size
    rw [Heap.size_push]
    rcases List.mem_cons.mp hb with z | z
    · rw [z]; exact Nat.lt_succ_self _
    · rw [List.mem_singleton.mp z]
      exact Nat.lt_succ_of_lt ha
  · obtain ⟨t, rfl⟩ := hP _ v hv
    obtain ⟨h1, h2⟩ := argBest_gt (fun i => ns.getD i 0) (xs.length - 1)
    have mem : ∀ i, i < ns.length → ns.getD i 0 ∈ ns := fun i hi => by
      rw [List.getD_eq_getElem?_getD, List.getElem?_eq_getElem hi]
      exact List.getElem_mem hi
    refine ⟨.int _, H, I.kept (t' := tk) (fun b o e => hkk b o (fun hm => ?_) (Heap.get?_push_of_some _ e)), ⟨t, rfl⟩, q _ (mem _ (by omega)) fun y hy => ?_⟩
    · rw [List.mem_singleton.mp hm] at e
      exact absurd (Heap.lt_size e) (Nat.lt_irrefl _)
    · obtain ⟨i, hi, rfl⟩ := List.getElem_of_mem hy
      have := h2 i (by omega)
      rw [show ns.getD i 0 = ns[i] by rw [List.getD_eq_getElem?_getD, List.getElem?_eq_getElem hi]; rfl] at this
      exact this
/-- d != {} -/
def rNeE : R2 := fun x y H Q => ∃ a b ks, x = .ref a ∧ y = .ref b ∧ H a = some (.dK ks) ∧ H b = some (.dK []) ∧ Q (.bl (!ks.isEmpty)) H
theorem op_neE (hu : X.A.units < cLine) : OpR X (compareOp .NotEq) rNeE := by
  intro pins s σ H x y v u Q I rx ry h
  obtain ⟨a, b, ks, rfl, rfl, ea, eb, q⟩ := h
  obtain rfl : v = Value.ref a := rx
  obtain rfl : u = Value.ref b := ry
  obtain ⟨_, ya, va, ra, da⟩ := (show ObjOk X.prog X.w H s.heap a (.dK ks) from I.hok a _ ea)
  obtain ⟨_, yb, vb, rb, db⟩ := (show ObjOk X.prog X.w H s.heap b (.dK []) from I.hok b _ eb)
  have hb : vb.length = 0 := by rw [← rb.length]; rfl
  have hl : va.length = ks.length := ra.length.symm
  refine PySem.W.keq_ne (knd := mixKind X.prog X.w) (r := true) ya yb da db hu (fun e => ?_) (fin_bl I q ?_)
  · have : va = [] := List.length_eq_zero_iff.mp (e.trans hb)
    rw [this]
    exact .nil
  · cases ks with
    | nil => rw [hl, hb]; rfl
    | cons p ks => rw [hl, hb]; rfl
end
section
variable {ι : Type} {X : ι → Cx} {P : Program} {w : World} {K : PySem.W.Frag} {mg : Str → Option Value} {base : Heap} {N : List Str} {sc : Scope} {own : Str → Bool} {k : Nat}
variable {e a b c f tg iter i : Expr} {es : List Expr} {σ : L2.St} {B B' H H' : Hp} {d d1 d2 d3 : PyData} {ds : List PyData} {pos p px p1 p2 pos' : Pos} {v : V} {D : Ends} {rest body s1 s2 : List Stmt} {x : Str} {g : Addr} {kvs : List (Key × V)}
/-- d[n] -/
theorem ev_dget (F : Fx X P w K mg base N sc own k) (io : Nat) {n : Int} (ho : σ[io]? = some (some (.ref g))) (hg : B g = some (.dK kvs)) (hi : Ev X i σ B (.int n)) (hv : valV kvs (.inl n) = some v) (r : Rp B v d) (hN : N[io]? = some x := by rfl)
    (hx : Vis sc x := by first | exact Or.inl rfl | exact Or.inr (Or.inl rfl) | exact Or.inr (Or.inr rfl)) (hd : (x == ("__debug__" : Str)) = false := by decide) (hcd : (x == ("__classdict__" : Str)) = false := by decide) (hs : NoSl i := by intro _ _; rfl) :
    Ev X (.Subscript (.Name x px) i pos) σ B d := fun H z Q q => by
  refine ⟨tDGet (tVar io) (We X i), fun y => pe_dget (F.hu1 y) (pe_var (by rw [F.hN y]; exact hN) (by rw [F.hsc y]; exact hx) hd hcd) (We.pe y) hs, ?_⟩
  refine ⟨.ref g, ho, hi H z _ fun u B1 H1 n1 r1 => ?_⟩
  cases r1
  refine ⟨g, v, rfl, ?_, q v B1 H1 n1 (r.up n1.bb)⟩
  rw [← hv]
  exact DGet.k (k := Sum.inl n) (n1.bh _ _ (n1.bb _ _ hg))
/-- d.get(n, f) -/
theorem ev_dget2 (F : Fx X P w K mg base N sc own k) (io : Nat) {n : Int} (ho : σ[io]? = some (some (.ref g))) (hg : B g = some (.dK kvs)) (hi : Ev X e σ B (.int n)) (hf : Ev X f σ B d1) (h1 : ∀ v, valV kvs (.inl n) = some v → Rp B v d) (h2 : valV kvs (.inl n) = none → d1 = d)
    (hN : N[io]? = some x := by rfl) (hx : Vis sc x := by first | exact Or.inl rfl | exact Or.inr (Or.inl rfl) | exact Or.inr (Or.inr rfl)) (hd : (x == ("__debug__" : Str)) = false := by decide) (hcd : (x == ("__classdict__" : Str)) = false := by decide) (m : ∀ y, M2 (X y) (.Name x px) "get" p1 e f p2 := by intro _; exact ⟨rfl, rfl, rfl, rfl⟩) :
    Ev X (.Call (.Attribute (.Name x px) "get" p1) [e, f] [] p2) σ B d := fun H z Q q => by
  refine ⟨tDGet2 (tVar io) (We X e) (We X f), fun y => pe_dget2 (F.hu1 y) (pe_var (by rw [F.hN y]; exact hN) (by rw [F.hsc y]; exact hx) hd hcd) (We.pe y) (We.pe y) (m y), ?_⟩
  refine ⟨.ref g, ho, g, rfl, .inl ⟨kvs, .inl (z _ _ hg)⟩, hi H z _ fun u B1 H1 n1 r1 => ?_⟩
  cases r1
  refine hf.mono n1.bb H1 n1.bh _ fun u2 B2 H2 n2 r2 => ?_
  refine ⟨valV kvs (.inl n), DGet.k (k := Sum.inl n) (n2.bh _ _ (n2.bb _ _ (n1.bb _ _ hg))), ?_⟩
  cases e : valV kvs (.inl n) with
  | none => rw [← h2 e] at q; exact q u2 B2 H2 (n1.trans n2) r2
  | some v => exact q v B2 H2 (n1.trans n2) (((h1 v e).up n1.bb).up n2.bb)
/-- n in d, n not in d -/
theorem et_din (F : Fx X P w K mg base N sc own k) (io : Nat) {n : Int} (ho : σ[io]? = some (some (.ref g))) (hg : B g = some (.dK kvs)) (hi : Ev X i σ B (.int n)) (hN : N[io]? = some x := by rfl)
    (hx : Vis sc x := by first | exact Or.inl rfl | exact Or.inr (Or.inl rfl) | exact Or.inr (Or.inr rfl)) (hd : (x == ("__debug__" : Str)) = false := by decide) (hcd : (x == ("__classdict__" : Str)) = false := by decide) :
    Et X (.Compare i [.In] [.Name x px] pos) σ B (valV kvs (.inl n)).isSome := fun H z Q q => by
  refine ⟨tB (tDIn (We X i) (tVar io)), fun y => pt_cmp (pc_din (F.hu1 y) (We.pe y) (pe_var (by rw [F.hN y]; exact hN) (by rw [F.hsc y]; exact hx) hd hcd)) (by rfl), ?_⟩
  refine hi H z _ fun u B1 H1 n1 r1 => ⟨.ref g, ho, ?_⟩
  cases r1
  exact ⟨g, _, rfl, DGet.k (k := Sum.inl n) (n1.bh _ _ (n1.bb _ _ hg)), _, rfl, q H1 n1.hh⟩
theorem et_dnotin (F : Fx X P w K mg base N sc own k) (io : Nat) {n : Int} (ho : σ[io]? = some (some (.ref g))) (hg : B g = some (.dK kvs)) (hi : Ev X i σ B (.int n)) (hN : N[io]? = some x := by rfl)
    (hx : Vis sc x := by first | exact Or.inl rfl | exact Or.inr (Or.inl rfl) | exact Or.inr (Or.inr rfl)) (hd : (x == ("__debug__" : Str)) = false := by decide) (hcd : (x == ("__classdict__" : Str)) = false := by decide) :
    Et X (.Compare i [.NotIn] [.Name x px] pos) σ B (!(valV kvs (.inl n)).isSome) := fun H z Q q => by
  refine ⟨tB (tDNotIn (We X i) (tVar io)), fun y => pt_cmp (pc_dnotin (F.hu1 y) (We.pe y) (pe_var (by rw [F.hN y]; exact hN) (by rw [F.hsc y]; exact hx) hd hcd)) (by rfl), ?_⟩
  refine hi H z _ fun u B1 H1 n1 r1 => ⟨.ref g, ho, ?_⟩
  cases r1
  exact ⟨g, _, rfl, DGet.k (k := Sum.inl n) (n1.bh _ _ (n1.bb _ _ hg)), _, rfl, q H1 n1.hh⟩
/-- max(d) -/
theorem ev_maxD (F : Fx X P w K mg base N sc own k) (io : Nat) {ns : List Int} {m : Int} (ho : σ[io]? = some (some (.ref g))) (hg : B g = some (.dK kvs)) (hk : kvs.map (·.1) = ns.map Sum.inl) (h : m ∈ ns) (hm : ∀ y ∈ ns, y ≤ m) (mm : mg "max" = none) (hN : N[io]? = some x := by rfl)
    (hx : Vis sc x := by first | exact Or.inl rfl | exact Or.inr (Or.inl rfl) | exact Or.inr (Or.inr rfl)) (hd : (x == ("__debug__" : Str)) = false := by decide) (hcd : (x == ("__classdict__" : Str)) = false := by decide) (hgl : sc.names.lookup ("max" : Str) = some .globalImplicit := by rfl)
    (he : ∀ env, starEach [.Name x px] env = (false, eval (.Name x px) env) :: starEach [] env := by intro _; rfl) (hpl : ∀ env, (backTo pos (starEach [.Name x px] env)).any (·.1) = false := by intro _; rfl) :
    Ev X (.Call (.Name "max" p) [.Name x px] [] pos) σ B (.int m) := fun H z Q q => by
  refine ⟨tCB rMaxDk (tCons (tVar io) tNil), fun y => pe_callB (cr_maxDk (F.calm y)) (F.gl hgl y) (by rw [F.hmg y]; exact mm) (by decide +kernel) (pa_cons (pe_var (by rw [F.hN y]; exact hN) (by rw [F.hsc y]; exact hx) hd hcd) pa_nil (he (X y).env)) (by decide) (by decide) (he (X y).env) (hpl (X y).env), ?_⟩
  refine ⟨.ref g, ho, g, kvs, ns, rfl, z _ _ hg, hk, List.length_pos_of_mem h, fun m' hm' hle => ?_⟩
  have : m' = m := Int.le_antisymm (hm m' hm') (hle m h)
  subst this
  exact q _ B H (Nw.refl z) (.int _)
/-- d != {} -/
theorem et_dne (F : Fx X P w K mg base N sc own k) (io : Nat) (ho : σ[io]? = some (some (.ref g))) (hg : B g = some (.dK kvs)) (hN : N[io]? = some x := by rfl)
    (hx : Vis sc x := by first | exact Or.inl rfl | exact Or.inr (Or.inl rfl) | exact Or.inr (Or.inr rfl)) (hd : (x == ("__debug__" : Str)) = false := by decide) (hcd : (x == ("__classdict__" : Str)) = false := by decide) :
    Et X (.Compare (.Name x px) [.NotEq] [.Dict [] [] p1] pos) σ B (!kvs.isEmpty) := fun H z Q q => by
  refine ⟨tTest (tOp rNeE (tVar io) tDNewK), fun y => pt_cmpR (op_neE (by have := F.hu1 y; omega)) (pe_var (by rw [F.hN y]; exact hN) (by rw [F.hsc y]; exact hx) hd hcd) pe_dnewK (by first | exact nomark _ | rfl), ?_⟩
  refine ⟨.ref g, ho, fun h hh => ?_⟩
  have hz := z _ _ hg
  exact ⟨g, h, kvs, rfl, rfl, by rw [upd_ne (ne_of_none hz hh)]; exact hz, upd_same, _, rfl, q _ (Ex.new hh)⟩
/-- d[n] = e -/
theorem ws_dput (F : Fx X P w K mg base N sc own k) (io : Nat) {n : Int} (he : Ev X e σ (upd B g (.dK kvs)) d) (hi : Ev X i σ (upd B g (.dK kvs)) (.int n)) (hB : Ex B H) (ho : σ[io]? = some (some (.ref g))) (hg : H g = some (.dK kvs)) (hgB : B g = none) (hl : kvs.length < 10000)
    (q : ∀ v B' H', Nw B H B' H' → B' g = none → H' g = some (.dK kvs) → Rp B' v d → Ws X rest D σ (upd H' g (.dK (putK kvs (.inl n) v)))) (hN : N[io]? = some x := by rfl)
    (hx : Vis sc x := by first | exact Or.inl rfl | exact Or.inr (Or.inl rfl) | exact Or.inr (Or.inr rfl)) (hd : (x == ("__debug__" : Str)) = false := by decide) (hcd : (x == ("__classdict__" : Str)) = false := by decide)
    (hs : ∀ env, swapsWith e (some (.Subscript (.Name x px) i pos')) pos.line env = pure false := by intro _; rfl) :
    Ws X (.Assign [.Subscript (.Name x px) i pos'] e pos :: rest) D σ H := by
  refine ⟨tSeq (sDPut (tVar io) (We X i) (We X e)) (Ws X rest), fun y => pss_cons (ps_dput (F.hu1 y) (pe_var (by rw [F.hN y]; exact hN) (by rw [F.hsc y]; exact hx) hd hcd) (We.pe y) (We.pe y) (hs _)) (Ws.ps y), ?_⟩
  refine he H (ex_take hB hg) _ fun v B1 H1 n1 r1 => ⟨.ref g, ho, ?_⟩
  refine hi.mono n1.bb H1 n1.bh _ fun u B2 H2 n2 r2 => ?_
  cases r2
  obtain ⟨n5, b2, h2, bn⟩ := (n1.trans n2).drop hgB
  exact ⟨g, _, rfl, DPut.k (k := Sum.inl n) h2 (Nat.lt_of_lt_of_le hl (by decide)), q v _ H2 n5 bn h2 ((r1.up n2.bb).drop b2)⟩
/-- x = {} -/
theorem en_dk {Q : VK} (q : ∀ h, H h = none → Q (.ref h) (upd H h (.dK []))) : We X (.Dict [] [] pos) σ H Q := ⟨tDNewK, fun _ => pe_dnewK, q⟩
theorem en_dt {Q : VK} (q : ∀ h, H h = none → Q (.ref h) (upd H h (.dT []))) : We X (.Dict [] [] pos) σ H Q := ⟨tDNewT, fun _ => pe_dnewT, q⟩
end
end Lay
end

section
set_option Elab.async false
set_option linter.all false
set_option maxRecDepth 100000
set_option maxHeartbeats 1000000
namespace Lay
open PySem PySem.Spec PyProof.Rows L2
section
variable {ι : Type} {X : ι → Cx} {P : Program} {w : World} {K : PySem.W.Frag} {mg : Str → Option Value} {base : Heap} {N : List Str} {sc : Scope} {own : Str → Bool} {k : Nat}
variable {e a b c tg iter : Expr} {es : List Expr} {σ : L2.St} {B B' H H' : Hp} {d d1 d2 d3 : PyData} {ds : List PyData} {pos p : Pos} {v : V} {D : Ends} {rest body s1 s2 : List Stmt}
/-- a, b, c = x, y, z: three local names -/
theorem ws_par3 (F : Fx X P w K mg base N sc own k) (i j l : Nat) {x y z : Str} {px py pz pt pt2 : Pos} {kt k2 : Nat} (h : Wa X [a, b, c] σ H fun vs H1 => ∃ u v w, vs = [u, v, w] ∧ Ws X rest D (((σ.set i (some u)).set j (some v)).set l (some w)) H1) (hi : N[i]? = some x := by rfl) (hj : N[j]? = some y := by rfl) (hl : N[l]? = some z := by rfl)
    (hij : i ≠ j := by decide) (hil : i ≠ l := by decide) (hjl : j ≠ l := by decide) (hx : sc.names.lookup x = some .local := by rfl) (hy : sc.names.lookup y = some .local := by rfl) (hz : sc.names.lookup z = some .local := by rfl)
    (hw : ∀ i, swappedStores [.Tuple [.Name x px, .Name y py, .Name z pz] kt pt] (.Tuple [a, b, c] k2 pt2) (X i).env = pure (some [x, y, z]))
    (hs : ∀ env, swapsWithSole [.Tuple [.Name x px, .Name y py, .Name z pz] kt pt] (.Tuple [a, b, c] k2 pt2) pos.line env = pure false := by intro _; rfl) : Ws X (.Assign [.Tuple [.Name x px, .Name y py, .Name z pz] kt pt] (.Tuple [a, b, c] k2 pt2) pos :: rest) D σ H :=
  ⟨tSeq (tPar3 i j l (Wa X [a, b, c])) (Ws X rest), fun q => pss_cons (ps_par3 (F.calm q) (F.nd' q) (by rw [F.hN q]; exact hi) (by rw [F.hN q]; exact hj) (by rw [F.hN q]; exact hl) hij hil hjl (by rw [F.hsc q]; exact hx) (by rw [F.hsc q]; exact hy) (by rw [F.hsc q]; exact hz) (Wa.pa q) (hw q) (hs _)) (Ws.ps q), h⟩
theorem o_mulW {i j : Int} (h : CMulW i j) : Op2 X (binaryOp .Mult) (.int i) (.int j) (.int (i * j)) := Op2.I (fun _ => op_mulW) h fun _ => .int _
theorem o_fdivW {i j : Int} (h : CDivW i j) : Op2 X (binaryOp .FloorDiv) (.int i) (.int j) (.int (i / j)) := Op2.I (fun _ => op_fdivW) h fun _ => .int _
theorem o_pow {i j : Int} (h : CPow i j) : Op2 X (binaryOp .Pow) (.int i) (.int j) (.int (i ^ j.toNat)) := Op2.I (fun _ => op_pow) h fun _ => .int _
end
end Lay
end

section
set_option Elab.async false
set_option linter.all false
set_option maxRecDepth 100000
set_option maxHeartbeats 1000000
/-! raw rules: words, where a step may change cells -/
namespace Lay
open PySem PySem.Spec PyProof.Rows L2
section
variable {ι : Type} {X : ι → Cx} {P : Program} {w : World} {K : PySem.W.Frag} {mg : Str → Option Value} {base : Heap} {N : List Str} {sc : Scope} {own : Str → Bool} {k : Nat}
variable {e a b c tg iter : Expr} {es : List Expr} {σ : L2.St} {B B' H H' : Hp} {d d1 d2 d3 : PyData} {ds : List PyData} {pos p : Pos} {v : V} {D : Ends} {rest body s1 s2 : List Stmt}
theorem Wt.weak {Q Q' : Bool → Hp → Prop} (h : Wt X c σ H Q) (q : ∀ y H', Q y H' → Q' y H') : Wt X c σ H Q' := by
  obtain ⟨t, ht, hq⟩ := h
  exact ⟨fun σ H Q' => ∃ Q, t σ H Q ∧ ∀ y H', Q y H' → Q' y H', fun i => ⟨fun pins s σ H Q' I ⟨Q, h1, h2⟩ => thn ((ht i).run pins s σ H Q I h1) fun _ _ ⟨H', I', z⟩ => ⟨H', I', h2 _ _ z⟩⟩, Q, hq, q⟩
theorem We.weak {Q Q' : VK} (h : We X e σ H Q) (q : ∀ v H', Q v H' → Q' v H') : We X e σ H Q' := by
  obtain ⟨t, ht, hq⟩ := h
  exact ⟨fun σ H Q' => ∃ Q, t σ H Q ∧ ∀ v H', Q v H' → Q' v H', fun i => ⟨fun pins s σ H Q' I ⟨Q, h1, h2⟩ => thn ((ht i).run pins s σ H Q I h1) fun _ _ ⟨x, H', I', r, z⟩ => ⟨x, H', I', r, h2 _ _ z⟩⟩, Q, hq, q⟩
theorem ws_ifR (h : Wt X c σ H fun y H1 => if y = true then Ws X s1 { D with nx := Ws X rest D } σ H1 else Ws X s2 { D with nx := Ws X rest D } σ H1) : Ws X (.If c s1 s2 pos :: rest) D σ H :=
  ⟨tSeq (tIfS (Wt X c) (Ws X s1) (Ws X s2)) (Ws X rest), fun i => pss_cons (ps_if (Wt.pt i) (Ws.ps i) (Ws.ps i)) (Ws.ps i), h⟩
theorem wt_valR {Q : Bool → Hp → Prop} (h : We X e σ H fun v H1 => ∃ y, v = .bl y ∧ Q y H1) (he : ∀ env whole, isTrue e env whole = (do let v ← whole; standAt e.pos; holding [v] (truthy v)) := by intro _ _; rfl) : Wt X e σ H Q :=
  ⟨_, fun i => pt_val (We.pe i) (he _), h⟩
theorem wt_notR {Q : Bool → Hp → Prop} (h : Wt X a σ H fun y H1 => Q (!y) H1) : Wt X (.UnaryOp .Not a pos) σ H Q := ⟨_, fun i => pt_not (Wt.pt i), h⟩
theorem wt_or2R {Q : Bool → Hp → Prop} (h : Wt X a σ H fun y H1 => if y = true then Q true H1 else Wt X b σ H1 Q) : Wt X (.BoolOp .Or [a, b] pos) σ H Q :=
  ⟨_, fun i => (pw_or (Wt.pt i) (pw_or1 (Wt.pt (X := X) (e := b) i))).pt, h⟩
theorem we_opR {op : Operator} {r : R2} {Q : VK} (o : ∀ i, OpR (X i) (binaryOp op) r) (h : We X a σ H fun v1 H1 => We X b σ H1 fun v2 H2 => r v1 v2 H2 Q) : We X (.BinOp a op b pos) σ H Q :=
  ⟨tOp r (We X a) (We X b), fun i => pe_op (o i) (We.pe i) (We.pe i), h⟩
theorem we_lst {Q : VK} (h : Wa X es σ H fun vs H1 => vs.length ≤ sizeLine ∧ ∀ p, H1 p = none → Q (.ref p) (upd H1 p (.lst vs))) : We X (.List es pos) σ H Q := ⟨tLst (Wa X es), fun i => pe_lst (Wa.pa i), h⟩
theorem pie_weak {X : Cx} {pins : List (Addr × Obj)} {σ : L2.St} {tg : Expr} {R R' : It → Hp → Prop} {a : Value} {s : Shared} (h : PIE X pins σ tg R a s) (q : ∀ J H', R J H' → R' J H') : PIE X pins σ tg R' a s := by
  obtain ⟨it, fp, tn, J, H', h1, h2, h3, h4, h5, h6⟩ := h
  exact ⟨it, fp, tn, J, H', h1, h2, h3, h4, h5, q _ _ h6⟩
/-- a comprehension whose turns may change cells -/
def LcS (X : ι → Cx) (scope : Scope) (tg iter elt : Expr) (ifs : List Expr) (vs : List Nat) (σ : L2.St) (H : Hp) (Q : VK) (ds : List PyData) : Prop := Wi X tg iter σ H fun J H1 => ∃ B1, Ex B1 H1 ∧ Drives J B1 ds ∧ ∀ Da, H1 Da = none → ∃ Pv : Nat → Hp → Prop, Pv 0 (upd H1 Da (.lst [])) ∧
      (∀ i d H', ds[i]? = some d → Pv i H' → ∃ B', Ex B1 B' ∧ Ex B' H' ∧ ∀ v B2 H2, Nw B' H' B2 H2 → Rp B2 v d → Wg (Blk X scope) tg v (wipe σ vs) H2 fun σ2 H3 => wipe σ2 vs = wipe σ vs ∧ Wts (Blk X scope) ifs σ2 H3 fun b H4 =>
        if b = true then We (Blk X scope) elt σ2 H4 fun y H5 => ∃ acc, H5 Da = some (.lst acc) ∧ acc.length < sizeLine ∧ Pv (i + 1) (upd H5 Da (.lst (acc ++ [y]))) else Pv (i + 1) H4) ∧
      (∀ i H', Pv i H' → Ex B1 H') ∧ ∀ H', Pv ds.length H' → Q (.ref Da) H'
theorem lcS_core {elt : Expr} {ifs : List Expr} {scope : Scope} {Q : VK} {vs : List Nat} (hI : LcS X scope tg iter elt ifs vs σ H Q ds) : ∃ wi : TI, (∀ i, PI (X i) tg iter wi) ∧ tLc wi (Wg (Blk X scope) tg) (Wts (Blk X scope) ifs) (We (Blk X scope) elt) vs σ H Q := by
  obtain ⟨t, ht, hq⟩ := hI
  let wi : TI := fun σ H R => ∃ R0, t σ H R0 ∧ ∀ J H', R0 J H' → R J H'
  have hwi : ∀ i, PI (X i) tg iter wi := fun i => ⟨fun pins s σ H R I ⟨R0, h1, h2⟩ => thn ((ht i).run pins s σ H R0 I h1) fun it s' z => thn z fun it2 s2 z2 => pie_weak z2 h2⟩
  refine ⟨wi, hwi, _, hq, fun J H1 hJ Da hD => ?_⟩
  obtain ⟨B1, x1, dr, hJ⟩ := hJ
  obtain ⟨Pv, p0, turn, bs, fin⟩ := hJ Da hD
  refine ⟨fun i m H' => m = ds.length - i ∧ i ≤ ds.length ∧ Pv i H', ⟨_, rfl, Nat.zero_le _, p0⟩, ?_⟩
  rintro i m H' ⟨rfl, hi, pv⟩
  have b1 := bs i H' pv
  by_cases hlt : i < ds.length
  · refine .inr ⟨dr.go i H' b1 hlt, Pv (i + 1), fun H'' pv' => ⟨ds.length - (i + 1), by omega, rfl, hlt, pv'⟩, fun x H2 y => ?_⟩
    have hd := List.getElem?_eq_getElem hlt
    obtain ⟨B', y1, y2, h⟩ := turn i _ H' hd pv
    obtain ⟨B'', n, r⟩ := dr.yld i _ hd H' x H2 b1 y B' y1 y2
    exact h x B'' H2 n r
  · have e : i = ds.length := by omega
    subst e
    exact .inl ⟨dr.stop _ H' b1 (Nat.le_refl _), fin H' pv⟩
theorem we_lcS (F : Fx X P w K mg base N sc own k) {elt : Expr} {ifs : List Expr} {scope : Scope} {Q : VK} (ow : List (Str × Nat)) (hI : LcS X scope tg iter elt ifs (ow.map (·.2)) σ H Q ds) (ok : blkC N sc scope ow = true := by decide +kernel) (hs : ∀ env x, foldedSetIterable iter env x = pure x := by intro _ _; rfl) :
    We X (.ListComp elt [⟨tg, iter, ifs, 0⟩] scope pos) σ H Q := by
  obtain ⟨wi, hwi, h⟩ := lcS_core hI
  exact ⟨_, fun i => pe_lc (own := ow) (F.calm i) (F.nd' i) (hwi i) (by rw [F.hN i, F.hsc i]; exact blkOk_by ok) (fun s H C cl fp => Wg.pg (X := Blk X scope) (i, s, H, C, cl, fp)) (fun s H C cl fp => Wts.pts (X := Blk X scope) (i, s, H, C, cl, fp)) (fun s H C cl fp => We.pe (X := Blk X scope) (i, s, H, C, cl, fp)) (hs _), h⟩
theorem ws_setLcS (F : Fx X P w K mg base N sc own k) (i : Nat) {x : Str} {py : Pos} {elt : Expr} {ifs : List Expr} {scope : Scope} {spos : Pos} (ow : List (Str × Nat)) (hI : LcS X scope tg iter elt ifs (ow.map (·.2)) σ H (fun v H' => Ws X rest D (σ.set i (some v)) H') ds)
    (ok : blkC N sc scope ow = true := by decide +kernel) (hN : N[i]? = some x := by rfl) (hx : sc.names.lookup x = some .local := by rfl) (hk : sc.kind = .function := by rfl)
    (hl : (py.line == pos.line) = true := by rfl) (ha : (scope.names.any fun (n, k) => n == x && (k == .local || k == .cell)) = false := by decide +kernel) (hs : ∀ env x, foldedSetIterable iter env x = pure x := by intro _ _; rfl) :
    Ws X (.Assign [.Name x py] (.ListComp elt [⟨tg, iter, ifs, 0⟩] scope pos) spos :: rest) D σ H := by
  obtain ⟨wi, hwi, h⟩ := lcS_core hI
  exact ⟨_, fun j => pss_cons (ps_setLc (own := ow) (F.calm j) (F.nd' j) (by rw [F.hN j]; exact hN) (by rw [F.hsc j]; exact hx) (sw_true (by rw [F.hsc j]; exact hk) (by rw [F.hsc j]; exact hx) hl ha) (hwi j) (by rw [F.hN j, F.hsc j]; exact blkOk_by ok)
      (fun s H C cl fp => Wg.pg (X := Blk X scope) (j, s, H, C, cl, fp)) (fun s H C cl fp => Wts.pts (X := Blk X scope) (j, s, H, C, cl, fp)) (fun s H C cl fp => We.pe (X := Blk X scope) (j, s, H, C, cl, fp)) (hs _)) (Ws.ps (X := X) (st := rest) j), h⟩
theorem Ei.useI (h : Ei X tg iter σ B ds) (hB : Ex B H) {R : It → Hp → Prop} (q : ∀ J B1 H1, Nw B H B1 H1 → Drives J B1 ds → R J H1) : Wi X tg iter σ H R := h H hB R q
theorem wts_one {Q : Bool → Hp → Prop} (h : Wt X c σ H Q) : Wts X [c] σ H Q := ⟨_, fun i => pts_one (Wt.pt i), h⟩
theorem wts_nil {Q : Bool → Hp → Prop} (h : Q true H) : Wts X [] σ H Q := ⟨tYes, fun _ => pts_nil, h⟩
/-- f(e): a built-in called, raw -/
theorem we_callBR (F : Fx X P w K mg base N sc own k) {x : Str} {id : String} {r : List V → Hp → VK → Prop} {Q : VK} (o : ∀ i, CallR (X i) (.builtin id) r) (ha : Wa X (e :: es) σ H fun vs H1 => r vs H1 Q) (hm : mg x = none) (hv : bootBuiltins x = some (.builtin id) := by first | exact boot_len | decide +kernel) (hg : sc.names.lookup x = some .globalImplicit := by rfl)
    (hn : x ≠ "__name__" := by decide) (hdb : (x == ("__debug__" : Str)) = false := by decide) (he : ∀ env, starEach (e :: es) env = (false, eval e env) :: starEach es env := by intro _; rfl) (hpl : ∀ env, (backTo pos (starEach es env)).any (·.1) = false := by intro _; rfl) :
    We X (.Call (.Name x p) (e :: es) [] pos) σ H Q :=
  ⟨tCB r (Wa X (e :: es)), fun i => pe_callB (o i) (F.gl hg i) (by rw [F.hmg i]; exact hm) hv (Wa.pa i) hn hdb (he _) (hpl _), ha⟩
/-- zip of two that stand for the same data -/
theorem ei_zipS (F : Fx X P w K mg base N sc own k) {elts : List Expr} {kk : Nat} {tpos : Pos} (hd : items d = some ds) (h : Ev X a σ B d) (h' : Ev X b σ B d) (hm : mg "zip" = none) (hg : sc.names.lookup ("zip" : Str) = some .globalImplicit := by rfl)
    (hs : ∀ env, starEach [a, b] env = (false, eval a env) :: starEach [b] env := by intro _; rfl) (hpl : ∀ env, (backTo pos (starEach [b] env)).any (·.1) = false := by intro _; rfl) (hs2 : ∀ env, starEach [b] env = (false, eval b env) :: starEach [] env := by intro _; rfl) :
    Ei X (.Tuple elts kk tpos) (.Call (.Name "zip" p) [a, b] [] pos) σ B (ds.map fun z => .tuple [z, z]) := fun H x R q => by
  refine ⟨RZ.iZipA K (Wa X [a, b]), fun i => ?_, ?_⟩
  · have h := RZ.pi_zipA (X := X i) (p := p) (pos := pos) (tpos := tpos) (elts := elts) (kk := kk) (F.gl hg i) (by rw [F.hmg i]; exact hm) (Wa.pa (X := X) (es := [a, b]) i) (hs _) (hpl _)
    rw [F.hK i] at h
    exact h
  · refine ea_cons h (ea_cons h' ea_nil hs2) hs H x _ fun vs B1 H1 n1 r1 => ?_
    obtain ⟨v, u, rfl, r1, r2⟩ := r1.two
    cases r1 with
    | @lst a1 xs1 _ h1 g1 =>
      cases hd
      cases r2 with
      | @lst a2 xs2 _ h2 g2 =>
        refine ⟨a1, a2, xs1, xs2, rfl, .inl ⟨SqL.of (n1.bh _ _ h1), SqL.of (n1.bh _ _ h2), q _ B1 H1 n1 ⟨fun i H' e' hi => ?_, fun i d hd H' y H'' e' hy B' b1 b2 => ?_, fun i H' e' hi => ?_⟩⟩⟩
        · rw [List.length_map] at hi
          obtain ⟨v, hv, _⟩ := g1.get (List.getElem?_eq_getElem hi)
          obtain ⟨u, hu, _⟩ := g2.get (List.getElem?_eq_getElem hi)
          exact ⟨xs1, xs2, v, u, SqL.of (e' _ _ h1), SqL.of (e' _ _ h2), hv, hu⟩
        · obtain ⟨T, y1, y2, rfl, hT, rfl, f1, f2⟩ := hy
          obtain ⟨d1, e1, s1⟩ := g1.getV (f1 _ (SqL.of (e' _ _ h1)))
          obtain ⟨d2, e2, s2⟩ := g2.getV (f2 _ (SqL.of (e' _ _ h2)))
          rw [e1] at e2
          cases e2
          rw [List.getElem?_map, e1] at hd
          cases hd
          have n := Nw.new (o := .tup [y1, y2]) b2 hT
          exact ⟨_, n, .tup upd_same (.cons ((s1.up b1).up n.bb) (.cons ((s2.up b1).up n.bb) .nil))⟩
        · rw [List.length_map] at hi
          refine ⟨xs1, xs2, SqL.of (e' _ _ h1), SqL.of (e' _ _ h2), ?_⟩
          rw [g1.length]
          exact .inl hi
    | @tup a1 xs1 _ h1 g1 =>
      cases hd
      cases r2 with
      | @tup a2 xs2 _ h2 g2 =>
        refine ⟨a1, a2, xs1, xs2, rfl, .inr ⟨SqT.of (n1.bh _ _ h1), SqT.of (n1.bh _ _ h2), q _ B1 H1 n1 ⟨fun i H' e' hi => ?_, fun i d hd H' y H'' e' hy B' b1 b2 => ?_, fun i H' e' hi => ?_⟩⟩⟩
        · rw [List.length_map] at hi
          obtain ⟨v, hv, _⟩ := g1.get (List.getElem?_eq_getElem hi)
          obtain ⟨u, hu, _⟩ := g2.get (List.getElem?_eq_getElem hi)
          exact ⟨xs1, xs2, v, u, SqT.of (e' _ _ h1), SqT.of (e' _ _ h2), hv, hu⟩
        · obtain ⟨T, y1, y2, rfl, hT, rfl, f1, f2⟩ := hy
          obtain ⟨d1, e1, s1⟩ := g1.getV (f1 _ (SqT.of (e' _ _ h1)))
          obtain ⟨d2, e2, s2⟩ := g2.getV (f2 _ (SqT.of (e' _ _ h2)))
          rw [e1] at e2
          cases e2
          rw [List.getElem?_map, e1] at hd
          cases hd
          have n := Nw.new (o := .tup [y1, y2]) b2 hT
          exact ⟨_, n, .tup upd_same (.cons ((s1.up b1).up n.bb) (.cons ((s2.up b1).up n.bb) .nil))⟩
        · rw [List.length_map] at hi
          refine ⟨xs1, xs2, SqT.of (e' _ _ h1), SqT.of (e' _ _ h2), ?_⟩
          rw [g1.length]
          exact .inl hi
    | _ => cases hd
def rLen (K : PySem.W.Frag) : List V → Hp → VK → Prop := fun xs H Q => ∃ p ys, xs = [.ref p] ∧ (SqL K H p ys ∨ SqT K H p ys) ∧ Q (.int ys.length) H
theorem cr_len (F : Fx X P w K mg base N sc own k) (i : ι) : CallR (X i) (.builtin "len") (rLen K) := by
  have h := call_len_seq (X := X i)
  rw [F.hK i] at h
  exact h
end
end Lay
end

section
set_option Elab.async false
set_option linter.all false
set_option maxRecDepth 100000
set_option maxHeartbeats 1000000
namespace Lay
open PySem PySem.Spec PyProof.Rows L2
section
variable {ι : Type} {X : ι → Cx} {P : Program} {w : World} {K : PySem.W.Frag} {mg : Str → Option Value} {base : Heap} {N : List Str} {sc : Scope} {own : Str → Bool} {k : Nat}
variable {e a b c i tg iter : Expr} {es : List Expr} {σ : L2.St} {B B' H H' : Hp} {d d1 d2 d3 : PyData} {ds : List PyData} {pos p : Pos} {v : V} {D : Ends} {rest body s1 s2 : List Stmt}
/-- xs[i] = an int, xs a cell that the right side may read -/
theorem ws_setItemT (F : Fx X P w K mg base N sc own k) (io : Nat) {x : Str} {px p' : Pos} {g : Addr} {vs : List V} {j : Nat} {n : Int} (he : Ev X e σ (upd B g (.lst vs)) (.int n)) (hi : Ev X i σ (upd B g (.lst vs)) (.int (j : Nat))) (hB : Ex B H) (ho : σ[io]? = some (some (.ref g))) (hg : H g = some (.lst vs)) (hgB : B g = none) (hj : j < vs.length)
    (q : ∀ B' H', Nw B H B' H' → B' g = none → H' g = some (.lst vs) → Ws X rest D σ (upd H' g (.lst (vs.set j (.int n)))))
    (hN : N[io]? = some x := by rfl) (hv : Vis sc x := by first | exact Or.inl rfl | exact Or.inr (Or.inl rfl) | exact Or.inr (Or.inr rfl)) (hd : (x == ("__debug__" : Str)) = false := by decide) (hcd : (x == ("__classdict__" : Str)) = false := by decide)
    (ha : ∀ env v, assign (.Subscript (.Name x px) i p') env v = (do
      let ov ← holding [v] (eval (.Name x px) env)
      let iv ← holding [v, ov] (eval i env)
      standAt p'
      holding [v, ov, iv] (setItem ov iv v)
      release [v, ov, iv] []) := by intro _ _; rfl) (hs : ∀ env, swapsWithSole [.Subscript (.Name x px) i p'] e pos.line env = pure false := by intro _; rfl) (hw : ∀ env, swappedStores [.Subscript (.Name x px) i p'] e env = pure none := by intro _; rfl)
    (h1 : ∀ env, (assignEach [.Subscript (.Name x px) i p'] env).map (·.2) = [assign (.Subscript (.Name x px) i p') env] := by intro _; rfl) :
    Ws X (.Assign [.Subscript (.Name x px) i p'] e pos :: rest) D σ H := by
  refine ⟨tSeq (tAsg (We X e) (gSub (tVar io) (We X i) rSetL)) (Ws X rest), fun y => pss_cons (ps_asg (We.pe y) (pg_sub (pe_var (by rw [F.hN y]; exact hN) (by rw [F.hsc y]; exact hv) hd hcd) (We.pe y) set_list (ha _)) (hs _) (hw _) (h1 _)) (Ws.ps y), ?_⟩
  refine he H (ex_take hB hg) _ fun v B1 H1 n1 r1 => ⟨.ref g, ho, ?_⟩
  refine hi.mono n1.bb H1 n1.bh _ fun v2 B2 H2 n2 r2 => ?_
  cases r2
  cases r1
  obtain ⟨n5, b2, h2, bn⟩ := (n1.trans n2).drop hgB
  refine ⟨g, vs, _, j, rfl, rfl, h2, ?_, q _ H2 n5 bn h2⟩
  unfold ixN
  rw [if_pos (by omega), if_pos (by omega)]
  simp
/-- xs[i], the index raw -/
theorem we_ixR {Q : VK} (ha : Ev X a σ B d) (hB : Ex B H) (hd : items d = some ds) (h : ∀ v B1 H1, Nw B H B1 H1 → Rp B1 v d → We X i σ H1 fun y H2 => ∃ j d1, y = .int (j : Nat) ∧ Ex B1 H2 ∧ ds[j]? = some d1 ∧ ∀ u, Rp B1 u d1 → Q u H2) (hs : PlainIx i := by exact fun _ _ => rfl) : We X (.Subscript a i pos) σ H Q := by
  refine ⟨tOp (fun x y H Q => ∃ p xs u, ∃ j : Nat, x = .ref p ∧ y = .int (j : Int) ∧ (H p = some (.lst xs) ∨ H p = some (.tup xs)) ∧ xs[j]? = some u ∧ Q u H) (We X a) (We X i), fun i => pe_ix (fun value slice pins s σ H x y v u Q I rx ry h hs => ?_) (We.pe i) (We.pe i) hs, ?_⟩
  · obtain ⟨p, xs, u', j, rfl, rfl, h1 | h1, h2, q⟩ := h
    · exact ix_list value slice pins s σ H _ _ v u Q I rx ry ⟨p, xs, _, u', rfl, rfl, SqL.of h1, atI_nat h2, q⟩ hs
    · exact ix_tup value slice pins s σ H _ _ v u Q I rx ry ⟨p, xs, _, u', rfl, rfl, SqT.of h1, atI_nat h2, q⟩ hs
  · refine ha H hB _ fun v1 B1 H1 n1 r1 => ?_
    refine (h v1 B1 H1 n1 r1).weak fun y H2 ⟨j, d1, ey, x2, hj, q⟩ => ?_
    obtain ⟨p, xs, rfl, h1, h2⟩ := r1.ref hd
    obtain ⟨u, e1, e2⟩ := h2.get hj
    refine ⟨p, xs, u, j, rfl, ey, ?_, e1, q u e2⟩
    rcases h1 with ⟨h1, _⟩ | ⟨h1, _⟩
    · exact .inl (x2 _ _ h1)
    · exact .inr (x2 _ _ h1)
/-- script[lo:hi]: a new list -/
theorem sl_raw (F : Fx X P w K mg base N sc own k) (y : ι) : SlR (X y) (rSlL K) := by
  have h := sl_list (X := X y)
  rw [F.hK y] at h
  exact h
theorem _root_.L2.SqL.up {H H' : Hp} {a : Addr} {xs : List V} (h : SqL K H a xs) (e : Ex H H') : SqL K H' a xs := by
  rcases h with (h | ⟨o, h⟩) | h
  · exact .inl (.inl (e _ _ h))
  · exact .inl (.inr ⟨o, e _ _ h⟩)
  · exact .inr h
/-- x[:m], x[m:n] -/
theorem we_slTo (F : Fx X P w K mg base N sc own k) (io : Nat) {x : Str} {px p2 : Pos} {g : Addr} {xs : List V} {m : Int} {Q : VK} (hi : Ev X i σ B (.int m)) (hB : Ex B H) (ho : σ[io]? = some (some (.ref g))) (hg : SqL K H g xs) (q : ∀ B1 H1 p, Nw B H B1 H1 → H1 p = none → Q (.ref p) (upd H1 p (.lst (cutV xs none (some m)))))
    (hN : N[io]? = some x := by rfl) (hv : Vis sc x := by first | exact Or.inl rfl | exact Or.inr (Or.inl rfl) | exact Or.inr (Or.inr rfl)) (hd : (x == ("__debug__" : Str)) = false := by decide) (hcd : (x == ("__classdict__" : Str)) = false := by decide) :
    We X (.Subscript (.Name x px) (.Slice none (some i) none p2) pos) σ H Q := by
  refine ⟨tSl (rSlL K) (tVar io) tNoPart (tPart (We X i)), fun y => pe_slice (sl_raw F y) (pe_var (by rw [F.hN y]; exact hN) (by rw [F.hsc y]; exact hv) hd hcd) po_none (po_some (We.pe y)), ?_⟩
  refine ⟨.ref g, ho, hi H hB _ fun v B1 H1 n1 r1 => ?_⟩
  cases r1
  exact ⟨m, rfl, g, xs, rfl, hg.up n1.hh, fun p hp => q B1 H1 p n1 hp⟩
theorem we_slFT (F : Fx X P w K mg base N sc own k) (io : Nat) {x : Str} {px p2 : Pos} {g : Addr} {xs : List V} {m n : Int} {Q : VK} (hi : Ev X i σ B (.int m)) (hb : Ev X b σ B (.int n)) (hB : Ex B H) (ho : σ[io]? = some (some (.ref g))) (hg : SqL K H g xs) (q : ∀ B1 H1 p, Nw B H B1 H1 → H1 p = none → Q (.ref p) (upd H1 p (.lst (cutV xs (some m) (some n)))))
    (hN : N[io]? = some x := by rfl) (hv : Vis sc x := by first | exact Or.inl rfl | exact Or.inr (Or.inl rfl) | exact Or.inr (Or.inr rfl)) (hd : (x == ("__debug__" : Str)) = false := by decide) (hcd : (x == ("__classdict__" : Str)) = false := by decide) :
    We X (.Subscript (.Name x px) (.Slice (some i) (some b) none p2) pos) σ H Q := by
  refine ⟨tSl (rSlL K) (tVar io) (tPart (We X i)) (tPart (We X b)), fun y => pe_slice (sl_raw F y) (pe_var (by rw [F.hN y]; exact hN) (by rw [F.hsc y]; exact hv) hd hcd) (po_some (We.pe y)) (po_some (We.pe y)), ?_⟩
  refine ⟨.ref g, ho, hi H hB _ fun v B1 H1 n1 r1 => ?_⟩
  cases r1
  refine ⟨m, rfl, hb.mono n1.bb H1 n1.bh _ fun v2 B2 H2 n2 r2 => ?_⟩
  cases r2
  exact ⟨n, rfl, g, xs, rfl, hg.up (n1.hh.trans n2.hh), fun p hp => q B2 H2 p (n1.trans n2) hp⟩
/-- .. as data: the list stands -/
theorem ev_slFT (F : Fx X P w K mg base N sc own k) (io : Nat) {x : Str} {px p2 : Pos} {g : Addr} {ns : List Int} {m n : Int} (hi : Ev X i σ B (.int m)) (hb : Ev X b σ B (.int n)) (ho : σ[io]? = some (some (.ref g))) (hg : SqL K B g (ns.map V.int))
    (hN : N[io]? = some x := by rfl) (hv : Vis sc x := by first | exact Or.inl rfl | exact Or.inr (Or.inl rfl) | exact Or.inr (Or.inr rfl)) (hd : (x == ("__debug__" : Str)) = false := by decide) (hcd : (x == ("__classdict__" : Str)) = false := by decide) :
    Ev X (.Subscript (.Name x px) (.Slice (some i) (some b) none p2) pos) σ B (.list (((ns.drop (HT.sIx ns.length 0 (some m))).take (HT.sIx ns.length ns.length (some n) - HT.sIx ns.length 0 (some m))).map PyData.int)) := fun H x' Q q =>
  we_slFT F io hi hb x' ho (hg.up x') (fun B1 H1 p n1 hp => by
    have n2 := Nw.new (o := .lst (cutV (ns.map V.int) (some m) (some n))) n1.bh hp
    refine q _ _ _ (n1.trans n2) (.lst upd_same ?_)
    unfold cutV
    rw [List.length_map, ← List.map_drop, ← List.map_take]
    exact RpAll.ints _) hN hv hd hcd
/-- a or b, a a list -/
theorem we_orR (F : Fx X P w K mg base N sc own k) {Q : VK} (h : We X a σ H fun x H1 => ∃ p xs, x = .ref p ∧ H1 p = some (.lst xs) ∧ (xs ≠ [] → Q x H1) ∧ (xs = [] → We X b σ H1 Q)) : We X (.BoolOp .Or [a, b] pos) σ H Q := by
  refine ⟨tOrT K (We X a) (We X b), fun y => ?_, ?_⟩
  · have h := pe_orT (X := X y) (pos := pos) (rest := []) (We.pe (X := X) (e := a) y) (pe_one (op := .Or) (pos := pos) (We.pe (X := X) (e := b) y))
    rw [F.hK y] at h
    exact h
  · refine h.weak fun x H1 ⟨p, xs, ex, hp, q1, q2⟩ => ?_
    subst ex
    refine ⟨!xs.isEmpty, .inl ⟨xs, SqL.of hp, rfl⟩, ?_⟩
    cases xs with
    | nil => exact q2 rfl
    | cons y ys => exact q1 (List.cons_ne_nil _ _)
/-- a type called, raw -/
theorem we_callTyR (F : Fx X P w K mg base N sc own k) {x : Str} {id : String} {r : List V → Hp → VK → Prop} {Q : VK} (o : ∀ i, CallR (X i) (.type id) r) (ha : Wa X (e :: es) σ H fun vs H1 => r vs H1 Q) (hm : mg x = none) (hv : bootBuiltins x = some (.type id) := by decide +kernel) (hg : sc.names.lookup x = some .globalImplicit := by rfl)
    (hn : x ≠ "__name__" := by decide) (hdb : (x == ("__debug__" : Str)) = false := by decide) (he : ∀ env, starEach (e :: es) env = (false, eval e env) :: starEach es env := by intro _; rfl) (hpl : ∀ env, (backTo pos (starEach es env)).any (·.1) = false := by intro _; rfl) :
    We X (.Call (.Name x p) (e :: es) [] pos) σ H Q :=
  ⟨tCB r (Wa X (e :: es)), fun i => pe_callTy (o i) (F.gl hg i) (by rw [F.hmg i]; exact hm) hv (Wa.pa i) hn hdb (he _) (hpl _), ha⟩
def rListOf (K : PySem.W.Frag) : List V → Hp → VK → Prop := fun xs H Q => ∃ p ys, xs = [.ref p] ∧ (SqL K H p ys ∨ SqT K H p ys) ∧ ∀ l, H l = none → Q (.ref l) (upd H l (.lst ys))
theorem cr_listOf (F : Fx X P w K mg base N sc own k) (i : ι) : CallR (X i) (.type "list") (rListOf K) := by
  have h := call_list_of (X := X i)
  rw [F.hK i] at h
  exact h
def rTupleOf (K : PySem.W.Frag) : List V → Hp → VK → Prop := fun xs H Q => ∃ p ys, xs = [.ref p] ∧ ((SqL K H p ys ∧ ∀ l, H l = none → Q (.ref l) (upd H l (.tup ys))) ∨ (SqT K H p ys ∧ Q (.ref p) H))
theorem cr_tupleOf (F : Fx X P w K mg base N sc own k) (i : ι) : CallR (X i) (.type "tuple") (rTupleOf K) := by
  have h := call_tuple_of (X := X i)
  rw [F.hK i] at h
  exact h
end
end Lay
namespace Lay
open PySem PySem.Spec PyProof.Rows L2
section
variable {ι : Type} {X : ι → Cx} {P : Program} {w : World} {K : PySem.W.Frag} {mg : Str → Option Value} {base : Heap} {N : List Str} {sc : Scope} {own : Str → Bool} {k : Nat}
variable {e a b c i tg iter : Expr} {es : List Expr} {σ : L2.St} {B B' H H' : Hp} {d d1 d2 d3 : PyData} {ds : List PyData} {pos p : Pos} {v : V} {D : Ends} {rest body s1 s2 : List Stmt}
/-- sorted(ints, reverse=True), raw -/
theorem we_sortedRev (F : Fx X P w K mg base N sc own k) {ns : List Int} {kp kp2 : Pos} {j : Nat} {Q : VK} (h : Ev X e σ B (.list (ns.map PyData.int))) (hB : Ex B H) (hm : mg "sorted" = none) (q : ∀ (ns' : List Int) (p : Addr) (B1 H1 : Hp), Nw B H B1 H1 → ns'.Perm ns → H1 p = none → Q (.ref p) (upd H1 p (.lst (ns'.map V.int))))
    (hg : sc.names.lookup ("sorted" : Str) = some .globalImplicit := by rfl) (he : ∀ env, starEach [e] env = (false, eval e env) :: starEach [] env := by intro _; rfl)
    (he2 : ∀ env, backTo pos (starEach [e] env) = (false, eval e env) :: backTo pos (starEach [] env) := by intro _; rfl) (hpl : ∀ env, (backTo pos (starEach [e] env)).any (·.1) = false := by intro _; rfl)
    (hall : ∀ env, (backToKw pos (keywordEach [⟨some "reverse", .Constant (.bool true) j kp2, kp⟩] env)).all (·.1.isSome) = true := by intro _; rfl) :
    We X (.Call (.Name "sorted" p) [e] [⟨some "reverse", .Constant (.bool true) j kp2, kp⟩] pos) σ H Q := by
  refine ⟨tCKw (rSortedKw K true [.bl true]) (tCons (We X e) tNil) (tCons (tC (.bl true)) tNil), fun y => ?_, ?_⟩
  · have h := pe_callBK (p := p) (pos := pos) (e := e) (es := []) (kws := [⟨some "reverse", .Constant (.bool true) j kp2, kp⟩]) (cr_sortedRev (X := X y) (b := true)) (F.gl hg y) (by rw [F.hmg y]; exact hm) (by decide +kernel) (pa_cons (We.pe (X := X) (e := e) y) pa_nil (he _)) (pk_cons pe_bl pk_nil) (by decide) (by decide) (he2 _) (hpl _)
    rw [F.hK y] at h
    exact h
  · refine h H hB _ fun v1 B1 H1 n1 r1 => ?_
    cases r1 with
    | @lst a xs _ h1 h2 =>
      have e := RpAll.ints_inv h2
      subst e
      exact ⟨a, ns, rfl, rfl, SqL.of (n1.bh _ _ h1), fun ns' p hp _ hn => q ns' p B1 H1 n1 hp hn⟩
end
end Lay
end

section
set_option Elab.async false
set_option linter.all false
set_option maxRecDepth 100000
set_option maxHeartbeats 2000000
/-! sorted(d.items()), d a dict of pairs of ints with ints -/
namespace Lay
open PySem PySem.Spec PyProof.Rows L2
abbrev BrkE := (Int × Int) × Int
def entB (e : BrkE) : List L2.Key × V := ([.inl e.1.1, .inl e.1.2], .int e.2)
def datB (e : BrkE) : PyData := .tuple [.tuple [.int e.1.1, .int e.1.2], .int e.2]
def rSortBrk : List V → Hp → VK → Prop := fun vs H Q => ∃ (p a : Addr) (ks : List BrkE), vs = [.ref p] ∧ H p = some (L2.DX.itemsO p a) ∧ H a = some (.dT (ks.map entB)) ∧ ks.length ≤ 1000 ∧
  ∀ (H' : Hp) (l : Addr) (ps : List (Addr × BrkE)), Ex H H' → (ps.map (·.2)).Perm ks → H' l = some (.lst (ps.map fun z => V.ref z.1)) →
    (∀ z ∈ ps, ∃ q, H' z.1 = some (.tup [.ref q, .int z.2.2]) ∧ H' q = some (.tup [.int z.2.1.1, .int z.2.1.2])) → Q (.ref l) H'
section
variable {X : Cx}
theorem alike_B (d : BrkE) (e : BrkE) : PySem.W.alike (datB d) (datB e) = true := by simp [PySem.W.alike, PySem.W.alikeAll, datB]
theorem cr_sortedBrk (hc : X.calm = true) (hu : X.A.units + 64 < cLine) : CallR X (.builtin "sorted") rSortBrk := by
  intro pins s σ H xs us Q I r h
  obtain ⟨p, a, ks, rfl, hp, ha, h64, q⟩ := h
  obtain rfl := Vals.ref1 r
  have view : s.heap.IsItemsView p a := (show ObjOk X.prog X.w H s.heap p (L2.DX.itemsO p a) from I.hok p _ hp).1
  obtain ⟨z, hd, xs', rel, o, es, ep, ho, hx, hdat, hes, his, hn⟩ := dt_of I.hok ha
  have l1 : (ks.map entB).length = xs'.length := Paired.length rel
  rw [List.length_map] at l1
  have l2 : es.size = xs'.length := size_of_entries hes
  have hh : X.A.handled = none := I.ok.hd hc
  refine DT.sortedI (es := es) (ep := ep) hh view ⟨o, ho, hx, hdat⟩ (by rw [sizeLine_eq]; omega) fun h' tk as hk hlt hl hG => ?_
  have lak : as.length = ks.length := by omega
  have nd : as.Nodup := List.Pairwise.imp (fun h => Nat.ne_of_lt h) hG.rise
  -- the pairs that were made
  have pr : ∀ (j : Nat) (b : Addr), as[j]? = some b → ∃ (e : BrkE) (kq : Addr) (t : Tok), ks[j]? = some e ∧ H kq = some (.tup [.int e.1.1, .int e.1.2]) ∧ h'.get? b = some { cls := .type "tuple", data := .seq #[Value.ref kq, Value.int e.2 t] } := by
    intro j b hj
    obtain ⟨en, he, hg⟩ := hG.pairs j b hj
    rw [entry_at hes j] at he
    cases hxj : xs'[j]? with
    | none =>
      rw [hxj] at he
      exact nomatch (show (none : Option DictEntry) = some en from he)
    | some x =>
      rw [hxj] at he
      have een : entryOfKey (tupleKind (mixKind X.prog X.w)) x = en := Option.some.inj he
      obtain ⟨e0, he0, r1, r2, r3⟩ := L2.DX.pget rel hxj
      rw [List.getElem?_map] at he0
      cases hkj : ks[j]? with
      | none =>
        rw [hkj] at he0
        exact nomatch (show (none : Option (List L2.Key × V)) = some e0 from he0)
      | some e =>
        rw [hkj] at he0
        have ee : entB e = e0 := Option.some.inj he0
        rw [← ee] at r2 r3
        obtain ⟨t, r3'⟩ : ∃ t, x.2.2 = Value.int e.2 t := r3
        refine ⟨e, x.2.1, t, rfl, r2, ?_⟩
        rw [hg, ← een, ← r3']
        all_goals rfl
  have hob : (h'.push { cls := .type "list", data := .seq (as.map Value.ref).toArray }).get? h'.objs.size = some (seqObj "list" (as.map Value.ref).toArray 0) := Heap.get?_push_size _ rfl
  have kb : ∀ b o, s.heap.get? b = some o → (h'.push { cls := .type "list", data := .seq (as.map Value.ref).toArray }).get? b = some o := fun b o e => Heap.get?_push_of_some _ (hk b o e)
  have ne0 : ∀ b o, h'.get? b = some o → b ≠ h'.objs.size := fun b o e => Nat.ne_of_lt (Heap.lt_size e)
  generalize hh2 : h'.push { cls := .type "list", data := .seq (as.map Value.ref).toArray } = h2 at hob kb ⊢
  have ka : ∀ b o, h'.get? b = some o → h2.get? b = some o := fun b o e => by rw [← hh2]; exact Heap.get?_push_of_some _ e
  -- what they read
  have rd : ∀ (j : Nat) (b : Addr) (e : BrkE), as[j]? = some b → ks[j]? = some e → Reads h2 (.ref b) (datB e) [] := by
    intro j b e hj he
    obtain ⟨e', kq, t, he', hkq, hg⟩ := pr j b hj
    rw [he] at he'
    cases he'
    obtain ⟨_, its, rv, ot, hot, hct, nt, hdt⟩ := (show ObjOk X.prog X.w H s.heap kq (.tup [.int e.1.1, .int e.1.2]) from I.hok kq _ hkq)
    obtain ⟨t1, t2, rfl⟩ : ∃ t1 t2, its = [Value.int e.1.1 t1, Value.int e.1.2 t2] := by
      cases rv with
      | cons r1 r2 =>
        cases r2 with
        | cons r2 r3 =>
          cases r3
          obtain ⟨t, rfl⟩ := r1
          obtain ⟨t', rfl⟩ := r2
          exact ⟨t, t', rfl⟩
    exact Reads.tuple (n := 0) (vs := #[Value.ref kq, Value.int e.2 t]) (ka _ _ hg) rfl rfl (ReadsAll.cons (as := []) (bs := []) (Reads.tuple (vs := [Value.int e.1.1 t1, Value.int e.1.2 t2].toArray) (kb _ _ hot) hct hdt (ReadsAll.cons (as := []) (bs := []) (Reads.int _ _) (ReadsAll.cons (as := []) (bs := []) (Reads.int _ _) ReadsAll.nil))) (ReadsAll.cons (as := []) (bs := []) (Reads.int _ _) ReadsAll.nil))
  have e0 : PySem.W.EachIs (fun v (z : Addr × BrkE) => v = Value.ref z.1 ∧ z ∈ as.zip ks) (as.map Value.ref) (as.zip ks) := by
    have gen : ∀ (L : List Addr) (M : List BrkE), L.length = M.length → (∀ z ∈ L.zip M, z ∈ as.zip ks) → PySem.W.EachIs (fun v (z : Addr × BrkE) => v = Value.ref z.1 ∧ z ∈ as.zip ks) (L.map Value.ref) (L.zip M) := by
      intro L
      induction L with
      | nil => intro M _ _; exact .nil
      | cons x L ih =>
        intro M hM hz
        cases M with
        | nil => simp at hM
        | cons y M =>
          exact .cons ⟨rfl, hz _ List.mem_cons_self⟩ (ih M (by simpa using hM) fun z hz' => hz z (List.mem_cons_of_mem _ hz'))
    exact gen as ks lak fun z hz => hz
  have idx : ∀ z ∈ as.zip ks, ∃ j : Nat, as[j]? = some z.1 ∧ ks[j]? = some z.2 := by
    intro z' hz'
    obtain ⟨j, hj⟩ := List.mem_iff_getElem?.mp hz'
    exact ⟨j, List.getElem?_zip_eq_some.mp hj⟩
  have lz : (as.zip ks).length = ks.length := by rw [List.length_zip]; omega
  refine PySem.W.list_sort_data (bs := as.zip ks) (enc := fun z => datB z.2) hob e0 (e0.mono fun v z hz => ?_) ?_ ?_ (by rw [lz, sizeLine_eq]; omega) (fun z hz => ?_) fun out ho eo => ?_
  · obtain ⟨rfl, hz2⟩ := hz
    obtain ⟨j, j1, j2⟩ := idx z hz2
    exact ⟨[], rd j _ _ j1 j2, by simp⟩
  · exact PySem.W.AllAlike.of fun _ _ => alike_B _ _
  · exact PySem.W.Sortable.tuples fun _ => ⟨_, _, rfl⟩
  · show X.A.units + 1 + 1 + (datB z.2).depth < cLine
    have : (datB z.2).depth ≤ 4 := by simp [datB, PyData.depth, PyData.depthAll]
    omega
  · show EP X pins σ Q (.ref h'.objs.size) { s with heap := sortedHeap h2 h'.objs.size (as.map Value.ref) (List.toArray out), toks := tk }
    generalize hzs : (as.zip ks).mergeSort (PySem.W.dataLe false fun z => datB z.2) = zs at eo
    have pz : zs.Perm (as.zip ks) := by rw [← hzs]; exact List.mergeSort_perm _ _
    have hout : out = zs.map fun z => Value.ref z.1 := by
      clear hzs pz ho
      induction eo with
      | nil => rfl
      | cons h t ih => rw [List.map_cons, h.1, ih]
    have hperm : (zs.map (·.2)).Perm ks := by
      have e := pz.map (·.2)
      have m2 : (as.zip ks).map (·.2) = ks := List.map_snd_zip (by rw [lak]; exact Nat.le_refl _)
      rw [m2] at e
      exact e
    have kF : ∀ b o, b ≠ h'.objs.size → h2.get? b = some o → (sortedHeap h2 h'.objs.size (as.map Value.ref) (List.toArray out)).get? b = some o := fun b o hb e => (PyProof.Rows.sortedHeap_old hb (Heap.lt_size e)).trans e
    have kS : ∀ b o, s.heap.get? b = some o → (sortedHeap h2 h'.objs.size (as.map Value.ref) (List.toArray out)).get? b = some o := fun b o e => kF b o (ne0 _ _ (hk b o e)) (kb b o e)
    obtain ⟨eF, heF⟩ := PyProof.Rows.sortedHeap_at (vs := as.map Value.ref) (out := List.toArray out) hob
    have I1 : Inv X pins σ H { s with heap := sortedHeap h2 h'.objs.size (as.map Value.ref) (List.toArray out), toks := tk } := I.kept (t' := tk) kS
    have hn0 : H h'.objs.size = none := I.hok.fresh (Nat.le_of_lt hlt)
    have hlen : (zs.map fun z => V.ref z.1).length ≤ sizeLine := by
      rw [List.length_map, pz.length_eq, lz, sizeLine_eq]
      omega
    have rv : Vals (zs.map fun z => V.ref z.1) out := by
      rw [hout]
      exact L2.vals_maps (fun z : Addr × BrkE => V.ref z.1) (fun z => Value.ref z.1) zs fun _ _ => rfl
    have I2 : Inv X pins σ (upd H h'.objs.size (.lst (zs.map fun z => V.ref z.1))) { s with heap := sortedHeap h2 h'.objs.size (as.map Value.ref) (List.toArray out), toks := tk } :=
      I1.take (h' := sortedHeap h2 h'.objs.size (as.map Value.ref) (List.toArray out)) (t' := tk) (fun b ob _ e => e) (I.fpOk (Nat.le_of_lt hlt) hn0) ⟨hlen, out, eF, rv, heF⟩
    obtain ⟨H2, I3, g, qt⟩ := L2.DX.takeT (P := fun b vs => ∃ (j : Nat) (e : BrkE) (kq : Addr), as[j]? = some b ∧ ks[j]? = some e ∧ vs = [.ref kq, .int e.2] ∧ H kq = some (.tup [.int e.1.1, .int e.1.2])) I as _ I2 nd fun b hb => by
      obtain ⟨j, hj⟩ := List.mem_iff_getElem?.mp hb
      obtain ⟨e, kq, t, he, hkq, hg⟩ := pr j b hj
      have hbl : s.heap.objs.size ≤ b := Nat.le_of_lt (hG.above b hb)
      refine ⟨hbl, ?_, [.ref kq, .int e.2], ⟨j, e, kq, hj, he, rfl, hkq⟩, fun H3 => ⟨(by rw [sizeLine_eq]; show 2 ≤ 16777216; omega), [Value.ref kq, Value.int e.2 t], .cons rfl (.cons ⟨t, rfl⟩ .nil), ⟨_, kF _ _ (ne0 _ _ hg) (ka _ _ hg), rfl, 0, rfl⟩⟩⟩
      rw [upd_ne (ne0 _ _ hg)]
      exact I.hok.fresh hbl
    have gr : Ex H H2 := fun b o e => g b o (by rw [upd_ne (ne_of_none e hn0)]; exact e)
    refine ⟨.ref h'.objs.size, H2, I3, rfl, q H2 h'.objs.size zs gr hperm (g _ _ upd_same) fun z' hz' => ?_⟩
    obtain ⟨i, i1, i2⟩ := idx z' (pz.mem_iff.mp hz')
    obtain ⟨vs, ⟨j, e, kq, j1, j2, ev, hkq⟩, hH⟩ := qt z'.1 (List.mem_of_getElem? i1)
    have eij : i = j := (List.getElem?_inj (List.getElem?_eq_some_iff.mp i1).1 nd).mp (i1.trans j1.symm)
    subst eij
    have ee : e = z'.2 := Option.some.inj (j2.symm.trans i2)
    rw [ev, ee] at hH
    rw [ee] at hkq
    exact ⟨kq, hH, gr _ _ hkq⟩
end
end Lay
namespace Lay
open PySem PySem.Spec PyProof.Rows L2
section
variable {ι : Type} {X : ι → Cx} {P : Program} {w : World} {K : PySem.W.Frag} {mg : Str → Option Value} {base : Heap} {N : List Str} {sc : Scope} {own : Str → Bool} {k : Nat}
variable {e a b c i tg iter : Expr} {es : List Expr} {σ : L2.St} {B B' H H' : Hp} {d d1 d2 d3 : PyData} {ds : List PyData} {pos p px p1 p2 pos' : Pos} {v : V} {D : Ends} {rest body s1 s2 : List Stmt} {x : Str} {g : Addr}
/-- for, the iterable raw -/
theorem ws_forR (F : Fx X P w K mg base N sc own k) (hI : Wi X tg iter σ H fun J H1 => ∃ (ds : List PyData) (B1 : Hp), Ex B1 H1 ∧ Drives J B1 ds ∧ ∃ Pv : Nat → L2.St → Hp → Prop, Pv 0 σ H1 ∧ (∀ i d σ' H', ds[i]? = some d → Pv i σ' H' → ∃ B', Ex B1 B' ∧ Ex B' H' ∧ ∀ v B'' H'', Nw B' H' B'' H'' → Rp B'' v d →
      Wg X tg v σ' H'' fun σ2 H2 => Ws X body { D with nx := Pv (i + 1), ct := Pv (i + 1), bk := Ws X rest D } σ2 H2) ∧ (∀ i σ' H', Pv i σ' H' → Ex B1 H') ∧ ∀ σ' H', Pv ds.length σ' H' → Ws X rest D σ' H')
    (hs : ∀ env x, foldedSetIterable iter env x = pure x := by intro _ _; rfl) : Ws X (.For tg iter body [] pos :: rest) D σ H := by
  obtain ⟨t, ht, hq⟩ := hI
  let wi : TI := fun σ H R => ∃ R0, t σ H R0 ∧ ∀ J H', R0 J H' → R J H'
  have hwi : ∀ i, PI (X i) tg iter wi := fun i => ⟨fun pins s σ H R I ⟨R0, h1, h2⟩ => thn ((ht i).run pins s σ H R0 I h1) fun it s' z => thn z fun it2 s2 z2 => pie_weak z2 h2⟩
  refine ⟨tSeq (tFor wi (Wg X tg) (Ws X body)) (Ws X rest), fun i => pss_cons (ps_for (F.pass i) (F.calm i) (hwi i) (Wg.pg i) (Ws.ps i) (hs _)) (Ws.ps i), _, hq, fun J H1 hJ => ?_⟩
  obtain ⟨ds, B1, x1, dr, Pv, p0, turn, base, fin⟩ := hJ
  refine ⟨fun i m σ H => m = ds.length - i ∧ i ≤ ds.length ∧ Pv i σ H, ⟨_, rfl, Nat.zero_le _, p0⟩, ?_⟩
  rintro i m σ' H' ⟨rfl, hi, pv⟩
  have b1 := base i σ' H' pv
  by_cases hlt : i < ds.length
  · refine .inr ⟨dr.go i H' b1 hlt, Pv (i + 1), fun σ'' H'' pv' => ⟨ds.length - (i + 1), by omega, rfl, hlt, pv'⟩, fun x H2 y => ?_⟩
    have hd := List.getElem?_eq_getElem hlt
    obtain ⟨B', x1, x2, h⟩ := turn i _ σ' H' hd pv
    obtain ⟨B'', n, r⟩ := dr.yld i _ hd H' x H2 b1 y B' x1 x2
    exact h x B'' H2 n r
  · have e : i = ds.length := by omega
    subst e
    exact .inl ⟨dr.stop _ H' b1 (Nat.le_refl _), fin σ' H' pv⟩
theorem wi_range1 (F : Fx X P w K mg base N sc own k) {R : It → Hp → Prop} (h : We X a σ H fun v H1 => ∃ j : Int, v = .int j ∧ -1000000 ≤ j ∧ j ≤ 1000000 ∧ R (Itr 0 j.toNat) H1) (hm : mg "range" = none) (hg : sc.names.lookup ("range" : Str) = some .globalImplicit := by rfl) (hs : ∀ env, starEach [a] env = [(false, eval a env)] := by intro _; rfl) :
    Wi X tg (.Call (.Name "range" p) [a] [] pos) σ H R := by
  refine ⟨iRng1 (Wa X [a]), fun i => pi_range1 (F.gl hg i) (by rw [F.hmg i]; exact hm) (Wa.pa i) (hs _), ?_⟩
  refine wa_cons (h.weak fun v H1 ⟨j, ev, h1, h2, q⟩ => ?_) (fun env => by rw [hs]; rfl)
  subst ev
  exact wa_nil ⟨j, rfl, by omega, by omega, q⟩
/-- d[i] = e, raw -/
theorem ws_dputR (F : Fx X P w K mg base N sc own k) (io : Nat) (ho : σ[io]? = some (some (.ref g))) (h : We X e σ H fun v H1 => We X i σ H1 fun y H2 => ∃ H3, DPut H2 g y v H3 ∧ Ws X rest D σ H3) (hN : N[io]? = some x := by rfl)
    (hx : Vis sc x := by first | exact Or.inl rfl | exact Or.inr (Or.inl rfl) | exact Or.inr (Or.inr rfl)) (hd : (x == ("__debug__" : Str)) = false := by decide) (hcd : (x == ("__classdict__" : Str)) = false := by decide)
    (hs : ∀ env, swapsWith e (some (.Subscript (.Name x px) i pos')) pos.line env = pure false := by intro _; rfl) :
    Ws X (.Assign [.Subscript (.Name x px) i pos'] e pos :: rest) D σ H := by
  refine ⟨tSeq (sDPut (tVar io) (We X i) (We X e)) (Ws X rest), fun y => pss_cons (ps_dput (F.hu1 y) (pe_var (by rw [F.hN y]; exact hN) (by rw [F.hsc y]; exact hx) hd hcd) (We.pe y) (We.pe y) (hs _)) (Ws.ps y), ?_⟩
  exact h.weak fun v H1 h1 => ⟨.ref g, ho, h1.weak fun y H2 ⟨H3, p, q⟩ => ⟨g, H3, rfl, p, q⟩⟩
/-- d.items() -/
theorem we_itemsT (F : Fx X P w K mg base N sc own k) (io : Nat) {kvs : List (List L2.Key × V)} {Q : VK} (ho : σ[io]? = some (some (.ref g))) (hg : H g = some (.dT kvs)) (q : ∀ p, H p = none → Q (.ref p) (upd H p (L2.DX.itemsO p g))) (hN : N[io]? = some x := by rfl)
    (hx : Vis sc x := by first | exact Or.inl rfl | exact Or.inr (Or.inl rfl) | exact Or.inr (Or.inr rfl)) (hd : (x == ("__debug__" : Str)) = false := by decide) (hcd : (x == ("__classdict__" : Str)) = false := by decide)
    (hbase : ∀ env, attributeBase (.Name x px) "items" env (eval (.Name x px) env) = eval (.Name x px) env := by intro _; rfl) (hline : (p1.endLine == p2.line) = true := by rfl) :
    We X (.Call (.Attribute (.Name x px) "items" p1) [] [] p2) σ H Q := by
  refine ⟨tBM0 K "dict" L2.DX.rItemsT (tVar io), fun y => ?_, ?_⟩
  · have h := pe_bm0 (X := X y) (apos := p1) (cpos := p2) PySem.F.plainAttrs_dict PySem.F.slot_dict_items PySem.F.type_dict_items L2.DX.mt_itemsT (pe_var (i := io) (pos := px) (by rw [F.hN y]; exact hN) (by rw [F.hsc y]; exact hx) hd hcd) (hbase _) hline
    rw [F.hK y] at h
    exact h
  · exact ⟨.ref g, ho, .inr (.inr (.inl ⟨rfl, .inr ⟨kvs, hg⟩⟩)), g, kvs, rfl, rfl, hg, q⟩
end
end Lay
end

section
set_option Elab.async false
set_option linter.all false
set_option maxRecDepth 100000
set_option maxHeartbeats 2000000
/-! sorted of a tuple, of a dict -/
namespace Lay
open PySem PySem.Spec PyProof.Rows L2
open PySem.W (EachIs AllAlike Sortable dataLe alike)
mutual
theorem Reads.there {h : Heap} : ∀ (d : PyData) {v : Value} {as : List Addr}, Reads h v d as → alike d d = true → ∀ a ∈ as, a < h.objs.size
  | .none, _, _, r, _, a, ha => by cases r; cases ha
  | .bool _, _, _, r, _, a, ha => by cases r; cases ha
  | .int _, _, _, r, _, a, ha => by cases r; cases ha
  | .str _, _, _, r, _, a, ha => by cases r; cases ha
  | .list xs, _, _, r, al, a, ha => by
    cases r with
    | list h1 h2 h3 h4 =>
      rcases List.mem_cons.mp ha with z | z
      · rw [z]; exact Heap.lt_size h1
      · exact ReadsAll.there xs h4 (by simpa [alike] using al) a z
  | .tuple xs, _, _, r, al, a, ha => by
    cases r with
    | tuple h1 h2 h3 h4 => exact ReadsAll.there xs h4 (by simpa [alike] using al) a ha
  | .dict _, _, _, _, al, _, _ => absurd al (by simp [alike])
theorem ReadsAll.there {h : Heap} : ∀ (ds : List PyData) {vs : List Value} {as : List Addr}, ReadsAll h vs ds as → PySem.W.alikeAll ds ds = true → ∀ a ∈ as, a < h.objs.size
  | [], _, _, r, _, a, ha => by cases r; cases ha
  | d :: ds, _, _, r, al, a, ha => by
    cases r with
    | cons r1 r2 =>
      rcases List.mem_append.mp ha with z | z
      · exact Reads.there d r1 (PySem.W.alike_all_cons al).1 a z
      · exact ReadsAll.there ds r2 (PySem.W.alike_all_cons al).2 a z
end
section
variable {prog : Program} {w : World} {A : Around} {E : Value → Shared → Prop} {s : Shared}
theorem collect_tuple {l : Addr} {vs : List Value} {Q : List Value → Shared → Prop} (hl : s.heap.IsTuple l vs.toArray)
    (h : Q vs { s with heap := (s.heap.push (seqObj "list" #[] 0)).update s.heap.objs.size (Obj.mapSeq (· ++ vs.toArray)) }) (hsz : vs.length ≤ sizeLine) :
    wpAny (model prog w) A (collect (.ref l)) Q E s := by
  obtain ⟨o, ho, hc, n, hd⟩ := id hl
  unfold collect
  refine wpAny_bind (wpAny_runValue (codeAny_builtin PyProof.Rows.entry_proto_collect' ?_))
  show wpAny _ _ (do again (.builtin "list.__iadd__" ⟨[← newList [], .ref l], []⟩)) _ _ s
  refine wpAny_bind (wpAny_newList (wpAny_pure ⟨Code.quiet_builtin _ (by decide +kernel), codeAny_builtin PyProof.Rows.entry_list_iadd' ?_⟩))
  show wpAny _ _ (Builtin.List.listExtendWith (.ref s.heap.objs.size) (.ref l) (.ref s.heap.objs.size)) _ _ { s with heap := s.heap.push (seqObj "list" #[] 0) }
  unfold Builtin.List.listExtendWith
  have ho' : (s.heap.push (seqObj "list" #[] 0)).get? l = some o := Heap.get?_push_of_some _ ho
  refine wpAny_bind (wpAny_typeOf (T := "tuple") ⟨o, ho', hc⟩ ?_)
  have ht : (Value.type "tuple" == Value.type "tuple") = true := by rfl
  rw [if_pos (by rw [ht]; simp)]
  refine wpAny_bind (listItems_at ho' hd ?_)
  refine wpAny_bind (listItems_at (xs := #[]) (n := 0) (Heap.get?_push_size _ rfl) rfl ?_)
  rw [if_neg (by simp)]
  refine wpAny_bind (listUpdate_at (xs := #[]) (n := 0) (Heap.get?_push_size _ rfl) rfl ?_ (Nat.zero_le _) (by show (#[] ++ vs.toArray).size ≤ sizeLine + 1; simp only [Array.size_append, List.size_toArray, List.length_nil]; omega))
  refine wpAny_pure ?_
  show wpAny (model prog w) A (do
      let o ← load s.heap.objs.size
      match o.data with
      | .seq xs _ => pure xs.toList
      | _ => unsupported "internal:collect") Q E { s with heap := (s.heap.push (seqObj "list" #[] 0)).update s.heap.objs.size (Obj.mapSeq (· ++ vs.toArray)) }
  refine wpAny_bind (wpAny_load (get?_update_seq (Heap.get?_push_size _ rfl) _) ?_)
  show wpAny _ _ (pure ((#[] : Array Value) ++ vs.toArray).toList) Q E _
  rw [show ((#[] : Array Value) ++ vs.toArray).toList = vs by simp]
  exact wpAny_pure h
end
section
variable {X : Cx} {pins : List (Addr × Obj)} {σ : L2.St} {H : Hp} {s : Shared} {β : Type}
/-- sorted, from what collect gives -/
theorem sorted_core {r : Value} {enc : β → PyData} {Pc : Heap → Nat → List Value → Prop} {Q : VK} {E : Value → Shared → Prop} (I : Inv X pins σ H s) (hu : X.A.units + 90 < cLine)
    (hcol : ∀ (R : List Value → Shared → Prop), (∀ h' tk vs, Pc h' tk vs → R vs { s with heap := h', toks := tk }) → wpAny (model X.prog X.w) X.A.in1 (collect r) R E s)
    (hP : ∀ h' tk vs, Pc h' tk vs → ∃ its : List (V × β), (∀ b o, s.heap.get? b = some o → h'.get? b = some o) ∧ Vals (its.map (·.1)) vs ∧ (∀ z ∈ its, Rp H z.1 (enc z.2)) ∧ SortOk enc (its.map (·.2)) ∧
      ∀ p, H p = none → Q (.ref p) (upd H p (.lst ((srt (fun z : V × β => enc z.2) its).map (·.1))))) :
    wpAny (model X.prog X.w) X.A (call (.builtin "sorted") [r]) (EP X pins σ Q) E s := by
  refine Calls.call_function_entry PyProof.Rows.kind_sorted PyProof.Rows.plain_sorted PyProof.Rows.entry_sorted (PyProof.Rows.args_sorted1 _) ?_
  unfold Builtin.«sorted»
  refine wpAny_bind (m := checkCount "sorted" 1 1 _) (wpAny_pure ?_)
  refine wpAny_bind (hcol _ fun h' tk vs hc => ?_)
  obtain ⟨its, hk, rv, hr, ok, q⟩ := hP h' tk vs hc
  have I1 : Inv X pins σ H { s with heap := h', toks := tk } := I.kept hk
  have hlen : vs.length = its.length := by rw [← rv.length, List.length_map]
  obtain ⟨o1, o2, o3, o4⟩ := ok2 ok
  refine wpAny_bind (wpAny_newList ?_ (by rw [hlen, sizeLine_eq]; omega))
  have hoL : (h'.push (seqObj "list" vs.toArray 0)).get? h'.objs.size = some (seqObj "list" vs.toArray 0) := Heap.get?_push_size _ rfl
  show wpAny _ _ _ _ _ { s with heap := h'.push (seqObj "list" vs.toArray 0), toks := tk }
  have e := each_vals rv
  have er : EachIs (fun v (z : V × β) => ∃ as, Reads (h'.push (seqObj "list" vs.toArray 0)) v (enc z.2) as ∧ h'.objs.size ∉ as) vs its := each_and (reads_of I1 hr e) fun v z hz ⟨as, rd⟩ => by
    have al : alike (enc z.2) (enc z.2) = true := o1 _ (List.mem_map.mpr ⟨z, hz, rfl⟩) _ (List.mem_map.mpr ⟨z, hz, rfl⟩)
    exact ⟨as, PyProof.Rows.Reads.keeps (fun b o e => Heap.get?_push_of_some _ e) rd, fun hm => Nat.lt_irrefl _ (Reads.there _ rd al _ hm)⟩
  refine wpAny_bind (wpAny_holding (PySem.W.list_sort_data (s := { s with heap := h'.push (seqObj "list" vs.toArray 0), toks := tk }) (bs := its) (enc := fun z => enc z.2) hoL e er o1 o2 (by rw [sizeLine_eq]; omega) (fun z hz => ?_) fun out ho eo => ?_))
  · have := o4 z hz
    show X.A.units + 1 + 1 + (enc z.2).depth < cLine
    omega
  · obtain ⟨ep, he⟩ := PyProof.Rows.sortedHeap_at (vs := vs) (out := List.toArray out) hoL
    have rv' := vals_each eo
    have hl2 : ((srt (fun z : V × β => enc z.2) its).map (·.1)).length ≤ sizeLine := by
      rw [List.length_map, (srt_perm _ _).length_eq, sizeLine_eq]
      omega
    refine wpAny_pure ⟨_, rfl, .ref h'.objs.size, upd H h'.objs.size (.lst ((srt (fun z : V × β => enc z.2) its).map (·.1))), I1.laid (t' := tk) (fun b u e => ?_) (Nat.le_refl _) ⟨hl2, out, ep, rv', he⟩, rfl, q _ (I1.hok.fresh (Nat.le_refl _))⟩
    have hb : b < h'.objs.size := Heap.lt_size e
    rw [PyProof.Rows.sortedHeap_old (Nat.ne_of_lt hb) (by rw [size_push']; exact Nat.lt_succ_of_lt hb)]
    exact Heap.get?_push_of_some _ e
/-- sorted(a tuple) -/
def rSortedT (K : PySem.W.Frag) (enc : β → PyData) : List V → Hp → VK → Prop := fun vs H Q => ∃ (a : Addr) (its : List (V × β)), vs = [.ref a] ∧ SqT K H a (its.map (·.1)) ∧ (∀ z ∈ its, Rp H z.1 (enc z.2)) ∧ SortOk enc (its.map (·.2)) ∧
  ∀ p, H p = none → Q (.ref p) (upd H p (.lst ((srt (fun z : V × β => enc z.2) its).map (·.1))))
theorem cr_sortedT {enc : β → PyData} (hu : X.A.units + 90 < cLine) : CallR X (.builtin "sorted") (rSortedT X.K enc) := by
  intro pins s σ H xs us Q I r h
  obtain ⟨a, its, rfl, hl, hp, ok, q⟩ := h
  obtain rfl := Vals.ref1 r
  obtain ⟨vs, rv, pl, hz⟩ := I.tuple hl
  have hlen : vs.length = its.length := by rw [← rv.length, List.length_map]
  have hl3 := ok.len
  rw [List.length_map] at hl3
  refine sorted_core (enc := enc) (Pc := fun h' tk vs' => vs' = vs ∧ ∀ b o, s.heap.get? b = some o → h'.get? b = some o) I hu (fun R hR => collect_tuple pl (hR _ s.toks vs ⟨rfl, fun b o e => ?_⟩) (by rw [hlen, sizeLine_eq]; omega)) fun h' tk vs' ⟨e, hk⟩ => ?_
  · have hb : b < s.heap.objs.size := Heap.lt_size e
    rw [Heap.get?_update_ne _ _ _ _ (Nat.ne_of_lt hb)]
    exact Heap.get?_push_of_some _ e
  · subst e
    exact ⟨its, hk, rv, hp, ok, q⟩
end
section
variable {ι : Type} {X : ι → Cx} {P : Program} {w : World} {K : PySem.W.Frag} {mg : Str → Option Value} {base : Heap} {N : List Str} {sc : Scope} {own : Str → Bool} {k : Nat} {β : Type}
theorem c_sortedT (F : Fx X P w K mg base N sc own k) {enc : β → PyData} {bs : List β} (ok : SortOk enc bs) : C1 X (.builtin "sorted") [.tuple (bs.map enc)] (.list ((srt enc bs).map enc)) :=
  ⟨rSortedT K enc, fun i => by have h := cr_sortedT (X := X i) (enc := enc) (by have := (F.room i).un; omega); rw [F.hK i] at h; exact h, fun B H vs x r Q q => by
    cases r with
    | cons r1 r2 =>
      cases r2
      cases r1 with
      | @tup a xs _ h1 h2 =>
        obtain ⟨e1, e2, e3⟩ := zip_snd h2
        refine ⟨a, xs.zip bs, rfl, by rw [e1]; exact SqT.of (x _ _ h1), fun z hz => (e3 z hz).up x, by rw [e2]; exact ok, fun p hp => ?_⟩
        have n := Nw.new (o := .lst ((srt (fun z : V × β => enc z.2) (xs.zip bs)).map (·.1))) x hp
        exact q _ _ _ n (.lst upd_same ((srt_rp h2).up n.bb))⟩
/-- sorted(d), d a dict by pairs of ints -/
def encP (p : Int × Int) : PyData := .tuple [.int p.1, .int p.2]
def rSortedDT : List V → Hp → VK → Prop := fun vs H Q => ∃ (a : Addr) (kvs : List (List L2.Key × V)) (ps : List (Int × Int)), vs = [.ref a] ∧ H a = some (.dT kvs) ∧ kvs.map (·.1) = ps.map (fun p => [Sum.inl p.1, Sum.inl p.2]) ∧ ps.length ≤ 1000 ∧
  ∀ (zs : List (V × (Int × Int))) (p : Addr), H p = none → zs.map (·.2) = srt encP ps → (∀ z ∈ zs, ∃ b, z.1 = .ref b ∧ H b = some (.tup [.int z.2.1, .int z.2.2])) → Q (.ref p) (upd H p (.lst (zs.map (·.1))))
theorem cr_sortedDT {X : Cx} (hc : X.calm = true) (hu : X.A.units + 90 < cLine) : CallR X (.builtin "sorted") rSortedDT := by
  intro pins s σ H xs us Q I r h
  obtain ⟨d, kvs, ps, rfl, hd, hkp, h64, q⟩ := h
  obtain rfl := Vals.ref1 r
  obtain ⟨z, hs, ks, pr, o, es, ep, ho, hx, hdt, he, hn⟩ := (show ObjOk X.prog X.w H s.heap d (.dT kvs) from (Rd.of hd).ok I.hok)
  have l1 : es.size = ks.length := size_of_entries he
  have l2 : kvs.length = ks.length := Paired.length pr
  have l3 : kvs.length = ps.length := by
    have e := congrArg List.length hkp
    rwa [List.length_map, List.length_map] at e
  refine sorted_core (enc := encP) (Pc := fun h' tk vs => vs = ks.map (fun x => Value.ref x.2.1) ∧ ∀ b o, s.heap.get? b = some o → h'.get? b = some o) I hu (fun R hR => PySem.W.kdu_collect (A := X.A.in1) (kdl_raw hs hx hdt) (I.ok.hd hc) ho (by rw [sizeLine_eq]; omega) fun h' tk acc' kp it => hR h' tk _ ⟨?_, kp⟩) fun h' tk vs' ⟨e, hk⟩ => ?_
  · have hl : acc'.toList.length = ks.length := by rw [Array.length_toList, it.1]; exact l1
    apply List.ext_getElem?
    intro j
    rw [List.getElem?_map]
    cases hj : acc'.toList[j]? with
    | none =>
      have h1 := List.getElem?_eq_none_iff.mp hj
      rw [List.getElem?_eq_none (by omega)]
      all_goals rfl
    | some v =>
      obtain ⟨en, hen, hv⟩ := it.2 j v (by rw [← Array.getElem?_toList]; exact hj)
      have qe := entry_at he j
      rw [hen] at qe
      cases hb : ks[j]? with
      | none =>
        rw [hb] at qe
        exact nomatch (show some en = none from qe)
      | some b =>
        rw [hb] at qe
        have e2 : en = entryOfKey (tupleKind (mixKind X.prog X.w)) b := Option.some.inj qe
        rw [hv, e2]
        all_goals rfl
  · subst e
    have gen : ∀ {kvs : List (List L2.Key × V)} {ks : List (List L2.Key × Addr × Value)}, KT H kvs ks → ∀ ps : List (Int × Int), kvs.map (·.1) = ps.map (fun p => [Sum.inl p.1, Sum.inl p.2]) →
        ((ks.zip ps).map fun z => V.ref z.1.2.1) = ks.map (fun x => V.ref x.2.1) ∧ (ks.zip ps).map (·.2) = ps ∧ ∀ z ∈ ks.zip ps, H z.1.2.1 = some (.tup [.int z.2.1, .int z.2.2]) := by
      intro kvs ks r
      induction r with
      | nil =>
        intro ps e
        cases ps with
        | nil => exact ⟨rfl, rfl, fun _ h => absurd h (by simp)⟩
        | cons p ps => cases e
      | @cons p x kvs ks h t ih =>
        intro ps e
        cases ps with
        | nil => cases e
        | cons y ps =>
          rw [List.map_cons, List.map_cons, List.cons.injEq] at e
          obtain ⟨a, b, c⟩ := ih ps e.2
          refine ⟨by rw [List.zip_cons_cons, List.map_cons, List.map_cons, a], by rw [List.zip_cons_cons, List.map_cons, b], fun z hz => ?_⟩
          rw [List.zip_cons_cons] at hz
          rcases List.mem_cons.mp hz with q | q
          · rw [q]
            have h2 := h.2.1
            rw [e.1] at h2
            exact h2
          · exact c z q
    obtain ⟨g1, g2, g3⟩ := gen pr ps hkp
    refine ⟨(ks.zip ps).map fun z => (V.ref z.1.2.1, z.2), hk, ?_, fun z hz => ?_, ?_, fun p hp => q _ p hp ?_ fun z hz => ?_⟩
    · rw [List.map_map]
      show Vals ((ks.zip ps).map fun z => V.ref z.1.2.1) _
      rw [g1]
      exact L2.vals_maps _ _ ks fun _ _ => rfl
    · obtain ⟨y, hy, rfl⟩ := List.mem_map.mp hz
      exact .tup (g3 y hy) (.cons (.int _) (.cons (.int _) .nil))
    · rw [List.map_map]
      show SortOk encP ((ks.zip ps).map (·.2))
      rw [g2]
      exact ⟨PySem.W.AllAlike.of fun _ _ => by simp [PySem.W.alike, PySem.W.alikeAll, encP], PySem.W.Sortable.tuples fun _ => ⟨_, _, rfl⟩, by omega, fun b _ => by simp [encP, PyData.depth, PyData.depthAll]⟩
    · rw [srt_snd, List.map_map]
      show srt encP ((ks.zip ps).map (·.2)) = _
      rw [g2]
    · have := (srt_perm _ _).mem_iff.mp hz
      obtain ⟨y, hy, rfl⟩ := List.mem_map.mp this
      exact ⟨_, rfl, g3 y hy⟩
end
end Lay
end

section
set_option Elab.async false
set_option linter.all false
set_option maxRecDepth 100000
set_option maxHeartbeats 2000000
/-! sorted(xs, key=lambda part: (len(part), part)) -/
namespace Lay
open PySem PySem.Spec PyProof.Rows L2
open PySem.W (EachIs AllAlike Sortable dataLe alike KeyPure kla_obj kla_fn)
abbrev lamB (a : Str) (p1 p2 p3 p4 p5 : Pos) (k : Nat) : Expr := .Tuple [.Call (.Name "len" p1) [.Name a p2] [] p3, .Name a p4] k p5
structure LamOk (scope : Scope) (a : Str) : Prop where
  kind : scope.kind = .function
  co : scope.isCoroutine = false
  gen : scope.isGenerator = false
  cell : ∀ y ∈ scope.names, y.2 ≠ .cell ∧ y.2 ≠ .free
  par : scope.names.lookup a = some .local
  len : scope.names.lookup ("len" : Str) = some .globalImplicit
  da : (a == ("__debug__" : Str)) = false
  /-- its call is a plain one -/
  cp : ∀ (env : Env) (p2 p3 : Pos), (backTo p3 (starEach [] env)).any (·.1) = false
  se : ∀ (env : Env) (p2 : Pos), starEach [.Name a p2] env = (false, eval (.Name a p2) env) :: starEach [] env
section
variable {prog : Program} {w : World} {A : Around} {s : Shared}
theorem lam_turn {f c' p : Addr} {q : Str} {params : Arguments} {scope : Scope} {pm ctv : Value} {a : Str} {its : Array Value} {ds : List PyData} {p1 p2 p3 p4 p5 : Pos} {k : Nat} {mg mb : Str → Option Value} (L : LamOk scope a)
    (hf : s.heap.get? f = some (kla_obj "<lambda>" q params (lamB a p1 p2 p3 p4 p5 k) scope [] pm c' ctv)) (hcode : s.heap.CodeRec (.ref c') q) (hbind : bindArgs (kla_fn "<lambda>" q params (lamB a p1 p2 p3 p4 p5 k) scope [] pm (.ref c') ctv) ⟨[.ref p], []⟩ = pure [(a, .ref p)])
    (hroom : A.depth < recursionLimit) (lim : s.heap.NoLimit) (glob : s.heap.Ns mainGlobals mg) (hm : mg "len" = none) (blt : s.heap.Ns builtinsNs mb) (hb : mb "len" = some (.builtin "len"))
    (tup : IsTup s.heap p its) (hz : its.size ≤ sizeLine) (rd : Reads s.heap (.ref p) (.tuple ds) []) (hl : its.size = ds.length)
    (hst : ∀ env, starEach [.Call (.Name "len" p1) [.Name a p2] [] p3, .Name a p4] env = (false, eval (.Call (.Name "len" p1) [.Name a p2] [] p3) env) :: starEach [.Name a p4] env) (hst2 : ∀ env, starEach [.Name a p4] env = (false, eval (.Name a p4) env) :: starEach [] env) :
    wpAny (model prog w) A (call (.ref f) [.ref p]) (KeyPure (.tuple [.int (ds.length : Nat), .tuple ds]) s) (fun _ _ => False) s := by
  refine wpAny_call (codeAny_mono (PySem.W.kla_callFunE (R := fun r s' => ∃ u, r = .ok (.ret u) ∧ KeyPure (.tuple [.int (ds.length : Nat), .tuple ds]) s u s') hroom hf rfl L.co L.gen rfl hcode ?_) fun r s' h => ?_)
  · rw [hbind]
    refine wpAny_pure (wpAny_newFunctionEnv (fun y hy => (L.cell y hy).1) (fun y hy => by rw [List.mem_singleton.mp hy]; exact L.par) (fun h₁ hns hsb => ⟨lim.fresh _ hsb, ?_⟩) L.kind)
    have kp : ∀ b o, s.heap.get? b = some o → h₁.get? b = some o := fun b o e => hsb.extBut b o (Nat.ne_of_lt (Heap.lt_size e)) (Heap.get?_push_of_some _ e)
    refine PySem.W.kla_codeExpr ?_
    generalize hS : ({ s with heap := h₁, toks := s.toks + ([(a, Value.ref p)] : List (Str × Value)).length } : Shared) = S
    have hSh : S.heap = h₁ := by rw [← hS]
    generalize hE : newEnv scope s.heap.objs.size mainGlobals [] (q ++ ".<locals>.") (some f) (.ref c') none builtinsNs = env
    have ek : env.scope.kind = .function := by rw [← hE]; exact L.kind
    have el : env.kindOf a = some .local := by rw [← hE]; exact L.par
    have en : env.kindOf "len" = some .globalImplicit := by rw [← hE]; exact L.len
    have eloc : env.locals = s.heap.objs.size := by rw [← hE]; rfl
    have eg : env.globals = mainGlobals := by rw [← hE]; rfl
    have eb : env.builtins = builtinsNs := by rw [← hE]; rfl
    have hns' : S.heap.Ns env.locals (fun x => ([(a, Value.ref p)] : List (Str × Value)).reverse.lookup x) := by rw [hSh, eloc]; exact hns
    have la : (fun x => ([(a, Value.ref p)] : List (Str × Value)).reverse.lookup x) a = some (Value.ref p) := by simp [List.lookup]
    refine wpAny_Tuple_spliced ?_
    rw [hst]
    show wpAny _ _ (spliced ((false, eval (.Call (.Name "len" p1) [.Name a p2] [] p3) env) :: backTo p5 (starEach [.Name a p4] env))) _ _ S
    refine Calls.spliced_cons ?_
    refine wpAny_Call_Name_kw (Calls.Name_function_global ek en (Calls.loadGlobal_builtin (by rw [hSh, eg]; exact glob.keeps kp) hm (by rw [hSh, eb]; exact blt.keeps kp) hb ?_) (by decide))
    refine PyProof.Rows.callWith_builtin1 ?_ (L.se env p2) (L.cp env p2 p3)
    rw [L.se]
    show wpAny _ _ (spliced ((false, eval (.Name a p2) env) :: backTo p3 (starEach [] env))) _ _ S
    refine Calls.spliced_cons (wpAny_Name (wpAny_loadName_local ek el hns' la (Calls.spliced_nil ?_)) L.da)
    refine len_tuple (by obtain ⟨o, ho, r⟩ := tup; exact ⟨o, by rw [hSh]; exact kp _ _ ho, r⟩) (by have := line63; omega) ?_
    rw [hst2]
    show wpAny _ _ (spliced ((false, eval (.Name a p4) env) :: backTo p5 (starEach [] env))) _ _ _
    refine Calls.spliced_cons (wpAny_Name (wpAny_loadName_local ek el hns' la (Calls.spliced_nil ?_)) L.da)
    subst hS
    refine ⟨by show 2 ≤ sizeLine; decide, _, rfl, h₁.push { cls := .type "tuple", data := .seq [Value.int (its.size : Nat) (s.toks + ([(a, Value.ref p)] : List (Str × Value)).length + 1), Value.ref p].toArray }, s.toks + ([(a, Value.ref p)] : List (Str × Value)).length + 1 + 1, rfl, fun b o e => Heap.get?_push_of_some _ (kp b o e), ?_⟩
    rw [hl]
    exact Reads.tuple (Heap.get?_push_size _ rfl) rfl rfl (ReadsAll.cons (as := []) (bs := []) (Reads.int _ _) (ReadsAll.cons (as := []) (bs := []) (PyProof.Rows.Reads.keeps (fun b o e => Heap.get?_push_of_some _ (kp b o e)) rd) ReadsAll.nil))
  · obtain ⟨u, e, hk⟩ := h
    subst e
    exact hk
end
mutual
/-- no list in it -/
def noLst : PyData → Bool
  | .tuple ds => noLstAll ds
  | .list _ => false
  | .dict _ => false
  | _ => true
def noLstAll : List PyData → Bool
  | [] => true
  | d :: ds => noLst d && noLstAll ds
end
mutual
theorem Reads.noL {h : Heap} : ∀ (d : PyData) {v : Value} {as : List Addr}, noLst d = true → Reads h v d as → as = []
  | .none, _, _, _, r => by cases r; rfl
  | .bool _, _, _, _, r => by cases r; rfl
  | .int _, _, _, _, r => by cases r; rfl
  | .str _, _, _, _, r => by cases r; rfl
  | .list _, _, _, e, _ => by rw [noLst] at e; cases e
  | .dict _, _, _, e, _ => by rw [noLst] at e; cases e
  | .tuple ds, _, _, e, r => by
    rw [noLst] at e
    cases r with
    | tuple h1 h2 h3 h4 => exact ReadsAll.noL ds e h4
theorem ReadsAll.noL {h : Heap} : ∀ (ds : List PyData) {vs : List Value} {as : List Addr}, noLstAll ds = true → ReadsAll h vs ds as → as = []
  | [], _, _, _, r => by cases r; rfl
  | d :: ds, _, _, e, r => by
    rw [noLstAll, Bool.and_eq_true] at e
    cases r with
    | cons r1 r2 => rw [Reads.noL d e.1 r1, ReadsAll.noL ds e.2 r2]; rfl
end
def keyD (ds : List PyData) : PyData := .tuple [.int (ds.length : Nat), .tuple ds]
section
variable {X : Cx} {β : Type}
def tSortLam (K : PySem.W.Frag) (T : List (Addr × Str)) (ds : β → List PyData) (te : TE) : TE := fun σ H Q => te σ H fun v H1 => ∃ (a : Addr) (its : List (V × β)), v = .ref a ∧ SqL K H1 a (its.map (·.1)) ∧ (∀ z ∈ its, Rp H1 z.1 (.tuple (ds z.2)) ∧ noLst (.tuple (ds z.2)) = true) ∧ SortOk (fun b => keyD (ds b)) (its.map (·.2)) ∧ LamX.Tabs T H1 ∧
  ∀ H2 p, LamX.ExtN H1 H2 → LamX.Tabs T H2 → H2 p = none → Q (.ref p) (upd H2 p (.lst ((srt (fun z : V × β => keyD (ds z.2)) its).map (·.1))))
theorem sqL_N {K : PySem.W.Frag} {H H' : Hp} {a : Addr} {xs : List V} (h : SqL K H a xs) (e : LamX.ExtN H H') : SqL K H' a xs := by
  rcases h with (h | ⟨o, h⟩) | h
  · exact .inl (.inl (e _ _ h (fun ps z => by cases z)))
  · exact .inl (.inr ⟨o, e _ _ h (fun ps z => by cases z)⟩)
  · exact .inr h
mutual
theorem Rp.extN {H H' : Hp} (e : LamX.ExtN H H') : ∀ (d : PyData) {v : V}, Rp H v d → Rp H' v d
  | .none, _, h => by cases h; exact .non
  | .bool _, _, h => by cases h; exact .bl _
  | .int _, _, h => by cases h; exact .int _
  | .str _, _, h => by cases h; exact .str _
  | .list ds, _, h => by
    cases h with
    | lst h1 h2 => exact .lst (e _ _ h1 (fun ps z => by cases z)) (RpAll.extN e ds h2)
  | .tuple ds, _, h => by
    cases h with
    | tup h1 h2 => exact .tup (e _ _ h1 (fun ps z => by cases z)) (RpAll.extN e ds h2)
  | .dict _, _, h => by cases h
theorem RpAll.extN {H H' : Hp} (e : LamX.ExtN H H') : ∀ (ds : List PyData) {vs : List V}, RpAll H vs ds → RpAll H' vs ds
  | [], _, h => by cases h; exact .nil
  | d :: ds, _, h => by
    cases h with
    | cons h1 h2 => exact .cons (Rp.extN e d h1) (RpAll.extN e ds h2)
end
theorem pe_sortedLam {T : List (Addr × Str)} {c P : Addr} {ds : β → List PyData} {params : Arguments} {scope : Scope} {a : Str} {e : Expr} {te : TE} {p1 p2 p3 p4 p5 p pos lpos kp : Pos} {k kk : Nat} (hr : Room (kk + 2) X.A) (hg : Gl X "sorted") (hm : X.mg "sorted" = none) (hml : X.mg "len" = none)
    (TB : LamX.TabB X.base X.mg c P) (hcode : X.env.code = .ref c) (hmT : (P, X.env.qual ++ "<lambda>") ∈ T) (huT : ∀ p ∈ T, p.1 = P → p.2 = X.env.qual ++ "<lambda>") (L : LamOk scope a) (hclo : ∀ cells, cloFrom cells scope.names [] = []) (hdef : defaultsOf params X.env = ([], []))
    (hbind : ∀ (q : Str) (pm cv ctv v : Value), bindArgs (kla_fn "<lambda>" q params (lamB a p1 p2 p3 p4 p5 k) scope [] pm cv ctv) ⟨[v], []⟩ = pure [(a, v)]) (he : PE X e te)
    (hst : ∀ env, starEach [.Call (.Name "len" p1) [.Name a p2] [] p3, .Name a p4] env = (false, eval (.Call (.Name "len" p1) [.Name a p2] [] p3) env) :: starEach [.Name a p4] env) (hst2 : ∀ env, starEach [.Name a p4] env = (false, eval (.Name a p4) env) :: starEach [] env)
    (hse : starEach [e] X.env = (false, eval e X.env) :: starEach [] X.env) (hse2 : backTo pos (starEach [e] X.env) = (false, eval e X.env) :: backTo pos (starEach [] X.env)) (hpl : (backTo pos (starEach [e] X.env)).any (·.1) = false) :
    PE X (.Call (.Name "sorted" p) [e] [⟨some "key", .Lambda params (lamB a p1 p2 p3 p4 p5 k) scope lpos, kp⟩] pos) (tSortLam X.K T ds te) := by
  refine ⟨fun pins s σ H Q I h => ?_⟩
  refine wpAny_Call_Name_kw (ld_blt (u := .builtin "sorted") I hg hm (by decide +kernel) ?_ (by decide) (by decide))
  refine PyProof.Rows.callWith_kw ?_ hse2 hpl rfl rfl
  rw [hse]
  show wpAny _ _ (spliced ((false, eval e X.env) :: backTo pos (starEach [] X.env))) _ _ s
  refine Calls.spliced_cons (thn (he.run pins s σ H _ I h) fun u s1 ⟨x, H1, I1, r1, q1⟩ => Calls.spliced_nil ?_)
  obtain ⟨l, its, rfl, hsq, hrp, ok, hT, q⟩ := q1
  obtain rfl : u = Value.ref l := r1
  show wpAny _ _ (evalAll ((do let v ← eval (.Lambda params (lamB a p1 p2 p3 p4 p5 k) scope lpos) X.env; standAt pos; pure v) :: [])) _ _ s1
  refine wpAny_evalAll_cons (wpAny_bind (LamX.lam_make2 I1 TB hcode hmT huT hT hdef (fun y hy e => absurd e (L.cell y hy).2) fun f c' pm ctv H2 s2 I2 eN T2 hf hfn hfr hco => wpAny_bind (wpAny_standAt (wpAny_pure (wpAny_evalAll_nil ?_)))))
  show wpAny _ _ (call (.builtin "sorted") [.ref l] [(Str.ofString "key", .ref f)]) _ _ s2
  rw [hclo] at hf
  obtain ⟨vs, rv, pl, hz⟩ := I2.list (sqL_N hsq eN)
  have e2 := each_vals rv
  obtain ⟨o1, o2, o3, o4⟩ := ok2 (enc := fun b => keyD (ds b)) ok
  have hun := hr.un
  have crec : s2.heap.CodeRec (.ref c') (X.env.qual ++ "<lambda>") := by
    obtain ⟨⟨oc, vs, t, hoc, hdc, hvc⟩, _, _⟩ := I2.hok c' _ hco
    exact ⟨c', oc, vs, t, rfl, hoc, hdc, hvc⟩
  obtain ⟨mb, hb1, hb2⟩ := I2.mod.blt
  refine PySem.W.sorted_key_data (b := false) (bs := its) (R := fun v (z : V × β) => RelV z.1 v) (fun z => keyD (ds z.2)) pl.isList e2 o1 o2 (by rw [sizeLine_eq]; omega) (fun z hz => ?_) (ksk_s1 _ _) (fun _ => ksk_l1 _ _) (fun _ => ksk_t1 _ _) (fun v z hR hz h tk hk => ?_) fun out cc h' tk hk hfr' hD ho eo => ?_
  · have := o4 z hz
    omega
  · obtain ⟨hp, hn⟩ := hrp z hz
    have hp2 := Rp.extN eN _ hp
    have rds := Dp.reads I2 _ _ v hp2.dp hR
    cases z with
    | mk zv zb =>
    cases hp2 with
    | @tup ta xs _ h1 h2 =>
      obtain rfl : v = Value.ref ta := hR
      obtain ⟨its', rv', pt, hz'⟩ := I2.tuple (SqT.of h1)
      obtain ⟨as, rd⟩ := rds
      have ea := Reads.noL _ hn rd
      subst ea
      exact lam_turn (s := { s2 with heap := h, toks := tk }) (A := X.A.in1.in1) (its := its'.toArray) (ds := ds zb) L (hk _ _ hf) (by obtain ⟨c1, oc, vs1, t, e1, e2, e3, e4⟩ := crec; exact ⟨c1, oc, vs1, t, e1, hk _ _ e2, e3, e4⟩) (hbind _ _ _ _ _) (hr.in1.in1).depth (I2.nolimit.keeps hk) ((I2.mod.glob.keeps I2.bk).keeps hk) hml ((hb1.keeps I2.bk).keeps hk) ((hb2 "len" (by decide)).trans boot_len) (by obtain ⟨o, ho, r⟩ := pt; exact ⟨o, hk _ _ ho, r⟩) (by rw [List.size_toArray, ← rv'.length]; exact hz') (PyProof.Rows.Reads.keeps hk rd) (by rw [List.size_toArray, ← rv'.length, h2.length]) hst hst2
  · have rv3 := vals_each eo
    have hlen : ((srt (fun z : V × β => keyD (ds z.2)) its).map (·.1)).length ≤ sizeLine := by
      rw [List.length_map, (srt_perm _ _).length_eq, sizeLine_eq]
      omega
    have hf2 : H2 (s2.heap.objs.size + 1) = none := I2.hok.fresh (Nat.le_succ _)
    exact ⟨.ref (s2.heap.objs.size + 1), upd H2 (s2.heap.objs.size + 1) (.lst ((srt (fun z => keyD (ds z.2)) its).map (·.1))), I2.laid (t' := tk) hk (Nat.le_succ _) ⟨hlen, out, cc, rv3, hD⟩, rfl, q H2 _ eN T2 hf2⟩
end
end Lay
end

section
set_option Elab.async false
set_option linter.all false
set_option maxRecDepth 100000
set_option maxHeartbeats 2000000
namespace Lay
open PySem PySem.Spec PyProof.Rows L2
/-! ### where code tables may grow -/
/-- no table in it -/
def NT (B : Hp) : Prop := ∀ a ps, B a ≠ some (.tbl ps)
def noT (B : Hp) : Hp := fun a => match B a with | some (.tbl _) => none | o => o
theorem noT_nt (B : Hp) : NT (noT B) := fun a ps h => by
  unfold noT at h
  cases e : B a with
  | none => rw [e] at h; cases h
  | some o => rw [e] at h; cases o <;> simp at h
theorem noT_some {B : Hp} {a : Addr} {o : HO} (h : B a = some o) (n : ∀ ps, o ≠ .tbl ps) : noT B a = some o := by
  unfold noT
  rw [h]
  cases o <;> first | rfl | exact absurd rfl (n _)
theorem noT_of {B : Hp} {a : Addr} {o : HO} (h : noT B a = some o) : B a = some o := by
  unfold noT at h
  cases e : B a with
  | none => rw [e] at h; cases h
  | some o' => rw [e] at h; cases o' <;> simp at h <;> rw [h]
theorem noT_none {B : Hp} {a : Addr} (h : B a = none) : noT B a = none := by unfold noT; rw [h]
theorem noT_ex {B H : Hp} (e : Ex B H) : Ex (noT B) H := fun a o h => e a o (noT_of h)
theorem noT_sub {B B' : Hp} (n : NT B) (e : Ex B B') : Ex B (noT B') := fun a o h => noT_some (e a o h) fun ps z => n a ps (by rw [h, z])
mutual
theorem Rp.noT' {B : Hp} : ∀ (d : PyData) {v : V}, Rp B v d → Rp (noT B) v d
  | .none, _, h => by cases h; exact .non
  | .bool _, _, h => by cases h; exact .bl _
  | .int _, _, h => by cases h; exact .int _
  | .str _, _, h => by cases h; exact .str _
  | .list ds, _, h => by
    cases h with
    | lst h1 h2 => exact .lst (noT_some h1 (fun ps z => by cases z)) (RpAll.noT' ds h2)
  | .tuple ds, _, h => by
    cases h with
    | tup h1 h2 => exact .tup (noT_some h1 (fun ps z => by cases z)) (RpAll.noT' ds h2)
  | .dict _, _, h => by cases h
theorem RpAll.noT' {B : Hp} : ∀ (ds : List PyData) {vs : List V}, RpAll B vs ds → RpAll (noT B) vs ds
  | [], _, h => by cases h; exact .nil
  | d :: ds, _, h => by
    cases h with
    | cons h1 h2 => exact .cons (Rp.noT' d h1) (RpAll.noT' ds h2)
end
theorem Rp.nt {B : Hp} {v : V} {d : PyData} (h : Rp B v d) : Rp (noT B) v d := Rp.noT' d h
theorem RpAll.nt {B : Hp} {vs : List V} {ds : List PyData} (h : RpAll B vs ds) : RpAll (noT B) vs ds := RpAll.noT' ds h
/-- as Nw, but the tables of T may grow -/
structure NwT (T : List (Addr × Str)) (B H B' H' : Hp) : Prop where
  nt : NT B'
  bb : Ex B B'
  bh : Ex B' H'
  at' : LamX.ExtN H H'
  old : ∀ a o, H a = some o → (∀ ps, o ≠ .tbl ps) → B a = none → B' a = none
  tb : LamX.Tabs T H'
theorem NT.exN {B H H' : Hp} (n : NT B) (e : Ex B H) (x : LamX.ExtN H H') : Ex B H' := fun a o h => x a o (e a o h) fun ps z => n a ps (by rw [h, z])
theorem NwT.of {T : List (Addr × Str)} {B H B' H' : Hp} (w : Nw B H B' H') (n : NT B) (t : LamX.Tabs T H) : NwT T B H (noT B') H' :=
  ⟨noT_nt _, noT_sub n w.bb, noT_ex w.bh, LamX.ExtN.of w.hh, fun a o h1 _ h2 => noT_none (by rw [w.old a (by rw [h1]; simp), h2]), t.ext w.hh⟩
theorem NwT.trans {T : List (Addr × Str)} {B H B1 H1 B2 H2 : Hp} (a : NwT T B H B1 H1) (b : NwT T B1 H1 B2 H2) : NwT T B H B2 H2 :=
  ⟨b.nt, a.bb.trans b.bb, b.bh, a.at'.trans b.at', fun x o h1 h2 h3 => b.old x o (a.at' x o h1 h2) h2 (a.old x o h1 h2 h3), b.tb⟩
theorem NwT.cell {T : List (Addr × Str)} {B H B' H' : Hp} {c : Addr} {o : HO} (n : NwT T B H B' H') (h : H c = some o) (hb : B c = none) (ho : ∀ ps, o ≠ .tbl ps) : H' c = some o ∧ B' c = none := ⟨n.at' c o h ho, n.old c o h ho hb⟩
section
variable {P : Program} {w : World} {K : PySem.W.Frag} {mg : Str → Option Value} {base : Heap} {N : List Str} {k : Nat}
/-- THE RULE for a def that makes a lambda: its code object is known -/
theorem fn_lam {x qual : Str} {st : Stmt} {f c : Addr} {fd : FuncData} {ps : List Str} {sp : Sp} (F : Fun K x qual st f fd) (S : FnScope N ps (defScope st)) (hm : mg x = some (.ref f)) (hb : Binds K fd ps []) (hc : fd.code = .ref c)
    (len : ∀ vs H Q E, sp vs H Q E → vs.length = ps.length)
    (body : ∀ (X : Unit → Cx), Fx X P w K mg base N (defScope st) (fun _ => true) k → (∀ i, (X i).env.code = .ref c) → (∀ i, (X i).env.qual = qual ++ ".<locals>.") → ∀ (vs : List V) (H : Hp) (Q : VK) (E : XK), sp vs H Q E → Ws X (defBody st) { nx := fun _ H' => Q .non H', rt := Q } (start N vs) H) :
    Fn P w K mg base x (k + 1) ps sp := by
  have kp := F.kp
  obtain ⟨oc, od, kV, doc, pm, an, cdv, ct, osl, rfl, lk, hcd⟩ := F.ex
  refine ⟨f, _, fn_of lk hcd S len fun A outer s H vs Q E hr h => ?_, hm, kp, hb⟩
  have hc' : cdv = .ref c := hc
  have FX : Fx (fun _ : Unit => (cxOf CX0 P w K mg base N qual (defScope st) f cdv A outer s H E).nox) P w K mg base N (defScope st) (fun _ => true) k :=
    ⟨fun _ => rfl, fun _ => rfl, fun _ => rfl, fun _ => rfl, fun _ => rfl, fun _ => rfl, S.nd, fun _ => rfl, fun _ => rfl, fun _ => hr, fun _ => .never, fun _ _ _ => rfl⟩
  obtain ⟨t, ht, hq⟩ := body _ FX (fun _ => hc') (fun _ => rfl) vs H Q E h
  exact ⟨t, (ht ()).nox, hq⟩
end
end Lay
end

section
set_option Elab.async false
set_option linter.all false
set_option maxRecDepth 100000
set_option maxHeartbeats 2000000
namespace Lay
open PySem PySem.Spec PyProof.Rows L2
section
variable {X : Cx} {C : Addr} {bmB : List Value} {B newId initId : String}
/-- X() -/
theorem pmk_own0 {x : Str} {p pos : Pos} (F : ExcBaseFacts B newId initId bmB) (q : PySem.W.excIn X.K C bmB newId = true) (gC : X.mg x = some (.ref C)) (kC : PySem.W.keepIn X.K (.ref C) = true) (r : Raises X (.ref C)) (hg : Gl X x)
    (hdb : (x == ("__debug__" : Str)) = false := by decide) : PMk X (.Call (.Name x p) [] [] pos) (fun _ H Q => Q (.ref C) none H) := by
  intro pins s σ H Q I h
  refine wpAny_Call_Name_kw (ld_glob I hg gC ?_ hdb)
  refine PySem.W.callWith_K0 I.kIn kC ?_
  show wpAny _ _ (call (.ref C) []) _ _ _
  obtain ⟨bm, N, nm, qn, bs, hdct, sn, sub, ab, col, dd, k0, k1, k2, k3, k5, mN, hC, hN, hni, T⟩ := exc_obj I.kIn q
  refine wpAny_call_exc_subT F T hC hN hni (fun h' e hm => ?_) (Nat.zero_le _)
  exact mk_of I hm r h (I.hok.gone hm.new)
end
/-- a def that may raise -/
structure FnX (P : Program) (w : World) (K : PySem.W.Frag) (mg : Str → Option Value) (base : Heap) (x : Str) (j : Nat) (ps : List Str) (sp : Sp) : Prop where
  ex : ∃ (f : Addr) (fd : FuncData), FnOk P w K mg base (L2.CX P w) j f fd ps sp ∧ mg x = some (.ref f) ∧ PySem.W.keepIn K (.ref f) = true ∧ Binds K fd ps []
section
variable {P : Program} {w : World} {K : PySem.W.Frag} {mg : Str → Option Value} {base : Heap} {N : List Str} {k : Nat}
/-- THE RULE for a def that may raise -/
theorem fn_exc {x qual : Str} {st : Stmt} {f : Addr} {fd : FuncData} {ps : List Str} {sp : Sp} (F : Fun K x qual st f fd) (S : FnScope N ps (defScope st)) (hm : mg x = some (.ref f)) (hb : Binds K fd ps [])
    (len : ∀ vs H Q E, sp vs H Q E → vs.length = ps.length)
    (body : ∀ (X : Unit → Cx), Fx X P w K mg base N (defScope st) (fun _ => true) k → ∀ (vs : List V) (H : Hp) (Q : VK) (E : XK), (∀ i, L2.Takes (X i) (fun cls d _ H => E cls d H)) → sp vs H Q E → Ws X (defBody st) { nx := fun _ H' => Q .non H', rt := Q } (start N vs) H) :
    FnX P w K mg base x (k + 1) ps sp := by
  refine ⟨f, fd, F.okX S len (fun cdv A outer s H vs Q E hr h => ?_), hm, F.kp, hb⟩
  have FX : Fx (fun _ : Unit => cxOf (L2.CX P w) P w K mg base N qual (defScope st) f cdv A outer s H E) P w K mg base N (defScope st) (fun _ => true) k :=
    ⟨fun _ => rfl, fun _ => rfl, fun _ => rfl, fun _ => rfl, fun _ => rfl, fun _ => rfl, S.nd, fun _ => rfl, fun _ => rfl, fun _ => hr, fun _ => passes_of rfl, fun _ _ _ => rfl⟩
  obtain ⟨t, ht, hq⟩ := body _ FX vs H Q E (fun _ => takes_of rfl rfl rfl rfl) h
  exact ⟨t, ht (), hq⟩
/-- raise X() -/
theorem ws_raise0 {ι : Type} {X : ι → Cx} {sc : Scope} {own : Str → Bool} (F : Fx X P w K mg base N sc own k) {x : Str} {C : Addr} {p pos pos' : Pos} {E : XK} {σ : L2.St} {H : Hp} {D : Ends} {rest : List Stmt} (tk : ∀ i, L2.Takes (X i) (fun cls d _ H => E cls d H))
    (q : PySem.W.excIn K C [.type "ValueError", .type "Exception", .type "BaseException", .type "object"] "ValueError.__new__" = true) (gC : mg x = some (.ref C)) (kC : PySem.W.keepIn K (.ref C) = true) (bP : PySem.W.subIn K (.ref C) (.type "BaseException") = some true) (tP : PySem.W.typeIn K (.ref C) = some (.type "type"))
    (h : E (.ref C) none H) (hg : sc.names.lookup x = some .globalImplicit := by rfl) (hdb : (x == ("__debug__" : Str)) = false := by decide) : Ws X (.Raise (some (.Call (.Name x p) [] [] pos)) none pos' :: rest) D σ H := by
  refine ⟨tSeq (fun _ σ H => E (.ref C) none H) (Ws X rest), fun i => pss_cons ?_ (Ws.ps i), h⟩
  exact ps_raise (F.calm i) (tk i) (pmk_own0 PySem.F.excBase_ValueError (by rw [F.hK i]; exact q) (by rw [F.hmg i]; exact gC) (by rw [F.hK i]; exact kC) (raises_own (by rw [F.hK i]; exact bP) (by rw [F.hK i]; exact tP)) (F.gl hg i) hdb)
end
end Lay
namespace Lay
open PySem PySem.Spec PyProof.Rows L2
section
variable {ι : Type} {X : ι → Cx} {P : Program} {w : World} {K : PySem.W.Frag} {mg : Str → Option Value} {base : Heap} {N : List Str} {sc : Scope} {own : Str → Bool} {k : Nat}
variable {e a b c i tg iter : Expr} {es : List Expr} {σ : L2.St} {B B' H H' : Hp} {d d1 d2 d3 : PyData} {ds : List PyData} {pos p px p1 p2 pos' : Pos} {v : V} {D D0 : Ends} {st rest body s1 s2 : List Stmt} {x : Str} {g : Addr}
theorem Ws.weak (h : Ws X st D0 σ H) (h1 : ∀ σ' H', D0.nx σ' H' → D.nx σ' H') (h2 : ∀ v H', D0.rt v H' → D.rt v H') (h3 : ∀ σ' H', D0.bk σ' H' → D.bk σ' H') (h4 : ∀ σ' H', D0.ct σ' H' → D.ct σ' H') : Ws X st D σ H := by
  obtain ⟨t, ht, hq⟩ := h
  refine ⟨fun D σ H => ∃ D0 : Ends, t D0 σ H ∧ (∀ σ' H', D0.nx σ' H' → D.nx σ' H') ∧ (∀ v H', D0.rt v H' → D.rt v H') ∧ (∀ σ' H', D0.bk σ' H' → D.bk σ' H') ∧ (∀ σ' H', D0.ct σ' H' → D.ct σ' H'), fun i => ⟨fun pins s σ H D I ⟨D0, z, h1, h2, h3, h4⟩ => thn ((ht i).run pins s σ H D0 I z) fun f s' q => ?_⟩, D0, hq, h1, h2, h3, h4⟩
  cases f with
  | next => obtain ⟨σ', H', I', q⟩ := q; exact ⟨σ', H', I', h1 _ _ q⟩
  | ret u => obtain ⟨v, σ', H', I', r, q⟩ := q; exact ⟨v, σ', H', I', r, h2 _ _ q⟩
  | brk => obtain ⟨σ', H', I', q⟩ := q; exact ⟨σ', H', I', h3 _ _ q⟩
  | cont => obtain ⟨σ', H', I', q⟩ := q; exact ⟨σ', H', I', h4 _ _ q⟩
/-- for with break: Pf stands behind it -/
theorem ws_forB (F : Fx X P w K mg base N sc own k) (Pf : L2.St → Hp → Prop) (fin : ∀ σ' H', Pf σ' H' → Ws X rest D σ' H') (hI : Wi X tg iter σ H fun J H1 => ∃ (ds : List PyData) (B1 : Hp), Ex B1 H1 ∧ Drives J B1 ds ∧ ∃ Pv : Nat → L2.St → Hp → Prop, Pv 0 σ H1 ∧ (∀ i d σ' H', ds[i]? = some d → Pv i σ' H' → ∃ B', Ex B1 B' ∧ Ex B' H' ∧ ∀ v B'' H'', Nw B' H' B'' H'' → Rp B'' v d →
      Wg X tg v σ' H'' fun σ2 H2 => Ws X body { D with nx := Pv (i + 1), ct := Pv (i + 1), bk := Pf } σ2 H2) ∧ (∀ i σ' H', Pv i σ' H' → Ex B1 H') ∧ ∀ σ' H', Pv ds.length σ' H' → Pf σ' H')
    (hs : ∀ env x, foldedSetIterable iter env x = pure x := by intro _ _; rfl) : Ws X (.For tg iter body [] pos :: rest) D σ H := by
  refine ws_forR F ?_ hs
  obtain ⟨t, ht, hq⟩ := hI
  refine ⟨fun σ H R => ∃ R0, t σ H R0 ∧ ∀ J H', R0 J H' → R J H', fun i => ⟨fun pins s σ H R I ⟨R0, h1, h2⟩ => thn ((ht i).run pins s σ H R0 I h1) fun it s' z => thn z fun it2 s2 z2 => pie_weak z2 h2⟩, _, hq, fun J H1 hJ => ?_⟩
  obtain ⟨ds, B1, x1, dr, Pv, p0, turn, bs, fn⟩ := hJ
  refine ⟨ds, B1, x1, dr, Pv, p0, fun i d σ' H' hd pv => ?_, bs, fun σ' H' pv => fin _ _ (fn _ _ pv)⟩
  obtain ⟨B', y1, y2, h⟩ := turn i d σ' H' hd pv
  exact ⟨B', y1, y2, fun v B'' H'' n r => Wg.weak (h v B'' H'' n r) fun σ2 H2 z => Ws.weak z (fun _ _ z => z) (fun _ _ z => z) (fun σ' H' z => fin _ _ z) (fun _ _ z => z)⟩
theorem wi_list (F : Fx X P w K mg base N sc own k) {R : It → Hp → Prop} (h : We X iter σ H fun v H1 => ∃ a xs, v = .ref a ∧ H1 a = some (.lst xs) ∧ R (Itl K a) H1) : Wi X tg iter σ H R := by
  refine ⟨iList K (We X iter), fun i => ?_, ?_⟩
  · have h := pi_list (X := X i) (tg := tg) (We.pe (X := X) (e := iter) i)
    rw [F.hK i] at h
    exact h
  · exact h.weak fun v H1 ⟨a, xs, e, ha, q⟩ => ⟨a, e, ⟨xs, SqL.of ha⟩, q⟩
end
theorem tabs_put {T : List (Addr × Str)} {H : Hp} {g : Addr} {xs : List V} {o : HO} (h : LamX.Tabs T H) (hg : H g = some (.lst xs)) : LamX.Tabs T (upd H g o) := fun p hp => by
  obtain ⟨ps, h1, h2, h3⟩ := h p hp
  refine ⟨ps, by rw [upd_ne (fun z => by rw [z, hg] at h1; cases h1)]; exact h1, h2, fun pos cv hc => ?_⟩
  obtain ⟨c, e, hco⟩ := h3 pos cv hc
  exact ⟨c, e, by rw [upd_ne (fun z => by rw [z, hg] at hco; unfold LamX.CodeO at hco; cases hco)]; exact hco⟩
theorem extN_put {H H' : Hp} {g : Addr} {o : HO} (e : LamX.ExtN H H') (h : H g = none) : LamX.ExtN H (upd H' g o) := fun a u ha n => by
  rw [upd_ne (ne_of_none ha h)]
  exact e a u ha n
end Lay
namespace Lay
open PySem PySem.Spec PyProof.Rows L2
section
variable {ι : Type} {X : ι → Cx} {P : Program} {w : World} {K : PySem.W.Frag} {mg : Str → Option Value} {base : Heap} {N : List Str} {sc : Scope} {own : Str → Bool} {k : Nat}
variable {e a b i tg iter elt : Expr} {σ : L2.St} {B B' H H' : Hp} {pos p px p1 p2 pos' : Pos} {v : V} {α : Type} {xs : List α} {enc : α → PyData} {ifs : List Expr} {scope : Scope} {vs : List Nat}
/-- a comprehension of pure turns over an iterable that is raw -/
theorem lcS_pure {Q : VK} (c : α → Bool) (f : α → PyData) (hz : xs.length ≤ 100000) (hI : Wi X tg iter σ H fun J H1 => ∃ B1, Ex B1 H1 ∧ Drives J B1 (xs.map enc) ∧
      (∀ x ∈ xs, ∀ B2 H2 v, Ex B1 B2 → Ex B2 H2 → Rp B2 v (enc x) → Turn1 (Blk X scope) tg ifs elt σ vs B2 H2 v (c x) (f x)) ∧ ∀ v B' H', Nw B1 H1 B' H' → Rp B' v (.list ((xs.filter c).map f)) → Q v H') : ∃ ds, LcS X scope tg iter elt ifs vs σ H Q ds := by
  refine ⟨xs.map enc, ?_⟩
  obtain ⟨t, ht, hq⟩ := hI
  refine ⟨fun σ H R => ∃ R0, t σ H R0 ∧ ∀ J H', R0 J H' → R J H', fun i => ⟨fun pins s σ H R I ⟨R0, h1, h2⟩ => thn ((ht i).run pins s σ H R0 I h1) fun it s' z => thn z fun it2 s2 z2 => pie_weak z2 h2⟩, _, hq, fun J H1 hJ => ?_⟩
  obtain ⟨B1, x1, dr, turn, q⟩ := hJ
  refine ⟨B1, x1, dr, fun Da hD => ?_⟩
  have lx : (xs.map enc).length = xs.length := List.length_map _
  have bD1 : B1 Da = none := x1.free hD
  refine ⟨fun i H' => i ≤ xs.length ∧ ∃ Bi acc, Nw B1 H1 Bi H' ∧ Bi Da = none ∧ H' Da = some (.lst acc) ∧ acc.length ≤ i ∧ RpAll Bi acc (((xs.take i).filter c).map f),
    ⟨Nat.zero_le _, B1, [], ⟨Ex.refl _, x1.trans (Ex.new hD), Ex.new hD, fun _ _ => rfl⟩, bD1, upd_same, Nat.le_refl _, .nil⟩, fun i d H' hd ⟨hi, Bi, acc, n2, bD, hD', hl, ra⟩ => ⟨Bi, n2.bb, n2.bh, fun v B2 H2 n3 rv => ?_⟩, fun i H' ⟨_, Bi, _, n2, _⟩ => n2.bb.trans n2.bh, fun H' ⟨hi, Bi, acc, n2, bD, hD', hl, ra⟩ => ?_⟩
  · have hlt : i < xs.length := by
      have := (List.getElem?_eq_some_iff.mp hd).1
      rwa [lx] at this
    have hx : (xs.map enc)[i]? = some (enc xs[i]) := by rw [List.getElem?_map, List.getElem?_eq_getElem hlt]; rfl
    rw [hx] at hd
    cases hd
    have cD := n3.cell hD' bD
    have eB : Ex B1 B2 := n2.bb.trans n3.bb
    have tk : (xs.take (i + 1)).filter c = (xs.take i).filter c ++ (if c xs[i] = true then [xs[i]] else []) := by
      rw [List.take_succ, List.getElem?_eq_getElem hlt, List.filter_append]
      show _ ++ List.filter c [xs[i]] = _
      rw [List.filter_cons]
      rfl
    refine Wg.weak (turn xs[i] (List.getElem_mem hlt) B2 H2 v eB n3.bh rv) fun σ2 H3 ⟨e3, wp, ht, hv⟩ => ⟨wp, ?_⟩
    subst e3
    refine ht H3 n3.bh _ fun H4 e4 => ?_
    cases hc : c xs[i] with
    | false =>
      rw [if_neg Bool.false_ne_true]
      refine ⟨hlt, B2, acc, ⟨n2.bb.trans n3.bb, n3.bh.trans e4, (n2.hh.trans n3.hh).trans e4, fun a ha => ?_⟩, cD.2, e4 _ _ cD.1, Nat.le_succ_of_le hl, ?_⟩
      · have h1 : H' a ≠ none := fun z => ha (n2.hh.free z)
        rw [n3.old a h1, n2.old a ha]
      · rw [tk, hc, if_neg Bool.false_ne_true, List.append_nil]
        exact ra.up n3.bb
    | true =>
      rw [if_pos rfl]
      refine hv hc H4 (n3.bh.trans e4) _ fun y B4 H5 n4 ry => ?_
      have cD4 := n4.cell (e4 _ _ cD.1) cD.2
      refine ⟨acc, cD4.1, Nat.lt_of_le_of_lt (Nat.le_trans hl (Nat.le_of_lt (Nat.lt_of_lt_of_le hlt hz))) (by decide), hlt, B4, acc ++ [y], ⟨(n2.bb.trans n3.bb).trans n4.bb, n4.bh.mut cD4.2, (((n2.hh.trans n3.hh).trans e4).trans n4.hh).mut hD, fun a ha => ?_⟩, cD4.2, upd_same, ?_, ?_⟩
      · have h1 : H' a ≠ none := fun z => ha (n2.hh.free z)
        have h2 : H3 a ≠ none := fun z => h1 (n3.hh.free z)
        have h3 : H4 a ≠ none := fun z => h2 (e4.free z)
        rw [n4.old a h3, n3.old a h1, n2.old a ha]
      · rw [List.length_append]
        show acc.length + 1 ≤ i + 1
        omega
      · rw [tk, hc, if_pos rfl, List.map_append]
        exact ((ra.up n3.bb).up n4.bb).append (.cons ry .nil)
  · rw [lx, List.take_length] at ra
    exact q _ (upd Bi Da (.lst acc)) H' (n2.adopt hD bD hD') (.lst upd_same (ra.up (Ex.new bD)))
end
end Lay
namespace Lay
open PySem PySem.Spec PyProof.Rows L2
section
variable {ι : Type} {X : ι → Cx} {P : Program} {w : World} {K : PySem.W.Frag} {mg : Str → Option Value} {base : Heap} {N : List Str} {sc : Scope} {own : Str → Bool} {k : Nat}
variable {tg iter elt : Expr} {σ : L2.St} {H : Hp} {pos : Pos} {α : Type} {xs : List α} {enc : α → PyData} {ifs : List Expr} {scope : Scope}
theorem we_lcP (F : Fx X P w K mg base N sc own k) {Q : VK} (ow : List (Str × Nat)) (c : α → Bool) (f : α → PyData) (hz : xs.length ≤ 100000) (hI : Wi X tg iter σ H fun J H1 => ∃ B1, Ex B1 H1 ∧ Drives J B1 (xs.map enc) ∧
      (∀ x ∈ xs, ∀ B2 H2 v, Ex B1 B2 → Ex B2 H2 → Rp B2 v (enc x) → Turn1 (Blk X scope) tg ifs elt σ (ow.map (·.2)) B2 H2 v (c x) (f x)) ∧ ∀ v B' H', Nw B1 H1 B' H' → Rp B' v (.list ((xs.filter c).map f)) → Q v H') (ok : blkC N sc scope ow = true := by decide +kernel) (hs : ∀ env x, foldedSetIterable iter env x = pure x := by intro _ _; rfl) :
    We X (.ListComp elt [⟨tg, iter, ifs, 0⟩] scope pos) σ H Q := by
  obtain ⟨ds, h⟩ := lcS_pure (Q := Q) (X := X) (scope := scope) (elt := elt) (ifs := ifs) (vs := ow.map (·.2)) c f hz hI
  exact we_lcS F ow h ok hs
end
end Lay
end

section
set_option Elab.async false
set_option linter.all false
set_option maxRecDepth 100000
namespace Mr
open PySem L2 Lay
/-! ### the text by places -/
def topS (i : Nat) : Stmt := PySem.Challenge.pw_manrods_k68_whole_platforms_that_lose_mo.main.body.getD i (.Pass ⟨0, 0, 0, 0⟩)
abbrev s_tuple_of : Stmt := topS 3
abbrev N_tuple_of : List Str := ["thing", "part"]
theorem sc_tuple_of : FnScope N_tuple_of ["thing"] (defScope s_tuple_of) := ⟨rfl, rfl, rfl, by decide +kernel, rfl, by decide +kernel, by decide +kernel⟩
abbrev s_greatest_slot : Stmt := topS 5
abbrev N_greatest_slot : List Str := ["lasts", "bars", "level", "end", "colour", "roofs", "top", "p", "stride", "its", "since"]
theorem sc_greatest_slot : FnScope N_greatest_slot ["lasts", "bars", "level", "end", "colour"] (defScope s_greatest_slot) := ⟨rfl, rfl, rfl, by decide +kernel, rfl, by decide +kernel, by decide +kernel⟩
abbrev s_leads : Stmt := topS 6
abbrev N_leads : List Str := ["lasts", "bars", "level", "end", "slot", "top"]
theorem sc_leads : FnScope N_leads ["lasts", "bars", "level", "end", "slot"] (defScope s_leads) := ⟨rfl, rfl, rfl, by decide +kernel, rfl, by decide +kernel, by decide +kernel⟩
abbrev s_slot_from : Stmt := topS 7
abbrev N_slot_from : List Str := ["lasts", "bars", "level", "end", "first", "least", "slot"]
theorem sc_slot_from : FnScope N_slot_from ["lasts", "bars", "level", "end", "first"] (defScope s_slot_from) := ⟨rfl, rfl, rfl, by decide +kernel, rfl, by decide +kernel, by decide +kernel⟩
abbrev s_wanted_slots : Stmt := topS 8
abbrev N_wanted_slots : List Str := ["lasts", "bars", "muster", "men", "at", "man"]
theorem sc_wanted_slots : FnScope N_wanted_slots ["lasts", "bars", "muster", "men", "at"] (defScope s_wanted_slots) := ⟨rfl, rfl, rfl, by decide +kernel, rfl, by decide +kernel, by decide +kernel⟩
abbrev s_rescue : Stmt := topS 9
abbrev N_rescue : List Str := ["lasts", "bars", "muster", "own", "given", "at", "left", "wanted", "deepest", "chosen", "man", "slot"]
theorem sc_rescue : FnScope N_rescue ["lasts", "bars", "muster"] (defScope s_rescue) := ⟨rfl, rfl, rfl, by decide +kernel, rfl, by decide +kernel, by decide +kernel⟩
abbrev s_most_saved : Stmt := topS 10
abbrev N_most_saved : List Str := ["lasts", "bars", "muster", "slot"]
theorem sc_most_saved : FnScope N_most_saved ["lasts", "bars", "muster"] (defScope s_most_saved) := ⟨rfl, rfl, rfl, by decide +kernel, rfl, by decide +kernel, by decide +kernel⟩
abbrev s_all_saved : Stmt := topS 11
abbrev N_all_saved : List Str := ["lasts", "bars", "muster"]
theorem sc_all_saved : FnScope N_all_saved ["lasts", "bars", "muster"] (defScope s_all_saved) := ⟨rfl, rfl, rfl, by decide +kernel, rfl, by decide +kernel, by decide +kernel⟩
abbrev s_stride_of : Stmt := topS 13
abbrev N_stride_of : List Str := ["platform"]
theorem sc_stride_of : FnScope N_stride_of ["platform"] (defScope s_stride_of) := ⟨rfl, rfl, rfl, by decide +kernel, rfl, by decide +kernel, by decide +kernel⟩
abbrev s_bars_of : Stmt := topS 15
abbrev N_bars_of : List Str := ["breaks", "found", "platform", "since"]
theorem sc_bars_of : FnScope N_bars_of ["breaks"] (defScope s_bars_of) := ⟨rfl, rfl, rfl, by decide +kernel, rfl, by decide +kernel, by decide +kernel⟩
abbrev s_worst_platforms : Stmt := topS 16
abbrev N_worst_platforms : List Str := ["lasts", "breaks", "muster", "since", "own", "deep", "most", "found", "platform", "broken", "fewer", "_", "level"]
theorem sc_worst_platforms : FnScope N_worst_platforms ["lasts", "breaks", "muster", "since"] (defScope s_worst_platforms) := ⟨rfl, rfl, rfl, by decide +kernel, rfl, by decide +kernel, by decide +kernel⟩
abbrev s_parts_of : Stmt := topS 17
abbrev N_parts_of : List Str := ["breaks", "found", "one", "part"]
theorem sc_parts_of : FnScope N_parts_of ["breaks"] (defScope s_parts_of) := ⟨rfl, rfl, rfl, by decide +kernel, rfl, by decide +kernel, by decide +kernel⟩
abbrev s_least_mends : Stmt := topS 18
abbrev N_least_mends : List Str := ["lasts", "breaks", "muster", "own", "found", "part", "left", "one"]
theorem sc_least_mends : FnScope N_least_mends ["lasts", "breaks", "muster"] (defScope s_least_mends) := ⟨rfl, rfl, rfl, by decide +kernel, rfl, by decide +kernel, by decide +kernel⟩
abbrev s__law_box : Stmt := topS 20
abbrev N__law_box : List Str := ["_law_script", "_law_k", "_law_cell"]
theorem sc__law_box : FnScope N__law_box ["_law_script", "_law_k"] (defScope s__law_box) := ⟨rfl, rfl, rfl, by decide +kernel, rfl, by decide +kernel, by decide +kernel⟩
abbrev s__law_take : Stmt := topS 21
abbrev N__law_take : List Str := ["_law_urn", "_law_low_so", "_law_drawn", "_law_once", "_law_far", "_law_twice"]
theorem sc__law_take : FnScope N__law_take ["_law_urn", "_law_low_so"] (defScope s__law_take) := ⟨rfl, rfl, rfl, by decide +kernel, rfl, by decide +kernel, by decide +kernel⟩
abbrev s__law_cells : Stmt := topS 22
abbrev N__law_cells : List Str := ["_law_script", "_law_top", "_law_cells_here", "_law_k", "_law_cell", "_law_at_so"]
theorem sc__law_cells : FnScope N__law_cells ["_law_script", "_law_top"] (defScope s__law_cells) := ⟨rfl, rfl, rfl, by decide +kernel, rfl, by decide +kernel, by decide +kernel⟩
abbrev s__law_same : Stmt := topS 23
abbrev N__law_same : List Str := ["_law_got", "_law_goal", "_law_mine_so", "_law_own"]
theorem sc__law_same : FnScope N__law_same ["_law_got", "_law_goal"] (defScope s__law_same) := ⟨rfl, rfl, rfl, by decide +kernel, rfl, by decide +kernel, by decide +kernel⟩
abbrev s__law_lists : Stmt := topS 24
abbrev N__law_lists : List Str := ["_law_matter", "_law_own"]
theorem sc__law_lists : FnScope N__law_lists ["_law_matter"] (defScope s__law_lists) := ⟨rfl, rfl, rfl, by decide +kernel, rfl, by decide +kernel, by decide +kernel⟩
abbrev s__law_of : Stmt := topS 25
abbrev N__law_of : List Str := ["_law_urn", "_law_goods_so"]
theorem sc__law_of : FnScope N__law_of ["_law_urn", "_law_goods_so"] (defScope s__law_of) := ⟨rfl, rfl, rfl, by decide +kernel, rfl, by decide +kernel, by decide +kernel⟩
abbrev s__law_roofs : Stmt := topS 26
abbrev N__law_roofs : List Str := ["_law_urn", "_law_deep", "_law_found", "_law_whole_so", "_law_k", "_law_own"]
theorem sc__law_roofs : FnScope N__law_roofs ["_law_urn", "_law_deep"] (defScope s__law_roofs) := ⟨rfl, rfl, rfl, by decide +kernel, rfl, by decide +kernel, by decide +kernel⟩
abbrev s__law_muster : Stmt := topS 27
abbrev N__law_muster : List Str := ["_law_urn", "_law_deep", "_law_most_here", "_law_many", "_law_k"]
theorem sc__law_muster : FnScope N__law_muster ["_law_urn", "_law_deep", "_law_most_here"] (defScope s__law_muster) := ⟨rfl, rfl, rfl, by decide +kernel, rfl, by decide +kernel, by decide +kernel⟩
abbrev s__law_tries : Stmt := topS 28
abbrev N__law_tries : List Str := ["_law_man", "_law_goods_so", "_law_held_so", "_law_seen_so", "_law_slot"]
theorem sc__law_tries : FnScope N__law_tries ["_law_man", "_law_goods_so", "_law_held_so", "_law_seen_so"] (defScope s__law_tries) := ⟨rfl, rfl, rfl, by decide +kernel, rfl, by decide +kernel, by decide +kernel⟩
abbrev s__law_most : Stmt := topS 29
abbrev N__law_most : List Str := ["_law_goods_so", "_law_held_so", "_law_man"]
theorem sc__law_most : FnScope N__law_most ["_law_goods_so"] (defScope s__law_most) := ⟨rfl, rfl, rfl, by decide +kernel, rfl, by decide +kernel, by decide +kernel⟩
abbrev s__law_spots : Stmt := topS 30
abbrev N__law_spots : List Str := ["_law_deep", "_law_made", "_law_found", "_law_level"]
theorem sc__law_spots : FnScope N__law_spots ["_law_deep", "_law_made"] (defScope s__law_spots) := ⟨rfl, rfl, rfl, by decide +kernel, rfl, by decide +kernel, by decide +kernel⟩
abbrev s__law_needs : Stmt := topS 31
abbrev N__law_needs : List Str := ["_law_deep", "_law_level", "_law_made", "_law_rises", "_law_rod", "_law_lag"]
theorem sc__law_needs : FnScope N__law_needs ["_law_deep", "_law_level", "_law_made", "_law_rises"] (defScope s__law_needs) := ⟨rfl, rfl, rfl, by decide +kernel, rfl, by decide +kernel, by decide +kernel⟩
abbrev s__law_walked : Stmt := topS 32
abbrev N__law_walked : List Str := ["_law_deep", "_law_breaks_here", "_law_ride", "_law_board", "_law_level", "_law_made", "_law_rises", "_law_lap", "_law_own", "_law_begins", "_law_spot", "_law_since"]
theorem sc__law_walked : FnScope N__law_walked ["_law_deep", "_law_breaks_here", "_law_ride", "_law_board"] (defScope s__law_walked) := ⟨rfl, rfl, rfl, by decide +kernel, rfl, by decide +kernel, by decide +kernel⟩
abbrev s__law_breaks : Stmt := topS 33
abbrev N__law_breaks : List Str := ["_law_urn", "_law_deep", "_law_most_here", "_law_found", "_law_lap", "_law_rod"]
theorem sc__law_breaks : FnScope N__law_breaks ["_law_urn", "_law_deep", "_law_most_here"] (defScope s__law_breaks) := ⟨rfl, rfl, rfl, by decide +kernel, rfl, by decide +kernel, by decide +kernel⟩
abbrev s__law_heard : Stmt := topS 34
abbrev N__law_heard : List Str := ["_law_lasts", "_law_breaks_here", "_law_muster_here", "error"]
theorem sc__law_heard : FnScope N__law_heard ["_law_lasts", "_law_breaks_here", "_law_muster_here"] (defScope s__law_heard) := ⟨rfl, rfl, rfl, by decide +kernel, rfl, by decide +kernel, by decide +kernel⟩
abbrev s__law_by_hand_right : Stmt := topS 35
abbrev N__law_by_hand_right : List Str := ["_law_heard_here", "_law_due"]
theorem sc__law_by_hand_right : FnScope N__law_by_hand_right [] (defScope s__law_by_hand_right) := ⟨rfl, rfl, rfl, by decide +kernel, rfl, by decide +kernel, by decide +kernel⟩
abbrev s__law_saved : Stmt := topS 36
abbrev N__law_saved : List Str := ["_law_lasts", "_law_breaks_here", "_law_muster_here", "_law_goods", "_law_deep", "_law_level", "_law_ready", "_law_found", "_law_board", "_law_dry", "_law_spot"]
theorem sc__law_saved : FnScope N__law_saved ["_law_lasts", "_law_breaks_here", "_law_muster_here"] (defScope s__law_saved) := ⟨rfl, rfl, rfl, by decide +kernel, rfl, by decide +kernel, by decide +kernel⟩
abbrev s__law_parts : Stmt := topS 37
abbrev N__law_parts : List Str := ["_law_breaks_here", "_law_found", "_law_own", "_law_its"]
theorem sc__law_parts : FnScope N__law_parts ["_law_breaks_here"] (defScope s__law_parts) := ⟨rfl, rfl, rfl, by decide +kernel, rfl, by decide +kernel, by decide +kernel⟩
abbrev s__law_right : Stmt := topS 38
abbrev N__law_right : List Str := ["_law_urn", "_law_deep", "_law_lasts", "_law_breaks_here", "_law_muster_here", "_law_since", "_law_most_here", "_law_fewer", "_law_own", "_law_less", "_law_due", "_law_soft", "_law_parts_here", "_law_its"]
theorem sc__law_right : FnScope N__law_right ["_law_urn"] (defScope s__law_right) := ⟨rfl, rfl, rfl, by decide +kernel, rfl, by decide +kernel, by decide +kernel⟩
abbrev s_law : Stmt := topS 39
abbrev N_law : List Str := ["_law_script", "_law_cells_so", "_law_k"]
theorem sc_law : FnScope N_law ["_law_script"] (defScope s_law) := ⟨rfl, rfl, rfl, by decide +kernel, rfl, by decide +kernel, by decide +kernel⟩
end Mr
end

section
set_option Elab.async false
set_option linter.all false
set_option maxRecDepth 100000
namespace Mr
open PySem L2 Lay Mn
/-! ### the data of the program's values -/
def eO : Option Int → PyData | none => .none | some i => .int i
def eBar (b : Bar) : PyData := .tuple [.int b.1, .int b.2.1, .int b.2.2]
def ePl (p : Plat) : PyData := .tuple [.int p.1, .int p.2]
def eBrk (b : Brk) : PyData := .tuple [ePl b.1, .int b.2]
def eMan (m : Man) : PyData := .tuple [.int m.1, .int m.2]
def eNat (n : Nat) : PyData := .int (n : Int)
/-! ### data that may be compared -/
def Fl (n : Nat) (d : PyData) : Prop := d.canLay0 = true ∧ d.depth ≤ n
theorem Fl.flat {n : Nat} {d : PyData} (h : Fl n d) (hn : n ≤ 64 := by decide) : Flat d := by
  unfold Flat SeqAt.shaped
  rw [h.1, Bool.true_and, decide_eq_true_eq]
  exact Nat.le_trans h.2 hn
theorem Fl.mono {n m : Nat} {d : PyData} (h : Fl n d) (hn : n ≤ m) : Fl m d := ⟨h.1, Nat.le_trans h.2 hn⟩
theorem fl_int (n : Nat) (i : Int) : Fl n (.int i) := ⟨by simp [PyData.canLay0], by simp [PyData.depth]⟩
theorem fl_non (n : Nat) : Fl n .none := ⟨by simp [PyData.canLay0], by simp [PyData.depth]⟩
theorem fl_bool (n : Nat) (b : Bool) : Fl n (.bool b) := ⟨by simp [PyData.canLay0], by simp [PyData.depth]⟩
theorem fl_all {n : Nat} : ∀ {ds : List PyData}, (∀ d ∈ ds, Fl n d) → PyData.canLayAll0 ds = true ∧ PyData.depthAll ds ≤ n
  | [], _ => ⟨by simp [PyData.canLayAll0], by simp [PyData.depthAll]⟩
  | d :: ds, h => by
    have h1 := h d List.mem_cons_self
    have h2 := fl_all fun x hx => h x (List.mem_cons_of_mem _ hx)
    refine ⟨by simp [PyData.canLayAll0, h1.1, h2.1], ?_⟩
    have a := h1.2
    have b := h2.2
    simp only [PyData.depthAll]
    omega
theorem fl_list {n : Nat} {ds : List PyData} (h : ∀ d ∈ ds, Fl n d) : Fl (n + 1) (.list ds) := by
  have h1 := fl_all h
  exact ⟨by simp [PyData.canLay0, h1.1], by simp only [PyData.depth]; omega⟩
theorem fl_tup {n : Nat} {ds : List PyData} (h : ∀ d ∈ ds, Fl n d) : Fl (n + 1) (.tuple ds) := by
  have h1 := fl_all h
  exact ⟨by simp [PyData.canLay0, h1.1], by simp only [PyData.depth]; omega⟩
theorem fl_map {α : Type} {n : Nat} {xs : List α} {f : α → PyData} (h : ∀ x, Fl n (f x)) : ∀ d ∈ xs.map f, Fl n d := fun d hd => by
  obtain ⟨x, _, rfl⟩ := List.mem_map.mp hd
  exact h x
theorem fl_O (n : Nat) (o : Option Int) : Fl n (eO o) := by cases o <;> first | exact fl_non n | exact fl_int n _
theorem fl_two {n : Nat} {a b : PyData} (ha : Fl n a) (hb : Fl n b) : Fl (n + 1) (.tuple [a, b]) := fl_tup fun d hd => by
  rcases List.mem_cons.mp hd with z | z
  · rw [z]; exact ha
  · rw [List.mem_singleton.mp z]; exact hb
theorem fl_Pl (p : Plat) : Fl 1 (ePl p) := fl_two (fl_int _ _) (fl_int _ _)
theorem fl_Brk (b : Brk) : Fl 2 (eBrk b) := fl_two (fl_Pl _) (fl_int _ _)
theorem eqv_nilL (ds : List PyData) : PyData.eqv (.list ds) (.list []) = ds.isEmpty := by
  cases ds <;> simp [PyData.eqv, PyData.eqvAll]
theorem isNone_O (o : Option Int) : isNone (eO o) = !o.isSome := by cases o <;> rfl
theorem items_list (ds : List PyData) : items (.list ds) = some ds := rfl
theorem items_tup (ds : List PyData) : items (.tuple ds) = some ds := rfl
/-- a list's item -/
theorem get_map {α : Type} {xs : List α} {f : α → PyData} {i : Nat} (dflt : α) (h : i < xs.length) : (xs.map f)[i]? = some (f (xs.getD i dflt)) := by
  rw [List.getElem?_map, List.getElem?_eq_getElem h, List.getD_eq_getElem?_getD, List.getElem?_eq_getElem h]
  rfl
end Mr
end

section
set_option Elab.async false
set_option linter.all false
set_option maxRecDepth 100000
set_option maxHeartbeats 1000000
namespace Mr
open PySem L2 Lay Mn
/-- a def of the text as it stands behind the top -/
def Df (K : PySem.W.Frag) (mg : Str → Option Value) (x : Str) (st : Stmt) (ps : List Str) : Prop := ∃ (f : Addr) (fd : FuncData), Fun K x x st f fd ∧ mg x = some (.ref f) ∧ Binds K fd ps []
theorem RpAll.one' {B : Hp} {vs : List V} {d : PyData} (h : RpAll B vs [d]) : ∃ v, vs = [v] ∧ Rp B v d := by
  cases h with
  | cons h1 h2 => cases h2; exact ⟨_, rfl, h1⟩
theorem RpAll.five {B : Hp} {vs : List V} {a b c d e : PyData} (h : RpAll B vs [a, b, c, d, e]) : ∃ v1 v2 v3 v4 v5, vs = [v1, v2, v3, v4, v5] ∧ Rp B v1 a ∧ Rp B v2 b ∧ Rp B v3 c ∧ Rp B v4 d ∧ Rp B v5 e := by
  cases h with
  | cons h1 h2 =>
    cases h2 with
    | cons h3 h4 =>
      obtain ⟨_, _, _, rfl, a, b, c⟩ := h4.three
      exact ⟨_, _, _, _, _, rfl, h1, h3, a, b, c⟩
theorem RpAll.four {B : Hp} {vs : List V} {a b c d : PyData} (h : RpAll B vs [a, b, c, d]) : ∃ v1 v2 v3 v4, vs = [v1, v2, v3, v4] ∧ Rp B v1 a ∧ Rp B v2 b ∧ Rp B v3 c ∧ Rp B v4 d := by
  cases h with
  | cons h1 h2 =>
    obtain ⟨_, _, _, rfl, a, b, c⟩ := h2.three
    exact ⟨_, _, _, _, rfl, h1, a, b, c⟩
theorem sz5 {n : Nat} (h : n ≤ 100000) : n ≤ sizeLine := by rw [sizeLine_eq]; omega
section
variable {P : Program} {w : World} {K : PySem.W.Frag} {mg : Str → Option Value} {base : Heap}
def rStride : List PyData → PyData → Prop := fun ds d => ∃ p : Plat, ds = [ePl p] ∧ d = .int (p.2 - p.1)
theorem fn_stride (k : Nat) (F : Df K mg "stride_of" s_stride_of ["platform"]) : Fn P w K mg base "stride_of" (k + 1) ["platform"] (spD rStride) := by
  obtain ⟨f, fd, F, hm, hb⟩ := F
  refine fn_data F sc_stride_of hm hb (fun ds d h => ?_) (fun X C vs ds d B H D eB ra hR q _ => ?_)
  · obtain ⟨p, rfl, _⟩ := h
    rfl
  · obtain ⟨p, rfl, rfl⟩ := hR
    obtain ⟨v, rfl, rv⟩ := RpAll.one' ra
    exact ws_ret (ev_bin o_sub (ev_ix (j := 1) (C.nm 0 rfl rv) ev_int rfl rfl rfl) (ev_ix (j := 0) (C.nm 0 rfl rv) ev_int rfl rfl rfl)) eB q

/-- greatest_slot at end 0 -/
def rGreatest : List PyData → PyData → Prop := fun ds d => ∃ (ld : PyData) (lasts : Lasts) (bars : List Bar) (level colour : Int), ds = [ld, .tuple (bars.map eBar), .int level, .int 0, .int colour] ∧
  items ld = some (lasts.map eO) ∧ 0 ≤ level ∧ level ≤ lasts.length ∧ lasts.length ≤ 1000 ∧ bars.length ≤ 1000 ∧ d = eO (gSlot lasts bars level colour)
theorem fn_greatest (k : Nat) (F : Df K mg "greatest_slot" s_greatest_slot ["lasts", "bars", "level", "end", "colour"]) (mr : mg "range" = none) (mm : mg "min" = none) :
    Fn P w K mg base "greatest_slot" (k + 1) ["lasts", "bars", "level", "end", "colour"] (spD rGreatest) := by
  obtain ⟨f, fd, F, hm, hb⟩ := F
  refine fn_data F sc_greatest_slot hm hb (fun ds d h => ?_) (fun X C vs ds d B H D eB ra hR q _ => ?_)
  · obtain ⟨_, _, _, _, _, rfl, _⟩ := h
    rfl
  · obtain ⟨ld, lasts, bars, level, colour, rfl, hl, l0, l1, l2, l3, rfl⟩ := hR
    obtain ⟨v1, v2, v3, v4, v5, rfl, r1, r2, r3, r4, r5⟩ := RpAll.five ra
    cases r3; cases r4; cases r5
    -- roofs = [lasts[p - 1] + p for p in range(end + 1, level + 1) if lasts[p - 1] is not None]
    refine ws_setLc C 5 (xs := List.range (level + 1 - (0 + 1)).toNat) (enc := fun i => .int ((0 + 1) + (i : Int))) [("p", 7)]
      (ei_range2 C (ev_bin o_add (C.nm 3 rfl (.int 0)) ev_int) (ev_bin o_add (C.nm 2 rfl (.int level)) ev_int) mr (by omega) (by omega))
      (fun i => (lasts.getD i none).isSome) (fun i => .int ((lasts.getD i none).getD 0 + ((0 + 1) + (i : Int)))) (by rw [List.length_range]; omega)
      (fun i hi B1 H1 v e1 e2 rv => ?_) eB fun v B1 H1 n1 r5 => ?_
    · cases rv
      rw [List.mem_range] at hi
      have hget : (lasts.map eO)[i]? = some (eO (lasts.getD i none)) := get_map none (by omega)
      have hO : (lasts.getD i none).isSome = true → eO (lasts.getD i none) = .int ((lasts.getD i none).getD 0) := fun h => by
        cases e : lasts.getD i none with
        | none => rw [e] at h; cases h
        | some z => rfl
      have C' := C.blk
      refine turn_name (C' _) 7 (by decide) (es_one ((et_cmp o_notN (ev_ix (j := i) ((C' _).nm 0 rfl (r1.up e1)) (ev_bin o_sub ((C' _).nm 7 rfl (.int _)) ev_int) (by omega) hl hget) ev_non).is ?_))
        fun h => ev_bin o_add ((ev_ix (j := i) ((C' _).nm 0 rfl (r1.up e1)) (ev_bin o_sub ((C' _).nm 7 rfl (.int _)) ev_int) (by omega) hl hget).is (hO h)) ((C' _).nm 7 rfl (.int _))
      rw [isNone_O, Bool.not_not]
    · have eR : ((List.range (level + 1 - (0 + 1)).toNat).filter fun i => (lasts.getD i none).isSome).map (fun i => PyData.int ((lasts.getD i none).getD 0 + ((0 + 1) + (i : Int)))) = (roofs1 lasts level).map PyData.int := by
        unfold roofs1
        rw [List.map_map, show level + 1 - (0 + 1) = level by omega]
        refine List.map_congr_left fun i _ => ?_
        simp only [Function.comp, Int.zero_add]
      rw [eR] at r5
      have len1 : (roofs1 lasts level).length ≤ 1000 := by
        unfold roofs1
        rw [List.length_map]
        exact Nat.le_trans (List.length_filter_le _ _) (by rw [List.length_range]; omega)
      have len2 : ((bars.filter fun b => (decide (0 ≤ b.1) && decide (b.1 < level)) && decide (b.2.1 = colour)).map fun b => PyData.int (b.2.2 + b.1)).length ≤ 1000 := by
        rw [List.length_map]
        exact Nat.le_trans (List.length_filter_le _ _) l3
      -- roofs = roofs + [since + stride for stride, its, since in bars if end <= stride < level and its == colour]
      have e1 := n1.bb
      refine ws_set C 5 (ev_bin (o_catL ?_) (C.nm 5 rfl r5) (ev_lc C (xs := bars) (enc := eBar) [("stride", 8), ("its", 9), ("since", 10)] (ei_tup C (C.nm 1 rfl (r2.up e1)))
        (fun b => (decide (0 ≤ b.1) && decide (b.1 < level)) && decide (b.2.1 = colour)) (fun b => .int (b.2.2 + b.1)) (by omega) fun b hb' B2 H2 v2 e2 e3 rv => ?_)) n1.bh fun v B2 H2 n2 r6 => ?_
      · rw [List.length_map]
        exact sz5 (by omega)
      · refine turn_three (C.blk _) 8 9 10 rv e3 (by decide) (by decide) (by decide) fun y1 y2 y3 ry1 ry2 ry3 => ⟨es_one (et_and2 (et_chain o_le o_lt ((C.blk _).nm 3 rfl (.int 0)) ((C.blk _).nm 8 rfl ry1) ((C.blk _).nm 2 rfl (.int level)))
          fun _ => et_cmp o_eqI ((C.blk _).nm 9 rfl ry2) ((C.blk _).nm 4 rfl (.int colour))), fun _ => ev_bin o_add ((C.blk _).nm 10 rfl ry3) ((C.blk _).nm 8 rfl ry1)⟩
      · have eR2 : (roofs1 lasts level).map PyData.int ++ ((bars.filter fun b => (decide (0 ≤ b.1) && decide (b.1 < level)) && decide (b.2.1 = colour)).map fun b => PyData.int (b.2.2 + b.1)) = (roofs lasts bars level colour).map PyData.int := by
          unfold roofs roofs2
          rw [List.map_append, List.map_map]
          rfl
        rw [eR2] at r6
        -- if roofs == []: return None
        have fl : Flat (.list ((roofs lasts bars level colour).map PyData.int)) := (fl_list (n := 0) (fl_map fun x => fl_int 0 x)).flat
        refine ws_ifN (et_cmp (o_eqD C fl (fl_list (n := 0) (by simp)).flat) (C.nm 5 rfl r6) (ev_lst ea_nil)) n2.bh (fun hy H3 x3 => ?_) (fun hy H3 x3 => ?_)
        · rw [eqv_nilL, List.isEmpty_iff, List.map_eq_nil_iff] at hy
          have eg : gSlot lasts bars level colour = none := by unfold gSlot; rw [hy]; rfl
          rw [eg] at q
          exact ws_ret ev_non (n2.bh.trans x3) fun v B' H' n r => q v B' H' (((n1.trans n2).trans (Nw.grow n2.bh x3)).trans n) r
        · rw [eqv_nilL, List.isEmpty_eq_false_iff, ne_eq, List.map_eq_nil_iff] at hy
          -- top = min(roofs); top = top - (top - colour) % 2
          obtain ⟨t, ht⟩ : ∃ t, (roofs lasts bars level colour).min? = some t := by
            cases e : (roofs lasts bars level colour).min? with
            | none => exact absurd (List.min?_eq_none_iff.mp e) hy
            | some t => exact ⟨t, rfl⟩
          have hmin := List.min?_eq_some_iff.mp ht
          have eg : gSlot lasts bars level colour = some (if t - (t - colour) % 2 ≥ level then t - (t - colour) % 2 else -1) := by unfold gSlot; rw [ht]
          rw [eg] at q
          have n3 := (n1.trans n2).trans (Nw.grow n2.bh x3)
          refine ws_set C 6 (ev_callB C (c_min C hmin.1 hmin.2) (ea_cons (C.nm 5 rfl r6) ea_nil) mm) n3.bh fun v B4 H4 n4 r7 => ?_
          refine ws_set C 6 (ev_bin o_sub (C.nm 6 rfl r7) (ev_bin (o_mod (by decide)) (ev_bin o_sub (C.nm 6 rfl r7) (C.nm 4 rfl (.int colour))) ev_int)) n4.bh fun v B5 H5 n5 r8 => ?_
          refine ws_ret (d := .int (if t - (t - colour) % 2 ≥ level then t - (t - colour) % 2 else -1)) (ev_if (et_cmp o_ge (C.nm 6 rfl r8) (C.nm 2 rfl (.int level))) (fun h => (C.nm 6 rfl r8).is ?_) fun h => (ev_neg ev_int).is ?_) n5.bh fun v B6 H6 n6 r => q v B6 H6 (((n3.trans n4).trans n5).trans n6) r
          · rw [if_pos (of_decide_eq_true h)]
          · rw [if_neg (of_decide_eq_false h)]
end
end Mr
end

section
set_option Elab.async false
set_option linter.all false
set_option maxRecDepth 100000
set_option maxHeartbeats 1000000
namespace Mr
open PySem L2 Lay Mn
section
variable {P : Program} {w : World} {K : PySem.W.Frag} {mg : Str → Option Value} {base : Heap}
/-- leads at end 0 -/
def rLeads : List PyData → PyData → Prop := fun ds d => ∃ (ld : PyData) (lasts : Lasts) (bars : List Bar) (level slot : Int), ds = [ld, .tuple (bars.map eBar), .int level, .int 0, .int slot] ∧
  items ld = some (lasts.map eO) ∧ 0 ≤ level ∧ level ≤ lasts.length ∧ lasts.length ≤ 1000 ∧ bars.length ≤ 1000 ∧ d = .bool (leadsB lasts bars level slot)
theorem fn_leads (k : Nat) (F : Df K mg "leads" s_leads ["lasts", "bars", "level", "end", "slot"]) (G : Fn P w K mg base "greatest_slot" k ["lasts", "bars", "level", "end", "colour"] (spD rGreatest)) :
    Fn P w K mg base "leads" (k + 1) ["lasts", "bars", "level", "end", "slot"] (spD rLeads) := by
  obtain ⟨f, fd, F, hm, hb⟩ := F
  refine fn_data F sc_leads hm hb (fun ds d h => ?_) (fun X C vs ds d B H D eB ra hR q _ => ?_)
  · obtain ⟨_, _, _, _, _, rfl, _⟩ := h
    rfl
  · obtain ⟨ld, lasts, bars, level, slot, rfl, hl, l0, l1, l2, l3, rfl⟩ := hR
    obtain ⟨v1, v2, v3, v4, v5, rfl, r1, r2, r3, r4, r5⟩ := RpAll.five ra
    cases r3; cases r4; cases r5
    refine ws_set C 5 (ev_call C G (ea_cons (C.nm 0 rfl r1) (ea_cons (C.nm 1 rfl r2) (ea_cons (C.nm 2 rfl (.int _)) (ea_cons (C.nm 3 rfl (.int _)) (ea_cons (ev_bin (o_mod (by decide)) (C.nm 4 rfl (.int _)) ev_int) ea_nil)))))
      ⟨ld, lasts, bars, level, slot % 2, rfl, hl, l0, l1, l2, l3, rfl⟩) eB fun v B1 H1 n1 r6 => ?_
    refine ws_ret (ev_and (ev_cmp o_ge (C.nm 4 rfl (.int _)) (C.nm 2 rfl (.int _))) fun h => ev_one (ev_or (y := match gSlot lasts bars level (slot % 2) with | none => true | some t => decide (slot ≤ t)) (ev_cmp o_isN (C.nm 5 rfl r6) ev_non) fun h => ev_one ?_)) n1.bh fun v B2 H2 n2 r => q v B2 H2 (n1.trans n2) ?_
    · cases e : gSlot lasts bars level (slot % 2) with
      | none => rw [e] at h; cases h
      | some t =>
        rw [e] at r6
        exact ev_cmp o_le (C.nm 4 rfl (.int _)) (C.nm 5 rfl r6)
    · have e : (isNone (eO (gSlot lasts bars level (slot % 2))) || (match gSlot lasts bars level (slot % 2) with | none => true | some t => decide (slot ≤ t))) = (match gSlot lasts bars level (slot % 2) with | none => true | some t => decide (slot ≤ t)) := by
        cases gSlot lasts bars level (slot % 2) <;> simp [eO, isNone]
      rw [e] at r
      exact r

/-- slot_from at end 0 -/
def rSlotFrom : List PyData → PyData → Prop := fun ds d => ∃ (ld : PyData) (lasts : Lasts) (bars : List Bar) (level first : Int), ds = [ld, .tuple (bars.map eBar), .int level, .int 0, .int first] ∧
  items ld = some (lasts.map eO) ∧ 0 ≤ level ∧ level ≤ lasts.length ∧ lasts.length ≤ 1000 ∧ bars.length ≤ 1000 ∧ d = eO (slotFrom lasts bars level first)
theorem fn_slotFrom (k : Nat) (F : Df K mg "slot_from" s_slot_from ["lasts", "bars", "level", "end", "first"]) (G : Fn P w K mg base "leads" k ["lasts", "bars", "level", "end", "slot"] (spD rLeads)) (mm : mg "max" = none) :
    Fn P w K mg base "slot_from" (k + 1) ["lasts", "bars", "level", "end", "first"] (spD rSlotFrom) := by
  obtain ⟨f, fd, F, hm, hb⟩ := F
  refine fn_data F sc_slot_from hm hb (fun ds d h => ?_) (fun X C vs ds d B H D eB ra hR q _ => ?_)
  · obtain ⟨_, _, _, _, _, rfl, _⟩ := h
    rfl
  · obtain ⟨ld, lasts, bars, level, first, rfl, hl, l0, l1, l2, l3, rfl⟩ := hR
    obtain ⟨v1, v2, v3, v4, v5, rfl, r1, r2, r3, r4, r5⟩ := RpAll.five ra
    cases r3; cases r4; cases r5
    refine ws_set C 5 (ev_callB C (c_max2 C) (ea_cons (C.nm 4 rfl (.int _)) (ea_cons (C.nm 2 rfl (.int _)) ea_nil)) mm) eB fun v B1 H1 n1 r6 => ?_
    cases r6
    refine ws_for C (ei_tup C (ev_tup (ea_cons (C.nm 5 rfl (.int _)) (ea_cons (ev_bin o_add (C.nm 5 rfl (.int _)) ev_int) ea_nil)))) n1.bh fun B2 H2 n2 => ?_
    refine ⟨fun i σ' H' => (∃ y, σ' = [some v1, some v2, some (.int level), some (.int 0), some (.int first), some (.int (mx first level)), y]) ∧ (∃ B', Nw B H B' H' ∧ Ex B2 B') ∧ (1 ≤ i → leadsB lasts bars level (mx first level) = false) ∧ (2 ≤ i → leadsB lasts bars level (mx first level + 1) = false),
      ⟨⟨none, rfl⟩, ⟨B2, n1.trans n2, Ex.refl _⟩, fun h => by omega, fun h => by omega⟩, fun i d σ' H' hd pv => ?_, fun i σ' H' pv => ?_, fun σ' H' pv => ?_⟩
    · obtain ⟨⟨y, rfl⟩, ⟨B', nn, e2⟩, a1, a2⟩ := pv
      refine ⟨B', e2, nn.bh, fun v B3 H3 n3 rv => ?_⟩
      have eB3 := nn.bb.trans n3.bb
      have hd' : (i = 0 ∧ d = .int (mx first level)) ∨ (i = 1 ∧ d = .int (mx first level + 1)) := by
        match i, hd with
        | 0, hd => cases hd; exact .inl ⟨rfl, rfl⟩
        | 1, hd => cases hd; exact .inr ⟨rfl, rfl⟩
        | i + 2, hd => simp at hd
      obtain ⟨z, rfl⟩ : ∃ z, d = .int z := by rcases hd' with ⟨_, e⟩ | ⟨_, e⟩ <;> exact ⟨_, e⟩
      cases rv
      refine wg_name C 6 ?_
      refine ws_ifN (et_val (ev_call C G (ea_cons (C.nm 0 rfl (r1.up eB3)) (ea_cons (C.nm 1 rfl (r2.up eB3)) (ea_cons (C.nm 2 rfl (.int _)) (ea_cons (C.nm 3 rfl (.int _)) (ea_cons (C.nm 6 rfl (.int _)) ea_nil))))) ⟨ld, lasts, bars, level, z, rfl, hl, l0, l1, l2, l3, rfl⟩)) n3.bh (fun hy H4 x4 => ?_) (fun hy H4 x4 => ws_nil ?_)
      · refine ws_ret (C.nm 6 rfl (.int z)) (n3.bh.trans x4) fun v B5 H5 n5 r => ?_
        have n := ((nn.trans n3).trans (Nw.grow n3.bh x4)).trans n5
        refine q v B5 H5 n ?_
        have e : slotFrom lasts bars level first = some z := by
          unfold slotFrom
          rcases hd' with ⟨rfl, e⟩ | ⟨rfl, e⟩
          · cases e
            rw [if_pos hy]
          · cases e
            rw [if_neg (by rw [a1 (Nat.le_refl _)]; simp), if_pos hy]
        rw [e]
        exact r
      · have n := (nn.trans n3).trans (Nw.grow n3.bh x4)
        refine ⟨⟨_, rfl⟩, ⟨_, n, e2.trans n3.bb⟩, fun h => ?_, fun h => ?_⟩
        · rcases hd' with ⟨rfl, e⟩ | ⟨rfl, e⟩
          · cases e; exact hy
          · exact a1 (Nat.le_refl _)
        · rcases hd' with ⟨rfl, e⟩ | ⟨rfl, e⟩
          · omega
          · cases e; exact hy
    · obtain ⟨_, ⟨B', nn, e2⟩, _⟩ := pv
      exact e2.trans nn.bh
    · obtain ⟨⟨y, rfl⟩, ⟨B', nn, e2⟩, a1, a2⟩ := pv
      have e : slotFrom lasts bars level first = none := by
        unfold slotFrom
        rw [if_neg (by rw [a1 (by simp)]; simp), if_neg (by rw [a2 (by simp)]; simp)]
      rw [e] at q
      exact ws_ret ev_non nn.bh fun v B5 H5 n5 r => q v B5 H5 (nn.trans n5) r

/-- wanted_slots of men of a muster -/
def rWanted : List PyData → PyData → Prop := fun ds d => ∃ (ld : PyData) (lasts : Lasts) (bars : List Bar) (muster : List Man) (men : List Nat) (at' : Int), ds = [ld, .tuple (bars.map eBar), .tuple (muster.map eMan), .list (men.map eNat), .int at'] ∧
  items ld = some (lasts.map eO) ∧ (∀ m ∈ muster, 0 ≤ m.1 ∧ m.1 ≤ lasts.length) ∧ lasts.length ≤ 1000 ∧ bars.length ≤ 1000 ∧ men.length ≤ 1000 ∧ (∀ m ∈ men, m < muster.length) ∧ d = .list (men.map fun m => eO (wantS lasts bars muster at' m))
theorem fn_wanted (k : Nat) (F : Df K mg "wanted_slots" s_wanted_slots ["lasts", "bars", "muster", "men", "at"]) (G : Fn P w K mg base "slot_from" k ["lasts", "bars", "level", "end", "first"] (spD rSlotFrom)) (mm : mg "max" = none) :
    Fn P w K mg base "wanted_slots" (k + 1) ["lasts", "bars", "muster", "men", "at"] (spD rWanted) := by
  obtain ⟨f, fd, F, hm, hb⟩ := F
  refine fn_data F sc_wanted_slots hm hb (fun ds d h => ?_) (fun X C vs ds d B H D eB ra hR q _ => ?_)
  · obtain ⟨_, _, _, _, _, _, rfl, _⟩ := h
    rfl
  · obtain ⟨ld, lasts, bars, muster, men, at', rfl, hl, lm, l2, l3, l4, lt, rfl⟩ := hR
    obtain ⟨v1, v2, v3, v4, v5, rfl, r1, r2, r3, r4, r5⟩ := RpAll.five ra
    cases r5
    refine ws_ret ((ev_lc C (xs := men) (enc := eNat) [("man", 5)] (ei_list C (C.nm 3 rfl r4)) (fun _ => true) (fun m => eO (wantS lasts bars muster at' m)) (by omega) fun m hm B1 H1 v e1 e2 rv => ?_).is ?_) eB q
    · cases rv
      have hlt := lt m hm
      have hget : (muster.map eMan)[m]? = some (eMan (muster.getD m (0, 0))) := get_map (0, 0) hlt
      have hmem : muster.getD m (0, 0) ∈ muster := by
        rw [List.getD_eq_getElem?_getD, List.getElem?_eq_getElem hlt]
        exact List.getElem_mem hlt
      have hb := lm _ hmem
      refine turn_name (C.blk _) 5 (by decide) es_nil fun _ => ?_
      refine ev_call (C.blk _) G (ea_cons ((C.blk _).nm 0 rfl (r1.up e1)) (ea_cons ((C.blk _).nm 1 rfl (r2.up e1)) (ea_cons (ev_ix (j := 0) (ev_ix (j := m) ((C.blk _).nm 2 rfl (r3.up e1)) ((C.blk _).nm 5 rfl (.int _)) rfl rfl hget) ev_int rfl rfl rfl)
        (ea_cons ev_int (ea_cons (ev_callB (C.blk _) (c_max2 (C.blk _)) (ea_cons ((C.blk _).nm 4 rfl (.int _)) (ea_cons (ev_bin o_add (ev_ix (j := 0) (ev_ix (j := m) ((C.blk _).nm 2 rfl (r3.up e1)) ((C.blk _).nm 5 rfl (.int _)) rfl rfl hget) ev_int rfl rfl rfl)
          (ev_ix (j := 1) (ev_ix (j := m) ((C.blk _).nm 2 rfl (r3.up e1)) ((C.blk _).nm 5 rfl (.int _)) rfl rfl hget) ev_int rfl rfl rfl)) ea_nil)) mm) ea_nil)))))
        ⟨ld, lasts, bars, (muster.getD m (0, 0)).1, _, rfl, hl, hb.1, hb.2, l2, l3, rfl⟩
    · rw [List.filter_eq_self.mpr fun _ _ => rfl]
end
end Mr
end

section
set_option Elab.async false
set_option linter.all false
set_option maxRecDepth 100000
set_option maxHeartbeats 1000000
namespace Mr
open PySem L2 Lay Mn
/-! ### lists into tuples, tuples into lists -/
mutual
def tupOf : PyData → PyData
  | .list ds => .tuple (tupOfAll ds)
  | .tuple ds => .tuple (tupOfAll ds)
  | .none => .none
  | .bool b => .bool b
  | .int i => .int i
  | .str s => .str s
  | .dict kvs => .dict kvs
def tupOfAll : List PyData → List PyData
  | [] => []
  | d :: ds => tupOf d :: tupOfAll ds
end
theorem tupOfAll_map : ∀ ds : List PyData, tupOfAll ds = ds.map tupOf
  | [] => by rw [tupOfAll]; rfl
  | d :: ds => by rw [tupOfAll, tupOfAll_map ds]; rfl
mutual
def lisOf : PyData → PyData
  | .list ds => .list (lisOfAll ds)
  | .tuple ds => .list (lisOfAll ds)
  | .none => .none
  | .bool b => .bool b
  | .int i => .int i
  | .str s => .str s
  | .dict kvs => .dict kvs
def lisOfAll : List PyData → List PyData
  | [] => []
  | d :: ds => lisOf d :: lisOfAll ds
end
theorem lisOfAll_map : ∀ ds : List PyData, lisOfAll ds = ds.map lisOf
  | [] => by rw [lisOfAll]; rfl
  | d :: ds => by rw [lisOfAll, lisOfAll_map ds]; rfl
theorem depth_mem : ∀ {ds : List PyData} {d : PyData}, d ∈ ds → d.depth ≤ PyData.depthAll ds
  | [], _, h => absurd h List.not_mem_nil
  | x :: xs, d, h => by
    simp only [PyData.depthAll]
    rcases List.mem_cons.mp h with z | z
    · rw [z]; omega
    · have := depth_mem z
      omega
theorem tup_O (o : Option Int) : tupOf (eO o) = eO o := by cases o <;> simp [eO, tupOf]
theorem tup_Bar (b : Bar) : tupOf (eBar b) = eBar b := by simp [eBar, tupOf, tupOfAll]
theorem tup_Pl (b : Plat) : tupOf (ePl b) = ePl b := by simp [ePl, tupOf, tupOfAll]
theorem tup_Brk (b : Brk) : tupOf (eBrk b) = eBrk b := by simp [eBrk, tupOf, tupOfAll, tup_Pl]
theorem tup_Man (b : Man) : tupOf (eMan b) = eMan b := by simp [eMan, tupOf, tupOfAll]
theorem lis_O (o : Option Int) : lisOf (eO o) = eO o := by cases o <;> simp [eO, lisOf]
mutual
theorem tup_lis : ∀ d : PyData, tupOf (lisOf d) = tupOf d
  | .list ds => by simp [tupOf, lisOf, tup_lisAll ds]
  | .tuple ds => by simp [tupOf, lisOf, tup_lisAll ds]
  | .none => by simp [tupOf, lisOf]
  | .bool _ => by simp [tupOf, lisOf]
  | .int _ => by simp [tupOf, lisOf]
  | .str _ => by simp [tupOf, lisOf]
  | .dict _ => by simp [tupOf, lisOf]
theorem tup_lisAll : ∀ ds : List PyData, tupOfAll (lisOfAll ds) = tupOfAll ds
  | [] => by simp [tupOfAll, lisOfAll]
  | d :: ds => by simp [tupOfAll, lisOfAll, tup_lis d, tup_lisAll ds]
end
/-! each list of it is short -/
mutual
def short : PyData → Bool
  | .list ds => decide (ds.length ≤ 10000) && shortAll ds
  | .tuple ds => decide (ds.length ≤ 10000) && shortAll ds
  | _ => true
def shortAll : List PyData → Bool
  | [] => true
  | d :: ds => short d && shortAll ds
end
theorem short_mem : ∀ {ds : List PyData} {d : PyData}, shortAll ds = true → d ∈ ds → short d = true
  | [], _, _, h => absurd h List.not_mem_nil
  | x :: xs, d, hs, h => by
    rw [shortAll, Bool.and_eq_true] at hs
    rcases List.mem_cons.mp h with z | z
    · rw [z]; exact hs.1
    · exact short_mem hs.2 z
theorem short_all : ∀ {ds : List PyData}, (∀ d ∈ ds, short d = true) → shortAll ds = true
  | [], _ => by rw [shortAll]
  | x :: xs, h => by
    rw [shortAll, h x List.mem_cons_self, short_all fun d hd => h d (List.mem_cons_of_mem _ hd)]
    rfl
theorem short_list {ds : List PyData} (h : ds.length ≤ 10000) (hd : ∀ d ∈ ds, short d = true) : short (.list ds) = true := by
  rw [short, short_all hd, decide_eq_true h]
  rfl
theorem short_tup {ds : List PyData} (h : ds.length ≤ 10000) (hd : ∀ d ∈ ds, short d = true) : short (.tuple ds) = true := by
  rw [short, short_all hd, decide_eq_true h]
  rfl
section
variable {P : Program} {w : World} {K : PySem.W.Frag} {mg : Str → Option Value} {base : Heap}
def rTup (n : Nat) : List PyData → PyData → Prop := fun ds d => ∃ d0, ds = [d0] ∧ d0.depth ≤ n ∧ short d0 = true ∧ d = tupOf d0
theorem items_isA {d : PyData} (h : (isA "list" d || isA "tuple" d) = true) : ∃ ds, items d = some ds ∧ tupOf d = .tuple (ds.map tupOf) ∧ lisOf d = .list (ds.map lisOf) ∧ (∀ x ∈ ds, x.depth + 1 ≤ d.depth) ∧ (short d = true → ds.length ≤ 10000 ∧ ∀ x ∈ ds, short x = true) := by
  cases d with
  | list ds =>
    refine ⟨ds, rfl, by rw [tupOf, tupOfAll_map], by rw [lisOf, lisOfAll_map], fun x hx => ?_, fun hs => ?_⟩
    · have := depth_mem hx
      simp only [PyData.depth]
      omega
    · rw [short, Bool.and_eq_true, decide_eq_true_eq] at hs
      exact ⟨hs.1, fun x hx => short_mem hs.2 hx⟩
  | tuple ds =>
    refine ⟨ds, rfl, by rw [tupOf, tupOfAll_map], by rw [lisOf, lisOfAll_map], fun x hx => ?_, fun hs => ?_⟩
    · have := depth_mem hx
      simp only [PyData.depth]
      omega
    · rw [short, Bool.and_eq_true, decide_eq_true_eq] at hs
      exact ⟨hs.1, fun x hx => short_mem hs.2 hx⟩
  | _ => exact absurd h (by simp [isA, tyName])
theorem tupOf_atom {d : PyData} (h : (isA "list" d || isA "tuple" d) = false) : tupOf d = d ∧ lisOf d = d := by
  cases d with
  | list ds => exact absurd h (by simp [isA, tyName])
  | tuple ds => exact absurd h (by simp [isA, tyName])
  | _ => simp [tupOf, lisOf]
theorem fn_tupleOf (F : Df K mg "tuple_of" s_tuple_of ["thing"]) (mi : mg "isinstance" = none) (ml : mg "list" = none) (mt : mg "tuple" = none) : ∀ n : Nat, Fn P w K mg base "tuple_of" (n + 1) ["thing"] (spD (rTup n)) := by
  obtain ⟨f, fd, F, hm, hb⟩ := F
  intro n
  induction n with
  | zero =>
    refine fn_data F sc_tuple_of hm hb (fun ds d h => ?_) (fun X C vs ds d B H D eB ra hR q _ => ?_)
    · obtain ⟨_, rfl, _⟩ := h
      rfl
    · obtain ⟨d0, rfl, hd, hs, rfl⟩ := hR
      obtain ⟨v, rfl, rv⟩ := RpAll.one' ra
      refine ws_ifN (et_val (ev_isi2 (T := "list") (U := "tuple") C (C.nm 0 rfl rv) (by simp) (by simp) mi ml mt)) eB (fun hy H1 x1 => ?_) (fun hy H1 x1 => ?_)
      · obtain ⟨ds, h1, h2, _, h3, h4⟩ := items_isA hy
        cases d0 with
        | list _ => simp [PyData.depth] at hd
        | tuple _ => simp [PyData.depth] at hd
        | _ => cases h1
      · rw [(tupOf_atom hy).1] at q
        exact ws_ret (C.nm 0 rfl rv) (eB.trans x1) fun v B2 H2 n2 r => q v B2 H2 ((Nw.grow eB x1).trans n2) r
  | succ n ih =>
    refine fn_data F sc_tuple_of hm hb (fun ds d h => ?_) (fun X C vs ds d B H D eB ra hR q _ => ?_)
    · obtain ⟨_, rfl, _⟩ := h
      rfl
    · obtain ⟨d0, rfl, hd, hs, rfl⟩ := hR
      obtain ⟨v, rfl, rv⟩ := RpAll.one' ra
      refine ws_ifN (et_val (ev_isi2 (T := "list") (U := "tuple") C (C.nm 0 rfl rv) (by simp) (by simp) mi ml mt)) eB (fun hy H1 x1 => ?_) (fun hy H1 x1 => ?_)
      · obtain ⟨ds, h1, h2, _, h3, h4⟩ := items_isA hy
        rw [h2] at q
        obtain ⟨g1, g2⟩ := h4 hs
        refine ws_ret (ev_callTy C (c_tuple C) (ea_cons (ev_lc C (xs := ds) (enc := fun d => d) [("part", 1)] (by rw [List.map_id']; exact ei_seq C (C.nm 0 rfl rv) h1) (fun _ => true) tupOf (by omega) fun x hx B1 H1 v e1 e2 rv => ?_) ea_nil) mt) (eB.trans x1) fun v B2 H2 n2 r => q v B2 H2 ((Nw.grow eB x1).trans n2) ?_
        · refine turn_name (C.blk _) 1 (by decide) es_nil fun _ => ev_call (C.blk _) ih (ea_cons ((C.blk _).nm 1 rfl rv) ea_nil) ⟨x, rfl, ?_, g2 x hx, rfl⟩
          have := h3 x hx
          omega
        · rw [List.filter_eq_self.mpr fun _ _ => rfl] at r
          exact r
      · rw [(tupOf_atom hy).1] at q
        exact ws_ret (C.nm 0 rfl rv) (eB.trans x1) fun v B2 H2 n2 r => q v B2 H2 ((Nw.grow eB x1).trans n2) r
end
end Mr
end

section
set_option Elab.async false
set_option linter.all false
set_option maxRecDepth 100000
set_option maxHeartbeats 4000000
namespace Mr
open PySem L2 Lay Mn
theorem rngD0 (n : Nat) : rngD 0 n = (List.range n).map eNat := by
  unfold rngD
  refine List.map_congr_left fun i _ => ?_
  rw [Int.zero_add]
  rfl
theorem zipE {α : Type} (l : List α) (f g : α → PyData) : ((l.map f).zip (l.map g)).map (fun z => PyData.tuple [z.1, z.2]) = l.map fun x => .tuple [f x, g x] := by
  rw [List.zip_map', List.map_map]
  rfl
theorem pairs_snd (W : Int → Nat → Option Int) (left : List Nat) (a : Int) : (left.filter fun m => (W a m).isSome).map (fun m => (W a m).getD 0) = (pairs W left a).map (·.2) := by
  unfold pairs
  induction left with
  | nil => rfl
  | cons m L ih =>
    rw [List.filter_cons, List.filterMap_cons]
    cases e : W a m with
    | none => simpa using ih
    | some s => simpa [e] using ih
theorem items_of_tup {d : PyData} {ts : List PyData} (h : tupOf d = .tuple ts) : ∃ es, items d = some es ∧ ts = es.map tupOf := by
  cases d with
  | list es => rw [tupOf, tupOfAll_map] at h; cases h; exact ⟨es, rfl, rfl⟩
  | tuple es => rw [tupOf, tupOfAll_map] at h; cases h; exact ⟨es, rfl, rfl⟩
  | _ => simp [tupOf] at h
theorem sel_split {lev : Nat → Int} {ps : List (Nat × Int)} (h : ps ≠ []) : ∃ (c : Nat) (s d : Int), sel lev ps = some (c, s) ∧ (ps.map (·.2)).min? = some s ∧ ((ps.filter fun q => decide (q.2 = s)).map fun q => lev q.1).max? = some d ∧
    (ps.filter fun q => decide (q.2 = s) && decide (lev q.1 = d)).head? = some (c, s) := by
  cases hs : sel lev ps with
  | none => exact absurd (sel_none.mp hs) h
  | some cs =>
    obtain ⟨c, s⟩ := cs
    have h0 := hs
    unfold sel at hs
    cases hm : (ps.map (·.2)).min? with
    | none => rw [hm] at hs; cases hs
    | some s' =>
      rw [hm] at hs
      simp only at hs
      cases hd : ((ps.filter fun q => decide (q.2 = s')).map fun q => lev q.1).max? with
      | none => rw [hd] at hs; cases hs
      | some d =>
        rw [hd] at hs
        simp only at hs
        have hc := List.mem_of_mem_head? hs
        rw [List.mem_filter] at hc
        simp only [Bool.and_eq_true, decide_eq_true_eq] at hc
        obtain ⟨_, h2, _⟩ := hc
        have h2 : s = s' := h2
        subst h2
        exact ⟨c, s, d, rfl, rfl, hd, hs⟩
theorem fl_Nat (n m : Nat) : Fl n (eNat m) := fl_int n _
theorem Nw.exh {B H B' H' H2 : Hp} (n : Nw B H B' H') (x : Ex H' H2) : Nw B H B' H2 := n.trans (Nw.grow n.bh x)
section
variable {P : Program} {w : World} {K : PySem.W.Frag} {mg : Str → Option Value} {base : Heap}
def rRescue : List PyData → PyData → Prop := fun ds d => ∃ (ld md : PyData) (lasts : Lasts) (bars : List Bar) (muster : List Man), ds = [ld, .tuple (bars.map eBar), md] ∧
  items ld = some (lasts.map eO) ∧ tupOf md = .tuple (muster.map eMan) ∧ md.depth ≤ 3 ∧ short md = true ∧ (∀ m ∈ muster, 0 ≤ m.1 ∧ m.1 ≤ lasts.length) ∧ lasts.length ≤ 1000 ∧ bars.length ≤ 1000 ∧ muster.length ≤ 1000 ∧ d = .tuple ((rescueM lasts bars muster).map eO)
/-- between two turns of the while -/
def RI (B H : Hp) (lasts : Lasts) (bars : List Bar) (muster : List Man) (v1 v2 v3 vo : V) (g : Addr) (m : Nat) (σ' : L2.St) (H' : Hp) : Prop :=
  ∃ (left : List Nat) (gv : List (Option Int)) (at' : Int) (vs : List V) (vl : V) (w7 w8 w9 w10 w11 : Option V) (B' : Hp), σ' = [some v1, some v2, some v3, some vo, some (.ref g), some (.int at'), some vl, w7, w8, w9, w10, w11] ∧
    Nw B H B' H' ∧ B' g = none ∧ H' g = some (.lst vs) ∧ RpAll B' vs (gv.map eO) ∧ Rp B' vo (.tuple (muster.map eMan)) ∧ Rp B' vl (.list (left.map eNat)) ∧ left.length ≤ m ∧ (∀ x ∈ left, x < muster.length) ∧ gv.length = muster.length ∧ m ≤ muster.length ∧
    loop (levOf muster) (wantS lasts bars muster) m left gv at' = rescueM lasts bars muster
theorem fn_rescue (k : Nat) (hk : 4 ≤ k) (F : Df K mg "rescue" s_rescue ["lasts", "bars", "muster"]) (GT : Fn P w K mg base "tuple_of" 4 ["thing"] (spD (rTup 3))) (GW : Fn P w K mg base "wanted_slots" k ["lasts", "bars", "muster", "men", "at"] (spD rWanted))
    (ml : mg "len" = none) (mli : mg "list" = none) (mr : mg "range" = none) (mz : mg "zip" = none) (mmi : mg "min" = none) (mma : mg "max" = none) (mt : mg "tuple" = none) :
    Fn P w K mg base "rescue" (k + 1) ["lasts", "bars", "muster"] (spD rRescue) := by
  obtain ⟨f, fd, F, hm, hb⟩ := F
  refine fn_data F sc_rescue hm hb (fun ds d h => ?_) (fun X C vs ds d B H D eB ra hR q _ => ?_)
  · obtain ⟨_, _, _, _, _, rfl, _⟩ := h
    rfl
  · obtain ⟨ld, md, lasts, bars, muster, rfl, hl, ht, hd, hs, hlev, l1, l2, l3, rfl⟩ := hR
    obtain ⟨v1, v2, v3, rfl, r1, r2, r3⟩ := ra.three
    obtain ⟨mds, him, hmd⟩ := items_of_tup ht
    have hlen : mds.length = muster.length := by
      have := congrArg List.length hmd
      rw [List.length_map, List.length_map] at this
      exact this.symm
    -- own, given, at = tuple_of(muster), [None] * len(muster), 0
    refine ws_asgR C (we_tup (wa_cons ((ev_call C GT (ea_cons (C.nm 2 rfl r3) ea_nil) ⟨md, rfl, hd, hs, rfl⟩).use eB fun vo B1 H1 n1 ro => wa_cons ((en_rep (ea_cons ev_non ea_nil) (ev_callB C (c_len C him) (ea_cons (C.nm 2 rfl (r3.up n1.bb)) ea_nil) ml) (by omega) (by rw [hlen]; omega)).use n1.bh
      fun g B2 H2 vs n2 hg bg hg' rg => wa_cons (ev_int.use n2.bh fun va B3 H3 n3 ra' => wa_nil ⟨by simp only [List.length_cons, List.length_nil]; decide, fun p hp => ?_⟩))))) (by intro _; rfl) (fun i => C.swap (by rfl) i)
    cases ra'
    refine wg_tup3R C upd_same (wg_name C 3 (wg_name C 4 (wg_name C 5 ?_)))
    rw [ht] at ro
    have c3 := n3.cell hg' bg
    have gp : g ≠ p := ne_of_none c3.1 hp
    have x3 : Ex H3 (upd H3 p (.tup [vo, .ref g, .int 0])) := Ex.new hp
    have nA := Nw.exh ((n1.trans n2).trans n3) x3
    have Hg : H g = none := n1.hh.free hg
    -- left = list(range(len(own)))
    refine ws_set C 6 (ev_listRange C (ev_callB C (c_len C rfl) (ea_cons (C.nm 3 rfl ((ro.up n2.bb).up n3.bb)) ea_nil) ml) mli mr (by rw [List.length_map]; omega)) nA.bh fun vl B4 H4 n4 rl => ?_
    have nB := nA.trans n4
    have c4 := n4.cell (x3 _ _ c3.1) c3.2
    rw [Int.toNat_natCast, List.length_map, rngD0] at rl
    refine ws_while C (RI B H lasts bars muster v1 v2 v3 vo g) muster.length ?_ fun m σ' H' pv => ?_
    · refine ⟨List.range muster.length, List.replicate muster.length none, 0, vs, vl, none, none, none, none, none, B4, rfl, nB, c4.2, c4.1, ?_, ((ro.up n2.bb).up n3.bb).up n4.bb, rl, by rw [List.length_range]; exact Nat.le_refl _, fun x hx => List.mem_range.mp hx, List.length_replicate, Nat.le_refl _, rfl⟩
      rw [Int.toNat_natCast, hlen] at rg
      rw [List.map_replicate]
      exact (rg.up n3.bb).up n4.bb
    · obtain ⟨left, gv, at', vs, vl, w7, w8, w9, w10, w11, B', rfl, nn, bg', hg'', rgv, rvo, rvl, hlm, hlt, hgl, hmm, hloop⟩ := pv
      have fl : Flat (.list (left.map eNat)) := (fl_list (n := 0) (fl_map fun x => fl_Nat 0 x)).flat
      refine ⟨B', _, nn.bh, et_cmp (o_neD C fl (fl_list (n := 0) (by simp)).flat) (C.nm 6 rfl rvl) (ev_lst ea_nil), fun hy H2 x2 => ?_, fun hy H2 x2 => ?_⟩
      · rw [eqv_nilL, Bool.not_eq_true', List.isEmpty_eq_false_iff, ne_eq, List.map_eq_nil_iff] at hy
        have hm1 : 1 ≤ left.length := by
          cases left with
          | nil => exact absurd rfl hy
          | cons _ _ => simp
        obtain ⟨m', rfl⟩ : ∃ m', m = m' + 1 := ⟨m - 1, by omega⟩
        have nn2 := Nw.exh nn x2
        -- wanted = wanted_slots(lasts, bars, own, left, at)
        refine ws_set C 7 (ev_call C GW (ea_cons (C.nm 0 rfl (r1.up nn.bb)) (ea_cons (C.nm 1 rfl (r2.up nn.bb)) (ea_cons (C.nm 3 rfl rvo) (ea_cons (C.nm 6 rfl rvl) (ea_cons (C.nm 5 rfl (.int at')) ea_nil)))))
          ⟨ld, lasts, bars, muster, left, at', rfl, hl, hlev, l1, l2, by omega, hlt, rfl⟩) nn2.bh fun vw B5 H5 n5 rw5 => ?_
        have cc5 := n5.cell (x2 _ _ hg'') bg'
        have nn5 := nn2.trans n5
        generalize hW : wantS lasts bars muster = W at hloop rw5
        generalize hps : pairs W left at' = ps
        have hfst : left.filter (fun m => (W at' m).isSome) = ps.map (·.1) := by rw [← hps, pairs_fst]
        have hsnd : (left.filter (fun m => (W at' m).isSome)).map (fun m => (W at' m).getD 0) = ps.map (·.2) := by rw [← hps, pairs_snd]
        have hpm : ∀ q ∈ ps, q.1 < muster.length := fun q hq => by
          rw [← hps] at hq
          exact hlt _ (mem_pairs.mp (show (q.1, q.2) ∈ _ from hq)).1
        have hpl : ps.length ≤ left.length := by
          rw [← hps]
          exact List.length_filterMap_le _ _
        -- left = [man for man, slot in zip(left, wanted) if slot is not None]
        refine ws_setLc C 6 (xs := left) (enc := fun m => .tuple [eNat m, eO (W at' m)]) [("man", 10), ("slot", 11)] (by rw [← zipE]; exact ei_zip C (C.nm 6 rfl (rvl.up n5.bb)) (C.nm 7 rfl rw5) mz)
          (fun m => (W at' m).isSome) eNat (by omega) (fun x hx B1 H1 v e1 e2 rv => ?_) n5.bh fun vl6 B6 H6 n6 r6 => ?_
        · refine turn_two (C.blk _) 10 11 rv e2 (by decide) (by decide) fun y1 y2 ry1 ry2 => ⟨es_one ((et_cmp o_notN ((C.blk _).nm 11 rfl ry2) ev_non).is ?_), fun _ => (C.blk _).nm 10 rfl ry1⟩
          rw [isNone_O, Bool.not_not]
        rw [hfst] at r6
        have cc6 := n6.cell cc5.1 cc5.2
        have nn6 := nn5.trans n6
        -- wanted = [slot for slot in wanted if slot is not None]
        refine ws_setLc C 7 (xs := left) (enc := fun m => eO (W at' m)) [("slot", 11)] (ei_list C (C.nm 7 rfl (rw5.up n6.bb))) (fun m => (W at' m).isSome) (fun m => .int ((W at' m).getD 0)) (by omega) (fun x hx B1 H1 v e1 e2 rv => ?_) n6.bh fun vw7 B7 H7 n7 r7 => ?_
        · refine turn_name (C.blk _) 11 (by decide) (es_one ((et_cmp o_notN ((C.blk _).nm 11 rfl rv) ev_non).is ?_)) fun h => ((C.blk _).nm 11 rfl rv).is ?_
          · rw [isNone_O, Bool.not_not]
          · cases e : W at' x with
            | none => rw [e] at h; cases h
            | some z => rfl
        have e7 : (left.filter (fun m => (W at' m).isSome)).map (fun m => PyData.int ((W at' m).getD 0)) = (ps.map (·.2)).map PyData.int := by rw [← hsnd, List.map_map]; rfl
        rw [e7] at r7
        have cc7 := n7.cell cc6.1 cc6.2
        have nn7 := nn6.trans n7
        have fl2 : Flat (.list ((ps.map (·.1)).map eNat)) := (fl_list (n := 0) (fl_map fun x => fl_Nat 0 x)).flat
        -- if left != []
        refine ws_if (et_cmp (o_neD C fl2 (fl_list (n := 0) (by simp)).flat) (C.nm 6 rfl (r6.up n7.bb)) (ev_lst ea_nil)) n7.bh (fun hy2 H8 x8 => ?_) (fun hy2 H8 x8 => ws_nil (ws_nil ?_))
        · rw [eqv_nilL, Bool.not_eq_true', List.isEmpty_eq_false_iff, ne_eq, List.map_eq_nil_iff, List.map_eq_nil_iff] at hy2
          obtain ⟨c, s, d, hsel, hmin, hmax, hhd⟩ := sel_split (lev := levOf muster) hy2
          have nn8 := Nw.exh nn7 x8
          have hmin' := List.min?_eq_some_iff.mp hmin
          have hmax' := List.max?_eq_some_iff.mp hmax
          -- at = min(wanted)
          refine ws_set C 5 (ev_callB C (c_min C hmin'.1 hmin'.2) (ea_cons (C.nm 7 rfl r7) ea_nil) mmi) nn8.bh fun va B9 H9 n9 r9 => ?_
          cases r9
          have cc9 := n9.cell (x8 _ _ cc7.1) cc7.2
          have nn9 := nn8.trans n9
          have rl9 := (r6.up n7.bb).up n9.bb
          have rw9 := r7.up n9.bb
          have hz9 : ((ps.map (·.1)).map eNat).zip ((ps.map (·.2)).map PyData.int) = (ps.map fun q => eNat q.1).zip (ps.map fun q => PyData.int q.2) := by rw [List.map_map, List.map_map]; rfl
          have zipI : ∀ {σ : L2.St} {p1 p2 p3 p4 p5 p6 p7 kk} {B0 : Hp}, Ex B9 B0 → σ[6]? = some (some vl6) → σ[7]? = some (some vw7) → Ei X (.Tuple [.Name "man" p1, .Name "slot" p2] kk p3) (.Call (.Name "zip" p4) [.Name "left" p5, .Name "wanted" p6] [] p7) σ B0 (ps.map fun q => .tuple [eNat q.1, .int q.2]) :=
            fun {σ p1 p2 p3 p4 p5 p6 p7 kk B0} eb h6 h7 => by
              rw [← zipE, ← hz9]
              exact ei_zip C (C.nm 6 h6 (rl9.up eb)) (C.nm 7 h7 (rw9.up eb)) mz
          have ro9 : Rp B9 vo (.tuple (muster.map eMan)) := (((rvo.up n5.bb).up n6.bb).up n7.bb).up n9.bb
          -- deepest = max([own[man][0] for man, slot in zip(left, wanted) if slot == at])
          refine ws_set C 8 (ev_callB C (c_max C hmax'.1 hmax'.2) (ea_cons ((ev_lc C (xs := ps) (enc := fun q => .tuple [eNat q.1, .int q.2]) [("man", 10), ("slot", 11)] (zipI (Ex.refl _) rfl rfl) (fun q => decide (q.2 = s)) (fun q => .int (levOf muster q.1)) (by omega) fun x hx B1 H1 v e1 e2 rv => ?_).is ?_) ea_nil) mma) n9.bh fun vd B10 H10 n10 r10 => ?_
          · have hget : (muster.map eMan)[x.1]? = some (eMan (muster.getD x.1 (0, 0))) := get_map (0, 0) (hpm x hx)
            exact turn_two (C.blk _) 10 11 rv e2 (by decide) (by decide) fun y1 y2 ry1 ry2 => ⟨es_one (et_cmp o_eqI ((C.blk _).nm 11 rfl ry2) ((C.blk _).nm 5 rfl (.int s))), fun _ => ev_ix (j := 0) (ev_ix (j := x.1) ((C.blk _).nm 3 rfl (ro9.up e1)) ((C.blk _).nm 10 rfl ry1) rfl rfl hget) ev_int rfl rfl rfl⟩
          · rw [List.map_map]
            rfl
          cases r10
          have cc10 := n10.cell cc9.1 cc9.2
          have nn10 := nn9.trans n10
          -- chosen = [man for man, slot in zip(left, wanted) if slot == at and own[man][0] == deepest][0]
          refine ws_set C 9 (ev_ix (j := 0) (d1 := eNat c) (ev_lc C (xs := ps) (enc := fun q => .tuple [eNat q.1, .int q.2]) [("man", 10), ("slot", 11)] (zipI n10.bb rfl rfl) (fun q => decide (q.2 = s) && decide (levOf muster q.1 = d)) (fun q => eNat q.1) (by omega) fun x hx B1 H1 v e1 e2 rv => ?_) ev_int rfl rfl ?_) n10.bh fun vc B11 H11 n11 r11 => ?_
          · have hget : (muster.map eMan)[x.1]? = some (eMan (muster.getD x.1 (0, 0))) := get_map (0, 0) (hpm x hx)
            exact turn_two (C.blk _) 10 11 rv e2 (by decide) (by decide) fun y1 y2 ry1 ry2 => ⟨es_one (et_and2 (et_cmp o_eqI ((C.blk _).nm 11 rfl ry2) ((C.blk _).nm 5 rfl (.int s))) fun _ => et_cmp o_eqI (ev_ix (j := 0) (ev_ix (j := x.1) ((C.blk _).nm 3 rfl ((ro9.up n10.bb).up e1)) ((C.blk _).nm 10 rfl ry1) rfl rfl hget) ev_int rfl rfl rfl) ((C.blk _).nm 8 rfl (.int d))),
              fun _ => (C.blk _).nm 10 rfl ry1⟩
          · rw [← List.head?_eq_getElem?, List.head?_map, hhd]
            rfl
          cases r11
          have cc11 := n11.cell cc10.1 cc10.2
          have nn11 := nn10.trans n11
          have hcm : c < muster.length := by
            have := List.mem_of_mem_head? hhd
            exact hpm _ (List.mem_filter.mp this).1
          have hvl : vs.length = gv.length := by rw [rgv.length, List.length_map]
          -- given[chosen] = at
          refine ws_setItem C 4 (j := c) (C.nm 5 rfl (.int s)) (C.nm 9 rfl (.int _)) n11.bh rfl cc11.1 cc11.2 (by omega) fun vs' B12 H12 n12 b12 h12 r12 => ?_
          cases r12
          have nn12 := nn11.trans n12
          have Hg12 : Nw B H B12 (upd H12 g (.lst (vs.set c (.int s)))) := nn12.put Hg b12
          have rl12 := ((rl9.up n10.bb).up n11.bb).up n12.bb
          -- left = [man for man in left if man != chosen]
          refine ws_setLc C 6 (xs := ps.map (·.1)) (enc := eNat) [("man", 10)] (ei_list C (C.nm 6 rfl rl12)) (fun m => decide (m ≠ c)) eNat (by rw [List.length_map]; omega) (fun x hx B1 H1 v e1 e2 rv => ?_) Hg12.bh fun vl13 B13 H13 n13 r13 => ?_
          · cases rv
            refine turn_name (C.blk _) 10 (by decide) (es_one ((et_cmp o_neI ((C.blk _).nm 10 rfl (.int _)) ((C.blk _).nm 9 rfl (.int _))).is ?_)) fun _ => (C.blk _).nm 10 rfl (.int _)
            by_cases q : x = c <;> simp [q, Int.ofNat_inj]
          have nn13 := Hg12.trans n13
          have cc13 := n13.cell (c := g) upd_same b12
          -- at += 1
          refine ws_aug C 5 rfl ev_int n13.bh fun B14 H14 n14 => ws_nil (ws_nil ?_)
          have nn14 := nn13.trans n14
          have cc14 := n14.cell cc13.1 cc13.2
          refine ⟨m', Nat.lt_succ_self _, (ps.map (·.1)).filter (fun m => decide (m ≠ c)), gv.set c (some s), s + 1, vs.set c (.int s), vl13, _, _, _, _, _, B14, rfl, nn14, cc14.2, cc14.1, ?_, ?_, r13.up n14.bb, ?_, fun x hx => ?_, ?_, by omega, ?_⟩
          · rw [List.map_set]
            exact (((((((((rgv.up n5.bb).up n6.bb).up n7.bb).up n9.bb).up n10.bb).up n11.bb).up n12.bb).up n13.bb).up n14.bb).set c (.int s)
          · exact ((((ro9.up n10.bb).up n11.bb).up n12.bb).up n13.bb).up n14.bb
          · have hlt2 : ((ps.map (·.1)).filter (fun m => decide (m ≠ c))).length < (ps.map (·.1)).length := by
              rw [List.length_filter_lt_length_iff_exists]
              refine ⟨c, ?_, by simp⟩
              have := List.mem_of_mem_head? hhd
              exact List.mem_map.mpr ⟨_, (List.mem_filter.mp this).1, rfl⟩
            rw [List.length_map] at hlt2
            omega
          · obtain ⟨q, hq, rfl⟩ := List.mem_map.mp (List.mem_filter.mp hx).1
            exact hpm q hq
          · rw [List.length_set]
            exact hgl
          · rw [← hloop]
            conv => rhs; unfold loop
            rw [hps, hsel, ← hW]
        · rw [eqv_nilL, Bool.not_eq_false', List.isEmpty_iff, List.map_eq_nil_iff, List.map_eq_nil_iff] at hy2
          subst hy2
          refine ⟨m', Nat.lt_succ_self _, [], gv, at', vs, vl6, _, _, _, _, _, B7, rfl, Nw.exh nn7 x8, cc7.2, x8 _ _ cc7.1, ((rgv.up n5.bb).up n6.bb).up n7.bb, ((rvo.up n5.bb).up n6.bb).up n7.bb, r6.up n7.bb, Nat.zero_le _, fun x hx => absurd hx List.not_mem_nil, hgl, by omega, ?_⟩
          rw [← hloop]
          conv => rhs; unfold loop
          rw [hps]
          cases m' <;> rfl
      · -- return tuple(given)
        rw [eqv_nilL, Bool.not_eq_false', List.isEmpty_iff, List.map_eq_nil_iff] at hy
        subst hy
        have hfin : gv = rescueM lasts bars muster := by
          rw [← hloop]
          cases m with
          | zero => rfl
          | succ m => rfl
        have nn' := Nw.exh nn x2
        have nad := nn'.adopt Hg bg' (x2 _ _ hg'')
        have rg' : Rp (upd B' g (.lst vs)) (.ref g) (.list (gv.map eO)) := .lst upd_same (rgv.up (Ex.new bg'))
        refine ws_ret (ev_callTy C (c_tuple C) (ea_cons (C.nm 4 rfl rg') ea_nil) mt) nad.bh fun v B5 H5 n5 r => q v B5 H5 (nad.trans n5) ?_
        rw [← hfin]
        exact r
end
end Mr
end

section
set_option Elab.async false
set_option linter.all false
set_option maxRecDepth 100000
set_option maxHeartbeats 1000000
namespace Mr
open PySem L2 Lay Mn
theorem Fn.mono {P : Program} {w : World} {K : PySem.W.Frag} {mg : Str → Option Value} {base : Heap} {x : Str} {i j : Nat} {ps : List Str} {sp : Sp} (G : Fn P w K mg base x i ps sp) (h : i ≤ j) : Fn P w K mg base x j ps sp := by
  obtain ⟨f, fd, G, r⟩ := G.ex
  exact ⟨f, fd, G.mono h, r⟩
theorem ok_bar (bs : List Bar) (h : bs.length ≤ 10000) : SortOk eBar bs :=
  ⟨PySem.W.AllAlike.of fun _ _ => by simp [PySem.W.alike, PySem.W.alikeAll, eBar], PySem.W.Sortable.tuples fun _ => ⟨_, _, rfl⟩, h, fun b _ => by simp [eBar, PyData.depth, PyData.depthAll]⟩
/-- the bars of breaks -/
def barsM (bs : List Brk) : List Bar := srt eBar (bs.map barOf)
theorem barsM_perm (bs : List Brk) : (barsM bs).Perm (bs.map barOf) := srt_perm _ _
section
variable {P : Program} {w : World} {K : PySem.W.Frag} {mg : Str → Option Value} {base : Heap}
/-- what is asked of lasts, bars and a muster -/
structure In3 (ld md : PyData) (lasts : Lasts) (muster : List Man) : Prop where
  hl : items ld = some (lasts.map eO)
  ht : tupOf md = .tuple (muster.map eMan)
  hd : md.depth ≤ 3
  hs : short md = true
  lev : ∀ m ∈ muster, 0 ≤ m.1 ∧ m.1 ≤ lasts.length
  l1 : lasts.length ≤ 1000
  l3 : muster.length ≤ 1000
def rMost : List PyData → PyData → Prop := fun ds d => ∃ (ld md : PyData) (lasts : Lasts) (bars : List Bar) (muster : List Man), ds = [ld, .tuple (bars.map eBar), md] ∧ In3 ld md lasts muster ∧ bars.length ≤ 1000 ∧ d = eNat (mostSaved lasts bars muster)
theorem rescue_len (lasts : Lasts) (bars : List Bar) (muster : List Man) : (rescueM lasts bars muster).length = muster.length := by
  unfold rescueM
  have : ∀ (n : Nat) (L : List Nat) (g : List (Option Int)) (a : Int), (loop (levOf muster) (wantS lasts bars muster) n L g a).length = g.length := by
    intro n
    induction n with
    | zero => intro L g a; rfl
    | succ n ih =>
      intro L g a
      unfold loop
      split
      · rfl
      · rw [ih, List.length_set]
  rw [this, List.length_replicate]
theorem fn_most (k : Nat) (F : Df K mg "most_saved" s_most_saved ["lasts", "bars", "muster"]) (G : Fn P w K mg base "rescue" k ["lasts", "bars", "muster"] (spD rRescue)) (ml : mg "len" = none) : Fn P w K mg base "most_saved" (k + 1) ["lasts", "bars", "muster"] (spD rMost) := by
  obtain ⟨f, fd, F, hm, hb⟩ := F
  refine fn_data F sc_most_saved hm hb (fun ds d h => ?_) (fun X C vs ds d B H D eB ra hR q _ => ?_)
  · obtain ⟨_, _, _, _, _, rfl, _⟩ := h
    rfl
  · obtain ⟨ld, md, lasts, bars, muster, rfl, I, l2, rfl⟩ := hR
    obtain ⟨v1, v2, v3, rfl, r1, r2, r3⟩ := ra.three
    refine ws_ret ((ev_callB C (c_len C (items_list _)) (ea_cons (ev_lc C (xs := rescueM lasts bars muster) (enc := eO) [("slot", 3)] (ei_tup C (ev_call C G (ea_cons (C.nm 0 rfl r1) (ea_cons (C.nm 1 rfl r2) (ea_cons (C.nm 2 rfl r3) ea_nil)))
      ⟨ld, md, lasts, bars, muster, rfl, I.hl, I.ht, I.hd, I.hs, I.lev, I.l1, l2, I.l3, rfl⟩)) (fun o => o.isSome) eO (by rw [rescue_len]; have := I.l3; omega) fun o ho B1 H1 v e1 e2 rv => ?_) ea_nil) ml).is ?_) eB q
    · refine turn_name (C.blk _) 3 (by decide) (es_one ((et_cmp o_notN ((C.blk _).nm 3 rfl rv) ev_non).is ?_)) fun _ => (C.blk _).nm 3 rfl rv
      rw [isNone_O, Bool.not_not]
    · rw [List.length_map]
      rfl
def rAllSaved : List PyData → PyData → Prop := fun ds d => ∃ (ld md : PyData) (lasts : Lasts) (bars : List Bar) (muster : List Man), ds = [ld, .tuple (bars.map eBar), md] ∧ In3 ld md lasts muster ∧ bars.length ≤ 1000 ∧ d = .bool (allSaved lasts bars muster)
theorem fn_allSaved (k : Nat) (F : Df K mg "all_saved" s_all_saved ["lasts", "bars", "muster"]) (G : Fn P w K mg base "rescue" k ["lasts", "bars", "muster"] (spD rRescue)) : Fn P w K mg base "all_saved" (k + 1) ["lasts", "bars", "muster"] (spD rAllSaved) := by
  obtain ⟨f, fd, F, hm, hb⟩ := F
  refine fn_data F sc_all_saved hm hb (fun ds d h => ?_) (fun X C vs ds d B H D eB ra hR q _ => ?_)
  · obtain ⟨_, _, _, _, _, rfl, _⟩ := h
    rfl
  · obtain ⟨ld, md, lasts, bars, muster, rfl, I, l2, rfl⟩ := hR
    obtain ⟨v1, v2, v3, rfl, r1, r2, r3⟩ := ra.three
    refine ws_ret ((ev_cmp (o_notInU C (fl_non 0).flat (fl_tup (n := 0) (fl_map fun x => fl_O 0 x)).flat) ev_non (ev_call C G (ea_cons (C.nm 0 rfl r1) (ea_cons (C.nm 1 rfl r2) (ea_cons (C.nm 2 rfl r3) ea_nil)))
      ⟨ld, md, lasts, bars, muster, rfl, I.hl, I.ht, I.hd, I.hs, I.lev, I.l1, l2, I.l3, rfl⟩)).is ?_) eB q
    congr 1
    unfold allSaved
    rw [List.any_map]
    generalize rescueM lasts bars muster = r
    induction r with
    | nil => rfl
    | cons o r ih =>
      rw [List.any_cons, List.all_cons, Bool.not_or, ih]
      cases o <;> simp [eO, PyData.eqv]
def rBars : List PyData → PyData → Prop := fun ds d => ∃ bs : List Brk, ds = [.tuple (bs.map eBrk)] ∧ bs.length ≤ 1000 ∧ d = .tuple ((barsM bs).map eBar)
theorem fn_bars (k : Nat) (hk : 1 ≤ k) (F : Df K mg "bars_of" s_bars_of ["breaks"]) (G : Fn P w K mg base "stride_of" 1 ["platform"] (spD rStride)) (mma : mg "max" = none) (mt : mg "tuple" = none) (ms : mg "sorted" = none) : Fn P w K mg base "bars_of" (k + 1) ["breaks"] (spD rBars) := by
  obtain ⟨f, fd, F, hm, hb⟩ := F
  refine fn_data F sc_bars_of hm hb (fun ds d h => ?_) (fun X C vs ds d B H D eB ra hR q _ => ?_)
  · obtain ⟨_, rfl, _⟩ := h
    rfl
  · obtain ⟨bs, rfl, l1, rfl⟩ := hR
    obtain ⟨v1, rfl, r1⟩ := RpAll.one' ra
    refine ws_setLc C 1 (xs := bs) (enc := eBrk) [("platform", 2), ("since", 3)] (ei_tup C (C.nm 0 rfl r1)) (fun _ => true) (fun b => eBar (barOf b)) (by omega) (fun b hb B1 H1 v e1 e2 rv => ?_) eB fun v B1 H1 n1 r2 => ?_
    · refine turn_two (C.blk _) 2 3 rv e2 (by decide) (by decide) fun y1 y2 ry1 ry2 => ⟨es_nil, fun _ => ?_⟩
      exact ev_tup (ea_cons (ev_call (C.blk _) G (ea_cons ((C.blk _).nm 2 rfl ry1) ea_nil) ⟨b.1, rfl, rfl⟩) (ea_cons (ev_bin (o_mod (by decide)) (ev_ix (j := 1) ((C.blk _).nm 2 rfl ry1) ev_int rfl rfl rfl) ev_int)
        (ea_cons (ev_callB (C.blk _) (c_max2 (C.blk _)) (ea_cons (ev_bin o_sub ((C.blk _).nm 3 rfl ry2) ev_int) (ea_cons ev_int ea_nil)) mma) ea_nil)))
    · rw [List.filter_eq_self.mpr fun _ _ => rfl] at r2
      have e : bs.map (fun b => eBar (barOf b)) = (bs.map barOf).map eBar := by rw [List.map_map]; rfl
      rw [e] at r2
      exact ws_ret (ev_callTy C (c_tuple C) (ea_cons (ev_callB C (c_sortedL C (ok_bar _ (by rw [List.length_map]; omega))) (ea_cons (C.nm 1 rfl r2) ea_nil) ms) ea_nil) mt) n1.bh fun v B2 H2 n2 r => q v B2 H2 (n1.trans n2) r
end
end Mr
end

section
set_option Elab.async false
set_option linter.all false
set_option maxRecDepth 100000
set_option maxHeartbeats 1000000
namespace Mr
open PySem L2 Lay Mn
/-! ### dict cells that stand for tables -/
inductive GR {α : Type} (B : Hp) (enc : α → PyData) : List (Key × V) → Tb α → Prop
  | nil : GR B enc [] []
  | cons {n : Int} {v : V} {a : α} {kvs : List (Key × V)} {l : Tb α} : Rp B v (enc a) → GR B enc kvs l → GR B enc ((.inl n, v) :: kvs) ((n, a) :: l)
section
variable {α : Type} {B B' : Hp} {enc : α → PyData} {kvs : List (Key × V)} {l : Tb α} {g : Addr} {o : HO}
theorem GR.up (r : GR B enc kvs l) (e : Ex B B') : GR B' enc kvs l := by
  induction r with
  | nil => exact .nil
  | cons h t ih => exact .cons (h.up e) ih
theorem GR.drop (r : GR B enc kvs l) (hg : B g = some o) (ho : Dic o := by trivial) : GR (hole B g) enc kvs l := by
  induction r with
  | nil => exact .nil
  | cons h t ih => exact .cons (h.drop hg ho) ih
theorem GR.len (r : GR B enc kvs l) : kvs.length = l.length := by
  induction r with
  | nil => rfl
  | cons h t ih => rw [List.length_cons, List.length_cons, ih]
theorem GR.keys (r : GR B enc kvs l) : kvs.map (·.1) = (l.map (·.1)).map Sum.inl := by
  induction r with
  | nil => rfl
  | cons h t ih => rw [List.map_cons, List.map_cons, List.map_cons, ih]
theorem GR.emp (r : GR B enc kvs l) : kvs.isEmpty = l.isEmpty := by cases r <;> rfl
theorem gtA_cons (p : Int × α) (l : Tb α) (n : Int) : gtA (p :: l) n = if p.1 = n then some p.2 else gtA l n := by
  unfold gtA
  rw [List.find?_cons]
  by_cases q : p.1 = n
  · simp [q]
  · simp [q]
theorem valV_cons (p : Key × V) (l : List (Key × V)) (n : Key) : valV (p :: l) n = if p.1 = n then some p.2 else valV l n := by
  by_cases q : p.1 = n
  · rw [valV_pos q, if_pos q]
  · rw [valV_neg q, if_neg q]
theorem GR.val (r : GR B enc kvs l) (n : Int) : (valV kvs (.inl n) = none ∧ gtA l n = none) ∨ ∃ v a, valV kvs (.inl n) = some v ∧ gtA l n = some a ∧ Rp B v (enc a) := by
  induction r with
  | nil => exact .inl ⟨rfl, rfl⟩
  | @cons m v a kvs l h t ih =>
    rw [valV_cons, gtA_cons]
    by_cases e : m = n
    · rw [if_pos (by rw [e]), if_pos e]
      exact .inr ⟨v, a, rfl, rfl, h⟩
    · rw [if_neg (fun z => e (Sum.inl.inj z)), if_neg e]
      exact ih
theorem GR.isSome (r : GR B enc kvs l) (n : Int) : (valV kvs (.inl n)).isSome = (gtA l n).isSome := by
  rcases r.val n with ⟨h1, h2⟩ | ⟨v, a, h1, h2, _⟩ <;> rw [h1, h2] <;> rfl
theorem GR.any (r : GR B enc kvs l) (n : Int) : (kvs.any fun kv => decide (kv.1 = Sum.inl n)) = l.any fun p => decide (p.1 = n) := by
  induction r with
  | nil => rfl
  | @cons m v a kvs l h t ih =>
    rw [List.any_cons, List.any_cons, ih]
    simp
theorem GR.repl (r : GR B enc kvs l) (n : Int) {v : V} {a : α} (h : Rp B v (enc a)) : GR B enc (kvs.map fun kv => if kv.1 = Sum.inl n then (kv.1, v) else kv) (l.map fun p => if p.1 = n then (p.1, a) else p) := by
  induction r with
  | nil => exact .nil
  | @cons m v' a' kvs l h' t ih =>
    rw [List.map_cons, List.map_cons]
    by_cases e : m = n
    · rw [if_pos (by rw [e]), if_pos e]
      exact .cons h ih
    · rw [if_neg (fun z => e (Sum.inl.inj z)), if_neg e]
      exact .cons h' ih
theorem GR.snoc (r : GR B enc kvs l) (n : Int) {v : V} {a : α} (h : Rp B v (enc a)) : GR B enc (kvs ++ [(.inl n, v)]) (l ++ [(n, a)]) := by
  induction r with
  | nil => exact .cons h .nil
  | cons h' t ih => exact .cons h' ih
theorem GR.put (r : GR B enc kvs l) (n : Int) {v : V} {a : α} (h : Rp B v (enc a)) : GR B enc (putK kvs (.inl n) v) (ptA l n a) := by
  unfold putK ptA
  rw [r.any]
  split
  · exact r.repl n h
  · exact r.snoc n h
end
end Mr
end

section
set_option Elab.async false
set_option linter.all false
set_option maxRecDepth 100000
set_option maxHeartbeats 4000000
namespace Mr
open PySem L2 Lay Mn
theorem eqv_Pl (p q : Plat) : PyData.eqv (ePl p) (ePl q) = decide (p = q) := by
  obtain ⟨a, b⟩ := p
  obtain ⟨c, d⟩ := q
  simp only [ePl, PyData.eqv, PyData.eqvAll, Bool.and_true, Prod.mk.injEq]
  rw [Bool.beq_eq_decide_eq, Bool.beq_eq_decide_eq]
  by_cases h1 : a = c <;> by_cases h2 : b = d <;> simp [h1, h2]
theorem _root_.Lay.Ei.is {ι : Type} {X : ι → Cx} {tg iter : Expr} {σ : L2.St} {B : Hp} {ds es : List PyData} (h : Ei X tg iter σ B ds) (e : ds = es) : Ei X tg iter σ B es := by rw [← e]; exact h
theorem notIn_Pl (p : Plat) (l : List Plat) : (!(l.map ePl).any fun z => PyData.eqv z (ePl p)) = decide (p ∉ l) := by
  rw [List.any_map]
  induction l with
  | nil => simp
  | cons q l ih =>
    rw [List.any_cons, Bool.not_or, ih]
    simp only [Function.comp, eqv_Pl, List.mem_cons, not_or]
    by_cases e : q = p
    · subst e; simp
    · have e' : ¬ p = q := fun z => e z.symm
      simp only [e, e', decide_false, Bool.not_false, Bool.true_and, not_false_eq_true, true_and]
def ePls (ps : List Plat) : PyData := .tuple (ps.map ePl)
/-- what a platform more costs -/
def costs (lasts : Lasts) (bs : List Brk) (muster : List Man) (since : Int) (p : Plat) : Int := (mostSaved lasts (barsM bs) muster : Int) - (mostSaved lasts (barsM (bs ++ [(p, since)])) muster : Int)
def worstD (lasts : Lasts) (bs : List Brk) (muster : List Man) (since : Int) : Int × List Plat :=
  worstT (grpT (costs lasts bs muster since) ((platsOf lasts.length).filter fun p => decide (p ∉ bs.map (·.1))))
def eWorst (z : Int × List Plat) : PyData := .tuple [.int z.1, ePls z.2]
theorem take_filter {α : Type} {ps : List α} {i : Nat} {p : α} (c : α → Bool) (h : ps[i]? = some p) : (ps.take (i + 1)).filter c = (ps.take i).filter c ++ (if c p = true then [p] else []) := by
  rw [List.take_succ, h, List.filter_append]
  show _ ++ List.filter c [p] = _
  rw [List.filter_cons]
  rfl
def gpT (lasts : Lasts) (bs : List Brk) (muster : List Man) (since : Int) (i : Nat) : Tb (List Plat) := grpT (costs lasts bs muster since) (((platsOf lasts.length).take i).filter fun p => decide (p ∉ bs.map (·.1)))
theorem plats_len (n : Nat) : (platsOf n).length = 2 * n := by
  unfold platsOf
  rw [List.length_append, List.length_map, List.length_map, List.length_range]
  omega
section
variable {lasts : Lasts} {bs : List Brk} {muster : List Man} {since : Int} {i : Nat} {p : Plat}
theorem gpT_cut : (((platsOf lasts.length).take i).filter fun p => decide (p ∉ bs.map (·.1))).length ≤ 2 * lasts.length := by
  refine Nat.le_trans (List.length_filter_le _ _) ?_
  rw [List.length_take, plats_len]
  omega
theorem gpT_len : (gpT lasts bs muster since i).length ≤ 2 * lasts.length := by
  refine Nat.le_trans (grp_len _ _ _) ?_
  rw [List.length_nil, Nat.zero_add]
  exact gpT_cut
theorem gpT_small (n : Int) : ((gtA (gpT lasts bs muster since i) n).getD []).length ≤ 2 * lasts.length := by
  cases e : gtA (gpT lasts bs muster since i) n with
  | none => exact Nat.zero_le _
  | some a =>
    have h1 := grp_small (costs lasts bs muster since) _ [] 0 (fun q hq => absurd hq List.not_mem_nil) _ (gtA_mem e)
    have h2 := gpT_cut (lasts := lasts) (bs := bs) (i := i)
    simp only [Option.getD_some]
    have h1 : a.length ≤ 0 + (((platsOf lasts.length).take i).filter fun p => decide (p ∉ bs.map (·.1))).length := h1
    omega
theorem gpT_in (h : (platsOf lasts.length)[i]? = some p) (hy : p ∉ bs.map (·.1)) : gpT lasts bs muster since (i + 1) = ptA (gpT lasts bs muster since i) (costs lasts bs muster since p) ((gtA (gpT lasts bs muster since i) (costs lasts bs muster since p)).getD [] ++ [p]) := by
  unfold gpT
  rw [take_filter _ h, if_pos (decide_eq_true hy), grp_append]
  rfl
theorem gpT_out (h : (platsOf lasts.length)[i]? = some p) (hy : decide (p ∉ bs.map (·.1)) = false) : gpT lasts bs muster since (i + 1) = gpT lasts bs muster since i := by
  unfold gpT
  rw [take_filter _ h, hy, if_neg Bool.false_ne_true, List.append_nil]
theorem gpT_end : worstT (gpT lasts bs muster since ((platsOf lasts.length).map ePl).length) = worstD lasts bs muster since := by
  unfold gpT worstD
  rw [List.length_map, List.take_length]
end
section
variable {P : Program} {w : World} {K : PySem.W.Frag} {mg : Str → Option Value} {base : Heap}
def rWorst : List PyData → PyData → Prop := fun ds d => ∃ (ld bd md : PyData) (lasts : Lasts) (bs : List Brk) (muster : List Man) (since : Int), ds = [ld, bd, md, .int since] ∧ In3 ld md lasts muster ∧
  tupOf bd = .tuple (bs.map eBrk) ∧ bd.depth ≤ 3 ∧ short bd = true ∧ bs.length ≤ 900 ∧ d = eWorst (worstD lasts bs muster since)
theorem fn_worst (k : Nat) (hk : 6 ≤ k) (F : Df K mg "worst_platforms" s_worst_platforms ["lasts", "breaks", "muster", "since"]) (GT : Fn P w K mg base "tuple_of" 4 ["thing"] (spD (rTup 3))) (GM : Fn P w K mg base "most_saved" k ["lasts", "bars", "muster"] (spD rMost))
    (GB : Fn P w K mg base "bars_of" k ["breaks"] (spD rBars)) (ml : mg "len" = none) (mr : mg "range" = none) (mma : mg "max" = none) :
    Fn P w K mg base "worst_platforms" (k + 1) ["lasts", "breaks", "muster", "since"] (spD rWorst) := by
  obtain ⟨f, fd, F, hm, hb⟩ := F
  refine fn_data F sc_worst_platforms hm hb (fun ds d h => ?_) (fun X C vs ds d B H D eB ra hR q _ => ?_)
  · obtain ⟨_, _, _, _, _, _, _, rfl, _⟩ := h
    rfl
  · obtain ⟨ld, bd, md, lasts, bs, muster, since, rfl, I, ht, hd, hs, lb, rfl⟩ := hR
    obtain ⟨v1, v2, v3, v4, rfl, r1, r2, r3, r4⟩ := RpAll.four ra
    cases r4
    have l1 := I.l1
    -- own, deep = tuple_of(breaks), len(lasts)
    refine ws_par C 4 5 (wa_cons ((ev_call C GT (ea_cons (C.nm 1 rfl r2) ea_nil) ⟨bd, rfl, hd, hs, rfl⟩).use eB fun vo B1 H1 n1 ro => wa_cons ((ev_callB C (c_len C I.hl) (ea_cons (C.nm 0 rfl (r1.up n1.bb)) ea_nil) ml).use n1.bh fun va B2 H2 n2 rd => wa_nil ⟨_, _, rfl, ?_⟩))) (hw := C.swap (by rfl))
    rw [ht] at ro
    cases rd
    rw [List.length_map]
    have ro := ro.up n2.bb
    have nA := n1.trans n2
    -- most, found = most_saved(lasts, bars_of(own), muster), {}
    refine ws_par C 6 7 (wa_cons ((ev_call C GM (ea_cons (C.nm 0 rfl (r1.up nA.bb)) (ea_cons (ev_call C GB (ea_cons (C.nm 4 rfl ro) ea_nil) ⟨bs, rfl, by omega, rfl⟩) (ea_cons (C.nm 2 rfl (r3.up nA.bb)) ea_nil)))
      ⟨ld, md, lasts, barsM bs, muster, rfl, I, by rw [(barsM_perm bs).length_eq, List.length_map]; omega, rfl⟩).use nA.bh fun vm B3 H3 n3 rm => wa_cons (en_dk fun g hg => wa_nil ⟨_, _, rfl, ?_⟩))) (hw := C.swap (by rfl))
    cases rm
    have nB := nA.trans n3
    have bg : B3 g = none := nB.bh.free hg
    have Hg : H g = none := nB.hh.free hg
    have xg : Ex H3 (upd H3 g (.dK [])) := Ex.new hg
    have nC : Nw B H B3 (upd H3 g (.dK [])) := Nw.exh nB xg
    -- broken = [platform for platform, _ in own]
    refine ws_setLc C 9 (xs := bs) (enc := eBrk) [("platform", 8), ("_", 11)] (ei_tup C (C.nm 4 rfl (ro.up n3.bb))) (fun _ => true) (fun b => ePl b.1) (by omega) (fun b hb B4 H4 v e1 e2 rv => ?_) nC.bh fun vb B4 H4 n4 rb => ?_
    · exact turn_two (C.blk _) 8 11 rv e2 (by decide) (by decide) fun y1 y2 ry1 ry2 => ⟨es_nil, fun _ => (C.blk _).nm 8 rfl ry1⟩
    rw [List.filter_eq_self.mpr fun _ _ => rfl, show bs.map (fun b => ePl b.1) = (bs.map (·.1)).map ePl by rw [List.map_map]; rfl] at rb
    have nD := nC.trans n4
    have c4 := n4.cell (c := g) upd_same bg
    -- for platform in ..
    have eP : ((List.range lasts.length).filter fun _ => true).map (fun i => PyData.tuple [.int 0, eNat i]) ++ ((List.range lasts.length).filter fun _ => true).map (fun i : Nat => PyData.tuple [.int 1, .int (1 + (i : Int))]) = (platsOf lasts.length).map ePl := by
      rw [List.filter_eq_self.mpr fun _ _ => rfl]
      unfold platsOf
      rw [List.map_append, List.map_map, List.map_map]
      rfl
    refine ws_for C (ds := (platsOf lasts.length).map ePl) (ei_list C (Ev.is (ev_bin (o_catL ?_) (ev_lc C (xs := List.range lasts.length) (enc := eNat) [("level", 12)] (Ei.is (ei_range1 C (C.nm 5 rfl (.int (lasts.length : Nat))) mr (by omega)) (by rw [Int.toNat_natCast, rngD0])) (fun _ => true) (fun i => .tuple [.int 0, eNat i]) (by rw [List.length_range]; omega) fun i hi B5 H5 v e1 e2 rv => ?_)
      (ev_lc C (xs := List.range lasts.length) (enc := fun i => .int (1 + (i : Int))) [("level", 12)] (Ei.is (ei_range2 (lo := 1) (n := (lasts.length : Int) + 1) C ev_int (ev_bin o_add (C.nm 5 rfl (.int _)) ev_int) mr (by omega) (by omega)) (by rw [show ((lasts.length : Int) + 1 - 1).toNat = lasts.length by omega]; rfl)) (fun _ => true) (fun i => .tuple [.int 1, .int (1 + (i : Int))]) (by rw [List.length_range]; omega) fun i hi B5 H5 v e1 e2 rv => ?_)) (congrArg PyData.list eP))) nD.bh fun B5 H5 n5 => ?_
    · rw [List.length_map, List.length_map]
      have := List.length_filter_le (fun _ => true) (List.range lasts.length)
      rw [List.length_range] at this
      exact sz5 (by omega)
    · exact turn_name (C.blk _) 12 (by decide) es_nil fun _ => ev_tup (ea_cons ev_int (ea_cons ((C.blk _).nm 12 rfl rv) ea_nil))
    · exact turn_name (C.blk _) 12 (by decide) es_nil fun _ => ev_tup (ea_cons ev_int (ea_cons ((C.blk _).nm 12 rfl rv) ea_nil))
    have nE := nD.trans n5
    have c5 := n5.cell c4.1 c4.2
    have lp : (platsOf lasts.length).length ≤ 2000 := by
      unfold platsOf
      rw [List.length_append, List.length_map, List.length_map, List.length_range]
      omega
    refine ⟨fun i σ' H' => ∃ (kvs : List (Key × V)) (w8 w10 w11 w12 : Option V) (B' : Hp), σ' = [some v1, some v2, some v3, some (.int since), some vo, some (.int (lasts.length : Nat)), some (.int (mostSaved lasts (barsM bs) muster : Nat)), some (.ref g), w8, some vb, w10, w11, w12] ∧
      Nw B H B' H' ∧ Ex B5 B' ∧ B' g = none ∧ H' g = some (.dK kvs) ∧ GR B' ePls kvs (gpT lasts bs muster since i),
      ⟨[], _, _, _, _, B5, rfl, nE, Ex.refl _, c5.2, c5.1, .nil⟩, fun i d σ' H' hi ⟨kvs, w8, w10, w11, w12, B', e, n, n5', bg', hg', gr⟩ => ⟨B', n5', n.bh, fun v B6 H6 n6 rv => ?_⟩, fun i σ' H' ⟨_, _, _, _, _, _, _, n, n5', _⟩ => n5'.trans n.bh, fun σ' H' ⟨kvs, w8, w10, w11, w12, B', e, n, n5', bg', hg', gr⟩ => ?_⟩
    · subst e
      rw [List.getElem?_map] at hi
      obtain ⟨p, hp, rfl⟩ := Option.map_eq_some_iff.mp hi
      have c6 := n6.cell hg' bg'
      have m6 := (n.trans n6)
      have x56 : Ex B5 B6 := n5'.trans n6.bb
      have b6 : Ex B B6 := m6.bb
      have rb6 : Rp B6 vb (.list ((bs.map (·.1)).map ePl)) := (rb.up n5.bb).up x56
      have lg : (gpT lasts bs muster since i).length ≤ 2 * lasts.length := gpT_len
      refine wg_name C 8 ?_
      refine ws_if ((et_cmp (o_notInL C (fl_Pl p).flat (fl_list (n := 1) (fl_map fun x => fl_Pl x)).flat) (C.nm 8 rfl rv) (C.nm 9 rfl rb6)).is (notIn_Pl p _)) n6.bh (fun hy H7 x7 => ?_) (fun hy H7 x7 => ws_nil (ws_nil ?_))
      · have hy' := of_decide_eq_true hy
        have n7 := Nw.exh n6 x7
        have c7 := n7.cell hg' bg'
        -- fewer = most - most_saved(lasts, bars_of(own + ((platform, since),)), muster)
        refine ws_set C 10 (d := .int (costs lasts bs muster since p)) (ev_bin o_sub (C.nm 6 rfl (.int _)) (ev_call C GM (ea_cons (C.nm 0 rfl (r1.up b6)) (ea_cons (ev_call C GB (ea_cons (Ev.is (ev_bin (o_catT ?_) (C.nm 4 rfl (((ro.up n3.bb).up n4.bb).up (n5.bb.trans x56))) (ev_tup (ea_cons (ev_tup (ea_cons (C.nm 8 rfl rv) (ea_cons (C.nm 3 rfl (.int since)) ea_nil))) ea_nil))) (d1 := .tuple ((bs ++ [(p, since)]).map eBrk)) ?_) ea_nil) ⟨bs ++ [(p, since)], rfl, by rw [List.length_append, List.length_singleton]; omega, rfl⟩) (ea_cons (C.nm 2 rfl (r3.up b6)) ea_nil)))
          ⟨ld, md, lasts, barsM (bs ++ [(p, since)]), muster, rfl, I, by rw [(barsM_perm _).length_eq, List.length_map, List.length_append, List.length_singleton]; omega, rfl⟩)) n7.bh fun vf B8 H8 n8 rf => ?_
        · rw [List.length_map, List.length_singleton]
          exact sz5 (by omega)
        · rw [List.map_append]
          rfl
        cases rf
        have m8 := n7.trans n8
        have c8 := n8.cell c7.1 c7.2
        have gr8 := (gr.up n6.bb).up n8.bb
        -- found[fewer] = found.get(fewer, ()) + (platform,)
        have sm := gpT_small (lasts := lasts) (bs := bs) (muster := muster) (since := since) (i := i) (costs lasts bs muster since p)
        have eg : Ex B8 (upd B8 g (.dK kvs)) := Ex.new c8.2
        refine ws_dput C 7 (n := costs lasts bs muster since p) (d := ePls ((gtA (gpT lasts bs muster since i) (costs lasts bs muster since p)).getD [] ++ [p])) (Ev.is (ev_bin (o_catT ?_) (ev_dget2 C 7 rfl upd_same (C.nm 10 rfl (.int _)) (ev_tup ea_nil) (d := ePls ((gtA (gpT lasts bs muster since i) (costs lasts bs muster since p)).getD [])) (fun v hv => ?_) fun hv => ?_)
          (ev_tup (ea_cons (C.nm 8 rfl ((rv.up n8.bb).up eg)) ea_nil))) ?_) (C.nm 10 rfl (.int _)) n8.bh rfl c8.1 c8.2 (by rw [gr.len]; omega) fun v9 B9 H9 n9 b9 h9 r9 => ws_nil (ws_nil ?_)
        · rw [List.length_map, List.length_singleton]
          exact sz5 (by omega)
        · rcases gr8.val (costs lasts bs muster since p) with ⟨h1, _⟩ | ⟨v', a, h1, h2, h3⟩
          · rw [hv] at h1; cases h1
          · rw [hv] at h1
            cases h1
            rw [h2]
            exact h3.up eg
        · rcases gr8.val (costs lasts bs muster since p) with ⟨_, h2⟩ | ⟨v', a, h1, _⟩
          · rw [h2]; rfl
          · rw [hv] at h1; cases h1
        · unfold ePls
          rw [List.map_append]
          rfl
        · refine ⟨putK kvs (.inl (costs lasts bs muster since p)) v9, _, _, _, _, B9, rfl, (n.trans (m8.trans n9)).put Hg b9, ((x56.trans n8.bb).trans n9.bb), b9, upd_same, ?_⟩
          · rw [gpT_in hp hy']
            exact (gr8.up n9.bb).put _ r9
      · have c7 := (Nw.exh n6 x7).cell hg' bg'
        refine ⟨kvs, _, _, _, _, B6, rfl, n.trans (Nw.exh n6 x7), x56, c7.2, c7.1, ?_⟩
        rw [gpT_out hp hy]
        exact gr.up n6.bb
    · subst e
      -- return ..
      rw [List.length_map] at gr
      have e0 := gpT_end (lasts := lasts) (bs := bs) (muster := muster) (since := since)
      rw [List.length_map] at e0
      generalize hG : gpT lasts bs muster since (platsOf lasts.length).length = G at gr e0
      have m6 := n
      have eg : Ex B' (upd B' g (.dK kvs)) := Ex.new bg'
      have ea : Ex (upd B' g (.dK kvs)) H' := ex_take m6.bh hg'
      refine ws_ret (d := eWorst (worstD lasts bs muster since)) (ev_if (et_dne C 7 rfl upd_same) (fun hy => ?_) fun hy => ?_) ea fun v B6 H6 n6 r6 => ?_
      · rw [gr.emp, Bool.not_eq_true', List.isEmpty_eq_false_iff] at hy
        obtain ⟨m, ps, h1, h2, h3⟩ := worstT_max hy
        have h1' := List.max?_eq_some_iff.mp h1
        rw [← e0, h3]
        rcases gr.val m with ⟨_, h4⟩ | ⟨v', a, h4, h5, h6⟩
        · rw [h2] at h4; cases h4
        · rw [h2] at h5
          cases h5
          exact ev_tup (ea_cons (ev_maxD C 7 rfl upd_same gr.keys h1'.1 h1'.2 mma) (ea_cons (ev_dget C 7 rfl upd_same (ev_maxD C 7 rfl upd_same gr.keys h1'.1 h1'.2 mma) h4 (h6.up eg)) ea_nil))
      · rw [gr.emp, Bool.not_eq_false', List.isEmpty_iff] at hy
        rw [← e0, hy]
        exact ev_tup (ea_cons ev_int (ea_cons (ev_tup ea_nil) ea_nil))
      · obtain ⟨n7, b7, _, _⟩ := n6.drop bg'
        exact q v _ H6 (m6.trans n7) (r6.drop b7)
end
end Mr
end

section
set_option Elab.async false
set_option linter.all false
set_option maxRecDepth 100000
set_option maxHeartbeats 4000000
namespace Mr
open PySem L2 Lay Mn
/-- what a stroke needs -/
def needsM (level made : Int) (rises : Bool) : Plat :=
  if (made + (if rises then 1 else 0)) % 2 = 0 then ((made + (if rises then 1 else 0)) % 2, level - made % 2) else ((made + (if rises then 1 else 0)) % 2, level - (0 - made % 2))
def begM (bs : List Brk) (p : Plat) : List Int := (bs.filter fun b => decide (b.1 = p)).map (·.2)
/-- the way up, stroke by stroke: where it is stopped -/
def walkD (bs : List Brk) : Nat → Int → Int → PyData
  | 0, _, _ => .none
  | n + 1, level, made =>
    if (match begM bs (needsM level made true) with | [] => false | s :: _ => decide (s ≤ made)) = true then .tuple [.int made, .int level, .bool false]
    else if begM bs (needsM level made true) = [made + 1] then .tuple [.int (made + 1), .int (level - 1), .bool true]
    else walkD bs n (level - 1) (made + 1)
section
variable {P : Program} {w : World} {K : PySem.W.Frag} {mg : Str → Option Value} {base : Heap}
def rNeeds : List PyData → PyData → Prop := fun ds d => ∃ (d0 : PyData) (level made : Int) (rises : Bool), ds = [d0, .int level, .int made, .bool rises] ∧ d = ePl (needsM level made rises)
theorem fn_needs (k : Nat) (F : Df K mg "_law_needs" s__law_needs ["_law_deep", "_law_level", "_law_made", "_law_rises"]) (mi : mg "int" = none) : Fn P w K mg base "_law_needs" (k + 1) ["_law_deep", "_law_level", "_law_made", "_law_rises"] (spD rNeeds) := by
  obtain ⟨f, fd, F, hm, hb⟩ := F
  refine fn_data F sc__law_needs hm hb (fun ds d h => ?_) (fun X C vs ds d B H D eB ra hR q _ => ?_)
  · obtain ⟨_, _, _, _, rfl, _⟩ := h
    rfl
  · obtain ⟨d0, level, made, rises, rfl, rfl⟩ := hR
    obtain ⟨v1, v2, v3, v4, rfl, r1, r2, r3, r4⟩ := RpAll.four ra
    cases r2; cases r3; cases r4
    refine ws_set C 4 (d := .int ((made + (if rises then 1 else 0)) % 2)) (ev_bin (o_mod (by decide)) (ev_callTy C c_int (ea_cons (ev_bin o_add (C.nm 2 rfl (.int made)) (d2 := .int (if rises then 1 else 0)) (ev_if (et_val (C.nm 3 rfl (.bl rises))) (fun h => ?_) fun h => ?_)) ea_nil) mi) ev_int) eB fun v B1 H1 n1 rr => ?_
    · rw [h]; exact ev_int
    · rw [h]; exact ev_int
    cases rr
    refine ws_set C 5 (d := .int (if (made + (if rises then 1 else 0)) % 2 = 0 then made % 2 else 0 - made % 2)) (ev_if (et_cmp o_eqI (C.nm 4 rfl (.int _)) ev_int) (fun h => ?_) fun h => ?_) n1.bh fun v B2 H2 n2 rl => ?_
    · rw [if_pos (of_decide_eq_true h)]
      exact ev_bin (o_mod (by decide)) (ev_callTy C c_int (ea_cons (C.nm 2 rfl (.int made)) ea_nil) mi) ev_int
    · rw [if_neg (of_decide_eq_false h)]
      exact ev_bin o_sub ev_int (ev_bin (o_mod (by decide)) (ev_callTy C c_int (ea_cons (C.nm 2 rfl (.int made)) ea_nil) mi) ev_int)
    cases rl
    refine ws_ret ((ev_tup (ea_cons (C.nm 4 rfl (.int _)) (ea_cons (ev_bin o_sub (C.nm 1 rfl (.int level)) (C.nm 5 rfl (.int _))) ea_nil))).is ?_) n2.bh fun v B3 H3 n3 r => q v B3 H3 ((n1.trans n2).trans n3) r
    unfold needsM ePl
    by_cases h : (made + (if rises then 1 else 0)) % 2 = 0
    · rw [if_pos h, if_pos h]
    · rw [if_neg h, if_neg h]
theorem eqv_I1 (l : List Int) (m : Int) : PyData.eqv (.list (l.map PyData.int)) (.list [.int m]) = decide (l = [m]) := by
  cases l with
  | nil => simp [PyData.eqv, PyData.eqvAll]
  | cons a l =>
    cases l with
    | nil => simp only [List.map_cons, List.map_nil, PyData.eqv, PyData.eqvAll, Bool.and_true, List.cons.injEq, and_true]; rw [Bool.beq_eq_decide_eq]
    | cons b l => simp [PyData.eqv, PyData.eqvAll]
def rWalked : List PyData → PyData → Prop := fun ds d => ∃ (d0 : PyData) (bs : List Brk) (level board : Int) (z : PyData), ds = [d0, .tuple (bs.map eBrk), .tuple [.int level, .int 0, z], .int board] ∧ 1 ≤ level ∧ level ≤ 1000 ∧ bs.length ≤ 1000 ∧ d = walkD bs level.toNat level board
theorem fn_walked (k : Nat) (hk : 1 ≤ k) (F : Df K mg "_law_walked" s__law_walked ["_law_deep", "_law_breaks_here", "_law_ride", "_law_board"]) (G : Fn P w K mg base "_law_needs" 1 ["_law_deep", "_law_level", "_law_made", "_law_rises"] (spD rNeeds))
    (ma : mg "abs" = none) (mr : mg "range" = none) : Fn P w K mg base "_law_walked" (k + 1) ["_law_deep", "_law_breaks_here", "_law_ride", "_law_board"] (spD rWalked) := by
  obtain ⟨f, fd, F, hm, hb⟩ := F
  refine fn_data F sc__law_walked hm hb (fun ds d h => ?_) (fun X C vs ds d B H D eB ra hR q _ => ?_)
  · obtain ⟨_, _, _, _, _, rfl, _⟩ := h
    rfl
  · obtain ⟨d0, bs, level, board, z, rfl, l1, l2, lb, rfl⟩ := hR
    obtain ⟨v1, v2, v3, v4, rfl, r1, r2, r3, r4⟩ := RpAll.four ra
    cases r4
    generalize hW0 : walkD bs level.toNat level board = W0 at q
    -- level, made, rises = ride[0], board, ride[1] < ride[0]
    refine ws_par3 C 4 5 6 (wa_cons ((ev_ix (j := 0) (C.nm 2 rfl r3) ev_int rfl rfl rfl).use eB fun u1 B1 H1 n1 s1 => wa_cons ((C.nm 3 rfl (.int board)).use n1.bh fun u2 B2 H2 n2 s2 => wa_cons ((ev_cmp o_lt (ev_ix (j := 1) (C.nm 2 rfl ((r3.up n1.bb).up n2.bb)) ev_int rfl rfl rfl) (ev_ix (j := 0) (C.nm 2 rfl ((r3.up n1.bb).up n2.bb)) ev_int rfl rfl rfl)).use n2.bh fun u3 B3 H3 n3 s3 => wa_nil ⟨_, _, _, rfl, ?_⟩)))) (hw := C.swap (by rfl))
    cases s1; cases s2; cases s3
    have nA := (n1.trans n2).trans n3
    have r3' := r3.up nA.bb
    rw [show decide ((0 : Int) < level) = true from decide_eq_true (by omega)]
    -- for lap in range(abs(ride[0] - ride[1]))
    refine ws_for C (ds := rngD 0 level.toNat) (Ei.is (ei_range1 C (ev_callB C c_abs (ea_cons (ev_bin o_sub (ev_ix (j := 0) (C.nm 2 rfl r3') ev_int rfl rfl rfl) (ev_ix (j := 1) (C.nm 2 rfl r3') ev_int rfl rfl rfl)) ea_nil) ma) mr (by split <;> omega)) (by rw [if_neg (by omega), Int.sub_zero])) nA.bh fun B5 H5 n5 => ?_
    have lr : (rngD 0 level.toNat).length = level.toNat := by unfold rngD; rw [List.length_map, List.length_range]
    refine ⟨fun i σ' H' => ∃ (lv md : Int) (w7 w8 w9 w10 w11 : Option V) (B' : Hp), σ' = [some v1, some v2, some v3, some (.int board), some (.int lv), some (.int md), some (.bl true), w7, w8, w9, w10, w11] ∧ Nw B5 H5 B' H' ∧ walkD bs (level.toNat - i) lv md = W0,
      ⟨level, board, _, _, _, _, _, B5, rfl, Nw.refl n5.bh, hW0⟩, fun i d σ' H' hi ⟨lv, md, w7, w8, w9, w10, w11, B', e, n, hw⟩ => ⟨B', n.bb, n.bh, fun v B6 H6 n6 rv => ?_⟩, fun i σ' H' ⟨_, _, _, _, _, _, _, _, _, n, _⟩ => n.bb.trans n.bh, fun σ' H' ⟨lv, md, w7, w8, w9, w10, w11, B', e, n, hw⟩ => ?_⟩
    · subst e
      have hlt : i < level.toNat := by
        have := (List.getElem?_eq_some_iff.mp hi).1
        rwa [lr] at this
      have m6 := nA.trans (n5.trans (n.trans n6))
      have b6 := m6.bb
      refine wg_name C 7 ?_
      -- own = needs(..)
      refine ws_set C 8 (ev_call C G (ea_cons (C.nm 0 rfl (r1.up b6)) (ea_cons (C.nm 4 rfl (.int lv)) (ea_cons (C.nm 5 rfl (.int md)) (ea_cons (C.nm 6 rfl (.bl true)) ea_nil)))) ⟨d0, lv, md, true, rfl, rfl⟩) n6.bh fun vo B7 H7 n7 ro => ?_
      have m7 := m6.trans n7
      -- begins = [since for spot, since in breaks if spot == own]
      refine ws_setLc C 9 (xs := bs) (enc := eBrk) [("_law_spot", 10), ("_law_since", 11)] (ei_tup C (C.nm 1 rfl (r2.up m7.bb))) (fun b => decide (b.1 = needsM lv md true)) (fun b => .int b.2) (by omega) (fun b hb B8 H8 v e1 e2 rv => ?_) n7.bh fun vb B8 H8 n8 rb => ?_
      · exact turn_two (C.blk _) 10 11 rv e2 (by decide) (by decide) fun y1 y2 ry1 ry2 => ⟨es_one ((et_cmp (o_eqD (C.blk _) (fl_Pl _).flat (fl_Pl _).flat) ((C.blk _).nm 10 rfl ry1) ((C.blk _).nm 8 rfl (ro.up e1))).is (eqv_Pl _ _)), fun _ => (C.blk _).nm 11 rfl ry2⟩
      have m8 := m7.trans n8
      rw [show (bs.filter fun b => decide (b.1 = needsM lv md true)).map (fun b => PyData.int b.2) = (begM bs (needsM lv md true)).map PyData.int by unfold begM; rw [List.map_map]; rfl] at rb
      have fl : Flat (.list ((begM bs (needsM lv md true)).map PyData.int)) := (fl_list (n := 0) (fl_map fun x => fl_int 0 x)).flat
      obtain ⟨n', hn⟩ : ∃ n', level.toNat - i = n' + 1 := ⟨level.toNat - (i + 1), by omega⟩
      have hn' : n' = level.toNat - (i + 1) := by omega
      rw [hn] at hw
      unfold walkD at hw
      -- if begins != [] and begins[0] <= made
      refine ws_ifN (y := (match begM bs (needsM lv md true) with | [] => false | s :: _ => decide (s ≤ md))) ((et_and2 (et_cmp (o_neD C fl (fl_list (n := 0) (by simp)).flat) (C.nm 9 rfl rb) (ev_lst ea_nil)) (y := (match begM bs (needsM lv md true) with | [] => false | s :: _ => decide (s ≤ md))) fun hy => ?_).is ?_) n8.bh (fun hy H9 x9 => ?_) fun hy H9 x9 => ?_
      · cases hbm : begM bs (needsM lv md true) with
        | nil => rw [hbm] at hy; simp [PyData.eqv, PyData.eqvAll] at hy
        | cons s r =>
          rw [hbm] at rb
          exact et_cmp o_le (ev_ix (j := 0) (C.nm 9 rfl rb) ev_int rfl rfl rfl) (C.nm 5 rfl (.int md))
      · rw [eqv_nilL]
        cases begM bs (needsM lv md true) <;> rfl
      · rw [if_pos hy] at hw
        rw [← hw] at q
        exact ws_ret (ev_tup (ea_cons (C.nm 5 rfl (.int md)) (ea_cons (C.nm 4 rfl (.int lv)) (ea_cons ev_bl ea_nil)))) (n8.bh.trans x9) fun v B9 H9 n9 r => q v B9 H9 ((Nw.exh m8 x9).trans n9) r
      · rw [if_neg (by rw [hy]; exact Bool.false_ne_true)] at hw
        have m9 := Nw.exh m8 x9
        -- made = made + 1
        refine ws_set C 5 (ev_bin o_add (C.nm 5 rfl (.int md)) ev_int) m9.bh fun vm B10 H10 n10 rm => ?_
        cases rm
        refine ws_set C 4 (d := .int (lv - 1)) (ev_if (et_val (C.nm 6 rfl (.bl true))) (fun _ => ev_bin o_sub (C.nm 4 rfl (.int lv)) ev_int) fun h => absurd h (by decide)) n10.bh fun vl B11 H11 n11 rl => ?_
        cases rl
        have m11 := (m9.trans n10).trans n11
        refine ws_ifN ((et_cmp (o_eqD C fl (fl_list (n := 0) (by intro d hd; rw [List.mem_singleton.mp hd]; exact fl_int 0 _)).flat) (C.nm 9 rfl ((rb.up n10.bb).up n11.bb)) (ev_lst (ea_cons (C.nm 5 rfl (.int (md + 1))) ea_nil))).is (eqv_I1 _ _)) n11.bh (fun hy2 H12 x12 => ?_) fun hy2 H12 x12 => ws_nil ?_
        · rw [if_pos (of_decide_eq_true hy2)] at hw
          rw [← hw] at q
          exact ws_ret (ev_tup (ea_cons (C.nm 5 rfl (.int (md + 1))) (ea_cons (C.nm 4 rfl (.int (lv - 1))) (ea_cons ev_bl ea_nil)))) (n11.bh.trans x12) fun v B9 H9 n9 r => q v B9 H9 ((Nw.exh m11 x12).trans n9) r
        · rw [if_neg (of_decide_eq_false hy2)] at hw
          refine ⟨lv - 1, md + 1, _, _, _, _, _, B11, rfl, Nw.exh ((((n.trans n6).trans n7).trans ((Nw.exh n8 x9).trans n10)).trans n11) x12, ?_⟩
          rw [← hn']
          exact hw
    · subst e
      rw [lr, Nat.sub_self] at hw
      have hw : PyData.none = W0 := hw
      rw [← hw] at q
      exact ws_ret ev_non n.bh fun v B6 H6 n6 r => q v B6 H6 ((nA.trans (n5.trans n)).trans n6) r
end
end Mr
end

section
set_option Elab.async false
set_option linter.all false
set_option maxRecDepth 100000
set_option maxHeartbeats 4000000
namespace Mr
open PySem L2 Lay Mn
def E0h : Hp := fun _ => none
theorem E0h.ex (H : Hp) : Ex E0h H := fun _ _ h => by cases h
/-- all stays but two cells -/
def Cw (g1 g2 : Addr) (H H' : Hp) : Prop := ∀ a o, a ≠ g1 → a ≠ g2 → H a = some o → H' a = some o
theorem Cw.refl (g1 g2 : Addr) (H : Hp) : Cw g1 g2 H H := fun _ _ _ _ h => h
theorem Cw.trans {g1 g2 : Addr} {H H1 H2 : Hp} (a : Cw g1 g2 H H1) (b : Cw g1 g2 H1 H2) : Cw g1 g2 H H2 := fun c o h1 h2 h => b c o h1 h2 (a c o h1 h2 h)
theorem Cw.of {g1 g2 : Addr} {H H1 : Hp} (e : Ex H H1) : Cw g1 g2 H H1 := fun c o _ _ h => e c o h
theorem Cw.up1 {g1 g2 : Addr} {H : Hp} {o : HO} : Cw g1 g2 H (upd H g1 o) := fun c u h1 _ h => by rw [upd_ne h1]; exact h
theorem Cw.up2 {g1 g2 : Addr} {H : Hp} {o : HO} : Cw g1 g2 H (upd H g2 o) := fun c u _ h2 h => by rw [upd_ne h2]; exact h
theorem Cw.base {g1 g2 : Addr} {B H H1 : Hp} (c : Cw g1 g2 H H1) (e : Ex B H) (h1 : B g1 = none) (h2 : B g2 = none) : Ex B H1 := fun a o h => c a o (fun z => by rw [z, h1] at h; cases h) (fun z => by rw [z, h2] at h; cases h) (e a o h)
def eInts (l : List Int) : PyData := .list (l.map PyData.int)
def gf (goods : List (List Int)) (m : Nat) : List Int := goods.getD m []
def eU : Unit → PyData := fun _ => .bool true
def tS (S : List Int) : Tb Unit := S.map fun s => (s, ())
theorem gtA_held (h : Held) (s : Int) : gtA (α := Nat) h s = get h s := rfl
theorem ptA_held (h : Held) (s : Int) (m : Nat) : ptA (α := Nat) h s m = put h s m := rfl
theorem gtA_tS (S : List Int) (s : Int) : (gtA (tS S) s).isSome = decide (s ∈ S) := by
  induction S with
  | nil => rfl
  | cons t S ih =>
    show (gtA ((t, ()) :: tS S) s).isSome = _
    rw [gtA_cons]
    by_cases e : t = s
    · rw [if_pos e]; subst e; simp
    · rw [if_neg e, ih]
      have e' : ¬ s = t := fun z => e z.symm
      simp [e']
theorem ptA_tS (S : List Int) (s : Int) (h : s ∉ S) : ptA (tS S) s () = tS (S ++ [s]) := by
  unfold ptA
  rw [if_neg]
  · unfold tS; rw [List.map_append]; rfl
  · intro z
    rw [List.any_eq_true] at z
    obtain ⟨q, hq, e⟩ := z
    unfold tS at hq
    obtain ⟨t, ht, rfl⟩ := List.mem_map.mp hq
    exact h (by rw [← of_decide_eq_true e]; exact ht)
structure TrOk (goods : List (List Int)) (h : Held) (S : List Int) : Prop where
  kd : (h.map (·.1)).Nodup
  men : ∀ s m, (s, m) ∈ h → m < goods.length ∧ 0 ≤ s ∧ s < 100
  sd : S.Nodup
  sr : ∀ s ∈ S, 0 ≤ s ∧ s < 100
  gr : ∀ l ∈ goods, (∀ s ∈ l, 0 ≤ s ∧ s < 100) ∧ l.length ≤ 1000
  gl : goods.length ≤ 1000
theorem nd100 {l : List Int} (nd : l.Nodup) (h : ∀ s ∈ l, 0 ≤ s ∧ s < 100) : l.length ≤ 100 := by
  have h1 := len_le_of_inj (fun s : Int => s.toNat) (S := List.range 100) nd (fun s hs => by
    have := h s hs
    rw [List.mem_range]
    omega) fun x hx y hy e => by
    have h1 := h x hx
    have h2 := h y hy
    have e : x.toNat = y.toNat := e
    omega
  rw [List.length_range] at h1
  exact h1
theorem TrOk.hl {goods : List (List Int)} {h : Held} {S : List Int} (t : TrOk goods h S) : h.length ≤ 100 := by
  have := nd100 t.kd fun s hs => by
    obtain ⟨p, hp, rfl⟩ := List.mem_map.mp hs
    exact (t.men p.1 p.2 hp).2
  rwa [List.length_map] at this
theorem TrOk.sl {goods : List (List Int)} {h : Held} {S : List Int} (t : TrOk goods h S) : S.length ≤ 100 := nd100 t.sd t.sr
theorem gf_at {goods : List (List Int)} {m : Nat} (h : m < goods.length) : goods[m]? = some (gf goods m) := by
  unfold gf
  rw [List.getD_eq_getElem?_getD, List.getElem?_eq_getElem h]
  rfl
theorem gf_mem {goods : List (List Int)} {m : Nat} (h : m < goods.length) : gf goods m ∈ goods := List.mem_of_getElem? (gf_at h)
theorem gf_lt {goods : List (List Int)} {m : Nat} {s : Int} (h : s ∈ gf goods m) : m < goods.length := by
  rcases Nat.lt_or_ge m goods.length with z | z
  · exact z
  · unfold gf at h
    rw [List.getD_eq_getElem?_getD, List.getElem?_eq_none z] at h
    cases h
theorem TrOk.fails {goods : List (List Int)} {h : Held} {S S1 pre : List Int} (t : TrOk goods h S) (f : Fails (gf goods) pre h S S1) : TrOk goods h S1 :=
  ⟨t.kd, t.men, f.nd, fun s hs => by
    by_cases q : s ∈ S
    · exact t.sr s q
    · obtain ⟨m, e, _⟩ := f.closed s hs q
      exact (t.men s m (get_mem e)).2, t.gr, t.gl⟩
theorem TrOk.more {goods : List (List Int)} {h : Held} {S : List Int} {s : Int} (t : TrOk goods h S) (hs : s ∉ S) (r : 0 ≤ s ∧ s < 100) : TrOk goods h (S ++ [s]) :=
  ⟨t.kd, t.men, by rw [List.nodup_append]; exact ⟨t.sd, by simp, fun a ha b hb => by rw [List.mem_singleton.mp hb]; exact fun z => hs (z ▸ ha)⟩, fun x hx => by
    rcases List.mem_append.mp hx with z | z
    · exact t.sr x z
    · rw [List.mem_singleton.mp z]; exact r, t.gr, t.gl⟩
theorem TrOk.gets {goods : List (List Int)} {man : Nat} {h h' : Held} {S S' : List Int} (t : TrOk goods h S) (g : Gets (gf goods) man h S h' S') : TrOk goods h' [] :=
  ⟨g.keys, fun s m hm => by
    rcases g.valid s m hm with z | z
    · exact t.men s m z
    · exact ⟨gf_lt z, (t.gr _ (gf_mem (gf_lt z))).1 s z⟩, List.nodup_nil, fun s hs => absurd hs List.not_mem_nil, t.gr, t.gl⟩
/-- how many held slots have not been seen -/
def unseen (h : Held) (S : List Int) : Nat := (h.filter fun p => decide (p.1 ∉ S)).length
theorem unseen_sub {h : Held} {S S' : List Int} (sub : ∀ s ∈ S, s ∈ S') : unseen h S' ≤ unseen h S := by
  unfold unseen
  refine len_filter_imp fun p hp e => ?_
  rw [decide_eq_true_eq] at e ⊢
  exact fun z => e (sub _ z)
theorem unseen_lt {h : Held} {S : List Int} {s : Int} {m : Nat} (hg : get h s = some m) (hs : s ∉ S) : unseen h (S ++ [s]) < unseen h S := by
  have hm := get_mem hg
  have e : unseen h (S ++ [s]) = ((h.filter fun p => decide (p.1 ∉ S)).filter fun p => decide (p.1 ≠ s)).length := by
    unfold unseen
    rw [List.filter_filter]
    congr 1
    refine List.filter_congr fun p _ => ?_
    by_cases h1 : p.1 ∈ S <;> by_cases h2 : p.1 = s <;> simp [h1, h2]
  rw [e]
  unfold unseen
  rw [List.length_filter_lt_length_iff_exists]
  exact ⟨(s, m), List.mem_filter.mpr ⟨hm, by simpa using hs⟩, by simp⟩
section
variable {P : Program} {w : World} {K : PySem.W.Frag} {mg : Str → Option Value} {base : Heap}
def spTries (n : Nat) : Sp := fun vs H Q _ => ∃ (B : Hp) (goods : List (List Int)) (man : Nat) (h : Held) (S : List Int) (kvh kvs : List (Key × V)) (gh gs : Addr) (vg : V),
  vs = [.int (man : Int), vg, .ref gh, .ref gs] ∧ Ex B H ∧ Rp B vg (.list (goods.map eInts)) ∧ H gh = some (.dK kvh) ∧ H gs = some (.dK kvs) ∧ B gh = none ∧ B gs = none ∧ gh ≠ gs ∧ GR E0h eNat kvh h ∧ GR E0h eU kvs (tS S) ∧
  man < goods.length ∧ TrOk goods h S ∧ unseen h S < n ∧
  ∀ b H' kvh' h', Cw gh gs H H' → H' gh = some (.dK kvh') → GR E0h eNat kvh' h' → (b = true → ∃ S', Gets (gf goods) man h S h' S') → (b = false → h' = h ∧ ∃ S' kvs', H' gs = some (.dK kvs') ∧ GR E0h eU kvs' (tS S') ∧ Fails (gf goods) (gf goods man) h S S') →
    (∃ kvs', H' gs = some (.dK kvs')) → Q (.bl b) H'
theorem fn_tries (F : Df K mg "_law_tries" s__law_tries ["_law_man", "_law_goods_so", "_law_held_so", "_law_seen_so"]) : ∀ n : Nat, Fn P w K mg base "_law_tries" (n + 1) ["_law_man", "_law_goods_so", "_law_held_so", "_law_seen_so"] (spTries n) := by
  intro n
  obtain ⟨f, fd, F', hm, hb⟩ := id F
  induction n with
  | zero =>
    refine fn_any F' sc__law_tries hm hb (fun vs H Q E h => ?_) (fun X C vs H Q E h => ?_)
    · obtain ⟨_, _, _, _, _, _, _, _, _, _, rfl, _⟩ := h
      rfl
    · obtain ⟨_, _, _, _, _, _, _, _, _, _, _, _, _, _, _, _, _, _, _, _, _, _, z, _⟩ := h
      exact absurd z (Nat.not_lt_zero _)
  | succ n ih =>
    refine fn_any F' sc__law_tries hm hb (fun vs H Q E h => ?_) (fun X C vs H Q E h => ?_)
    · obtain ⟨_, _, _, _, _, _, _, _, _, _, rfl, _⟩ := h
      rfl
    · obtain ⟨B, goods, man, h, S, kvh, kvs, gh, gs, vg, rfl, eB, rg, hgh, hgs, bh, bs, hne, grh, grs, hman, ok, hms, q⟩ := h
      have hgl := ok.gl
      have hgm := ok.gr _ (gf_mem hman)
      -- for slot in goods[man]
      refine ws_for C (ds := (gf goods man).map PyData.int) (ei_list C (ev_ix (j := man) (C.nm 1 rfl rg) (C.nm 0 rfl (.int _)) rfl rfl (by rw [List.getElem?_map, gf_at hman]; rfl))) eB fun B1 H1 n1 => ?_
      have b1h : B1 gh = none := by rw [n1.old gh (by rw [hgh]; simp)]; exact bh
      have b1s : B1 gs = none := by rw [n1.old gs (by rw [hgs]; simp)]; exact bs
      have h1h := n1.hh _ _ hgh
      have h1s := n1.hh _ _ hgs
      refine ⟨fun i σ' H' => ∃ (S1 : List Int) (kvs1 kvh1 : List (Key × V)) (w4 : Option V), σ' = [some (.int (man : Int)), some vg, some (.ref gh), some (.ref gs), w4] ∧ Cw gh gs H H' ∧ Ex B1 H' ∧ H' gh = some (.dK kvh1) ∧ GR E0h eNat kvh1 h ∧ H' gs = some (.dK kvs1) ∧ GR E0h eU kvs1 (tS S1) ∧
        Fails (gf goods) ((gf goods man).take i) h S S1, ⟨S, kvs, kvh, _, rfl, .of n1.hh, n1.bh, h1h, grh, h1s, grs, Fails.start ok.sd⟩, fun i d σ' H' hi ⟨S1, kvs1, kvh1, w4, e, cw, x1, hh', grh1, hs', grs1, fa⟩ => ⟨B1, Ex.refl _, x1, fun v B2 H2 n2 rv => ?_⟩, fun i σ' H' ⟨_, _, _, _, _, _, x1, _⟩ => x1, fun σ' H' ⟨S1, kvs1, kvh1, w4, e, cw, x1, hh', grh1, hs', grs1, fa⟩ => ?_⟩
      · subst e
        rw [List.getElem?_map] at hi
        obtain ⟨s, hs, rfl⟩ := Option.map_eq_some_iff.mp hi
        cases rv
        have hsm : s ∈ gf goods man := List.mem_of_getElem? hs
        have hsr := hgm.1 s hsm
        have tk : (gf goods man).take (i + 1) = (gf goods man).take i ++ [s] := by rw [List.take_succ, hs]; rfl
        have ok1 := ok.fails fa
        have c2h := n2.cell hh' b1h
        have c2s := n2.cell hs' b1s
        have cw2 := cw.trans (.of n2.hh)
        refine wg_name C 4 ?_
        -- if slot not in seen
        refine ws_if ((et_dnotin C 3 rfl upd_same (C.nm 4 rfl (.int s))).is (y := !decide (s ∈ S1)) ?_) (ex_take n2.bh c2s.1) (fun hy H3 x3 => ?_) (fun hy H3 x3 => ws_nil (ws_nil ?_))
        · rw [grs1.isSome, gtA_tS]
        · have hns : s ∉ S1 := by simpa using hy
          have ok2 := ok1.more hns hsr
          have h3h := x3 _ _ c2h.1
          have h3s := x3 _ _ c2s.1
          -- seen[slot] = True
          refine ws_dput C 3 (n := s) ev_bl (C.nm 4 rfl (.int s)) (n2.bh.trans x3) rfl h3s c2s.2 (by rw [grs1.len]; unfold tS; rw [List.length_map]; have := ok1.sl; omega) fun v3 B4 H4 n4 b4s h4s r4 => ?_
          cases r4
          have c4h := n4.cell h3h c2h.2
          have grs2 : GR E0h eU (putK kvs1 (.inl s) (.bl true)) (tS (S1 ++ [s])) := by rw [← ptA_tS S1 s hns]; exact grs1.put (enc := eU) (a := ()) s (.bl true)
          have hne' : gh ≠ gs := hne
          generalize hH5 : upd H4 gs (.dK (putK kvs1 (.inl s) (.bl true))) = H5
          have h5h : H5 gh = some (.dK kvh1) := by rw [← hH5, upd_ne hne]; exact c4h.1
          have h5s : H5 gs = some (.dK (putK kvs1 (.inl s) (.bl true))) := by rw [← hH5]; exact upd_same
          have x5 : Ex B4 H5 := by rw [← hH5]; exact n4.bh.mut b4s
          have cw5 : Cw gh gs H H5 := by rw [← hH5]; exact ((cw2.trans (.of x3)).trans (.of n4.hh)).trans .up2
          have eB5 : Ex B H5 := cw5.base eB bh bs
          have x15 : Ex B1 H5 := (n2.bb.trans n4.bb).trans x5
          -- if slot not in held or tries(..)
          have eh : Ex (upd B1 gh (.dK kvh1)) H5 := ex_take x15 h5h
          refine ws_ifR (Wt.weak (Q := fun y H6 => Cw gh gs H H6 ∧ Ex B1 H6 ∧ (y = true → ∃ kvh6 h6 S6, H6 gh = some (.dK kvh6) ∧ GR E0h eNat kvh6 h6 ∧ h6.length ≤ 101 ∧ Gets (gf goods) man h S (put h6 s man) S6 ∧ ∃ kvs6, H6 gs = some (.dK kvs6)) ∧
            (y = false → ∃ S6 kvs6 kvh6, H6 gh = some (.dK kvh6) ∧ GR E0h eNat kvh6 h ∧ H6 gs = some (.dK kvs6) ∧ GR E0h eU kvs6 (tS S6) ∧ Fails (gf goods) ((gf goods man).take i ++ [s]) h S S6)) (wt_or2R (((et_dnotin C 2 rfl upd_same (C.nm 4 rfl (.int s))).is (y := !(get h s).isSome) ?_) H5 eh _ fun H6 x6 => ?_)) fun y H6 hq => ?_)
          · rw [grh1.isSome]; rfl
          · have cw6 := cw5.trans (.of x6)
            cases hg : get h s with
            | none =>
              exact ⟨cw6, x15.trans x6, fun _ => ⟨kvh1, h, S1 ++ [s], x6 _ _ h5h, grh1, by have := ok.hl; omega, Gets.free fa ok.kd hns hg hsm, _, x6 _ _ h5s⟩, fun z => by cases z⟩
            | some m =>
              obtain ⟨vm, a, g1, g2, g3⟩ : ∃ vm a, valV kvh1 (.inl s) = some vm ∧ gtA (α := Nat) h s = some a ∧ Rp E0h vm (eNat a) := by
                rcases grh1.val s with ⟨_, z⟩ | z
                · rw [gtA_held, hg] at z; cases z
                · exact z
              rw [gtA_held, hg] at g2
              cases g2
              have hmm := ok.men s m (get_mem hg)
              show Wt X _ _ H6 _
              refine wt_valR (we_call C ih (Nat.le_refl _) (wa_cons ((ev_dget C 2 rfl (upd_same (H := B1) (a := gh)) (C.nm 4 rfl (.int s)) g1 (g3.up (E0h.ex _))).use (eh.trans x6) fun v7 B7 H7 n7 r7 => wa_cons (we_var C 1 rfl (wa_cons (we_var C 2 rfl (wa_cons (we_var C 3 rfl (wa_nil ?_)))))))))
              cases r7
              refine ⟨B1, goods, m, h, S1 ++ [s], kvh1, _, gh, gs, vg, rfl, (x15.trans x6).trans n7.hh, rg.up n1.bb, n7.hh _ _ (x6 _ _ h5h), n7.hh _ _ (x6 _ _ h5s), b1h, b1s, hne, grh1, grs2, hmm.1, ok2, ?_, fun b H' kvh' h' cw' hh' gr' ht hf hsx => ⟨b, rfl, (cw6.trans (.of n7.hh)).trans cw', cw'.base ((x15.trans x6).trans n7.hh) b1h b1s, fun hb => ?_, fun hb => ?_⟩⟩
              · have u1 := unseen_lt hg hns
                have u2 := unseen_sub (h := h) fa.sub
                omega
              · obtain ⟨S', g⟩ := ht hb
                exact ⟨kvh', h', S', hh', gr', by rw [g.len]; have := ok.hl; omega, Gets.call fa hns hg hsm g, hsx⟩
              · obtain ⟨rfl, S', kvs', a1, a2, a3⟩ := hf hb
                exact ⟨S', kvs', kvh', hh', gr', a1, a2, Fails.call fa hg a3⟩
          · obtain ⟨cw6, x6, ht, hf⟩ := hq
            cases y with
            | true =>
              rw [if_pos rfl]
              obtain ⟨kvh6, h6, S6, a1, a2, a3, a4, kvs6, a5⟩ := ht rfl
              refine ws_dput C 2 (n := s) (d := eNat man) (C.nm 0 rfl (.int _)) (C.nm 4 rfl (.int s)) x6 rfl a1 b1h (by rw [a2.len]; omega) fun v7 B7 H7 n7 b7 h7 r7 => ?_
              have c7 := n7.cell a5 b1s
              refine ws_ret ev_bl (n7.bh.mut b7) fun v8 B8 H8 n8 r8 => ?_
              cases r8
              exact q true H8 _ (put h6 s man) (((cw6.trans (.of n7.hh)).trans .up1).trans (.of n8.hh)) (n8.hh _ _ upd_same) (by rw [← ptA_held]; exact a2.put (enc := eNat) (a := man) s (by cases r7; exact .int _)) (fun _ => ⟨S6, a4⟩) (fun z => by cases z) ⟨kvs6, n8.hh _ _ (by rw [upd_ne hne.symm]; exact c7.1)⟩
            | false =>
              rw [if_neg Bool.false_ne_true]
              obtain ⟨S6, kvs6, kvh6, a1, a0, a2, a3, a4⟩ := hf rfl
              refine ws_nil (ws_nil (ws_nil ⟨S6, kvs6, kvh6, _, rfl, cw6, x6, a1, a0, a2, a3, ?_⟩))
              rw [tk]
              exact a4
        · have hsS : s ∈ S1 := by simpa using hy
          refine ⟨S1, kvs1, kvh1, _, rfl, cw2.trans (.of x3), (n2.bb.trans n2.bh).trans x3, x3 _ _ c2h.1, grh1, x3 _ _ c2s.1, grs1, ?_⟩
          rw [tk]
          exact fa.seen hsS
      · subst e
        rw [List.length_map, List.take_length] at fa
        exact ws_ret ev_bl x1 fun v B6 H6 n6 r => by
          cases r
          exact q false H6 kvh1 h (cw.trans (.of n6.hh)) (n6.hh _ _ hh') grh1 (fun z => by cases z) (fun _ => ⟨rfl, S1, kvs1, n6.hh _ _ hs', grs1, fa⟩) ⟨kvs1, n6.hh _ _ hs'⟩
end
end Mr
end

section
set_option Elab.async false
set_option linter.all false
set_option maxRecDepth 100000
set_option maxHeartbeats 4000000
namespace Mr
open PySem L2 Lay Mn
/-- what the law's own changing of slots comes to: a greatest matching's size -/
def Greatest (goods : List (List Int)) (n : Nat) : Prop := ∃ h : Held, Fair (gf goods) goods.length h ∧ Top (gf goods) goods.length h ∧ h.length = n
section
variable {P : Program} {w : World} {K : PySem.W.Frag} {mg : Str → Option Value} {base : Heap}
def GoodsOk (goods : List (List Int)) : Prop := goods.length ≤ 100 ∧ ∀ l ∈ goods, (∀ s ∈ l, 0 ≤ s ∧ s < 100) ∧ l.length ≤ 1000
/-- the promise of most: whatever number comes, it is the greatest -/
def spMost : Sp := fun vs H Q _ => ∃ (B : Hp) (goods : List (List Int)) (vg : V), vs = [vg] ∧ Ex B H ∧ Rp B vg (.list (goods.map eInts)) ∧ GoodsOk goods ∧ ∀ n H', Ex H H' → Greatest goods n → Q (.int (n : Nat)) H'
theorem fn_mostS (k : Nat) (hk : 102 ≤ k) (F : Df K mg "_law_most" s__law_most ["_law_goods_so"]) (G : Fn P w K mg base "_law_tries" 102 ["_law_man", "_law_goods_so", "_law_held_so", "_law_seen_so"] (spTries 101)) (ml : mg "len" = none) (mr : mg "range" = none) :
    Fn P w K mg base "_law_most" (k + 1) ["_law_goods_so"] spMost := by
  obtain ⟨f, fd, F, hm, hb⟩ := F
  refine fn_any F sc__law_most hm hb (fun vs H Q E h => ?_) (fun X C vs H Q E h => ?_)
  · obtain ⟨_, _, _, rfl, _⟩ := h
    rfl
  · obtain ⟨B, goods, vg, rfl, eB, rg, ok, q⟩ := h
    have okl := ok.1
    -- held = {}
    refine ws_setR C 1 (en_dk fun gh hgh => ?_)
    have b0 : B gh = none := eB.free hgh
    have x0 : Ex H (upd H gh (.dK [])) := Ex.new hgh
    have lr : (rngD 0 goods.length).length = goods.length := by unfold rngD; rw [List.length_map, List.length_range]
    -- return len([1 for man in range(len(goods)) if tries(man, goods, held, {})])
    refine ws_retR (we_callBR C (cr_len C) (wa_cons (we_lcS C (ds := rngD 0 goods.length) [("_law_man", 2)] ((Ei.is (ei_range1 C (ev_callB C (c_len C rfl) (ea_cons (C.nm 0 rfl rg) ea_nil) ml) mr (by rw [List.length_map]; omega)) (by rw [Int.toNat_natCast, List.length_map])).useI (eB.trans x0) fun J B1 H1 n1 dr => ⟨B1, n1.bh, dr, fun Da hDa => ?_⟩))) ml)
    have b1 : B1 gh = none := by rw [n1.old gh (by rw [upd_same]; simp)]; exact b0
    have h1 : H1 gh = some (.dK []) := n1.hh _ _ upd_same
    have bD : B1 Da = none := n1.bh.free hDa
    have hD0 : H Da = none := x0.free (n1.hh.free hDa)
    have gD : gh ≠ Da := ne_of_none h1 hDa
    refine ⟨fun i H' => ∃ (kvh : List (Key × V)) (h : Held) (acc : List V), (∀ a o, a ≠ gh → a ≠ Da → H1 a = some o → H' a = some o) ∧ H' gh = some (.dK kvh) ∧ GR E0h eNat kvh h ∧ H' Da = some (.lst acc) ∧ acc.length = h.length ∧ Fair (gf goods) i h ∧ Top (gf goods) i h ∧ TrOk goods h [],
      ⟨[], [], [], fun a o h1 h2 ha => by rw [upd_ne h2]; exact ha, by rw [upd_ne gD]; exact h1, .nil, upd_same, rfl, Fair.start, Top.start, ⟨List.nodup_nil, fun _ _ z => absurd z List.not_mem_nil, List.nodup_nil, fun _ z => absurd z List.not_mem_nil, ok.2, by omega⟩⟩, fun i d H' hi ⟨kvh, h, acc, cw, hh, gr, hDa', hl, fair, top, tr⟩ => ⟨B1, Ex.refl _, ?_, fun v B2 H2 n2 rv => ?_⟩, fun i H' ⟨kvh, h, acc, cw, _⟩ => ?_, fun H' ⟨kvh, h, acc, cw, hh, gr, hDa', hl, fair, top, tr⟩ => ?_⟩
    · exact fun a o ha => cw a o (fun z => by rw [z, b1] at ha; cases ha) (fun z => by rw [z, bD] at ha; cases ha) (n1.bh a o ha)
    · have hlt : i < goods.length := by
        have := (List.getElem?_eq_some_iff.mp hi).1
        rwa [lr] at this
      have hd : d = .int (i : Int) := by
        unfold rngD at hi
        rw [List.getElem?_map, List.getElem?_range hlt] at hi
        simp only [Option.map_some, Option.some.injEq, Int.zero_add] at hi
        exact hi.symm
      subst hd
      cases rv
      have c2h := n2.cell hh b1
      have c2D := n2.cell hDa' bD
      have C' := C.blk
      refine wg_name (C' _) 2 ⟨rfl, wts_one (wt_valR (we_call (C' _) G (by omega) (wa_cons (we_var (C' _) 2 rfl (wa_cons (we_var (C' _) 0 rfl (wa_cons (we_var (C' _) 1 rfl (wa_cons (en_dk fun gs hgs => wa_nil ?_)))))))))) ⟩
      have x3 : Ex H2 (upd H2 gs (.dK [])) := Ex.new hgs
      have bs : B1 gs = none := n2.bb.free (n2.bh.free hgs)
      refine ⟨B1, goods, i, h, [], kvh, [], gh, gs, vg, rfl, (n2.bb.trans n2.bh).trans x3, rg.up n1.bb, x3 _ _ c2h.1, upd_same, b1, bs, ne_of_none c2h.1 hgs, gr, .nil, hlt, tr, ?_, fun b H3 kvh' h' cw' hh' gr' ht hf _ => ⟨b, rfl, ?_⟩⟩
      · have := tr.hl
        have : unseen h [] ≤ h.length := List.length_filter_le _ _
        omega
      · have hD3 : H3 Da = some (.lst acc) := cw' _ _ (fun z => gD z.symm) (ne_of_none c2D.1 hgs) (x3 _ _ c2D.1)
        have cw3 : ∀ a o, a ≠ gh → a ≠ Da → H1 a = some o → H3 a = some o := fun a o h1 h2 ha => cw' a o h1 (ne_of_none (n2.hh _ _ (cw a o h1 h2 ha)) hgs) (x3 _ _ (n2.hh _ _ (cw a o h1 h2 ha)))
        cases b with
        | true =>
          rw [if_pos rfl]
          obtain ⟨S', g⟩ := ht rfl
          refine (ev_int (B := E0h)).use (E0h.ex _) fun v5 B5 H5 n5 r5 => ?_
          cases r5
          refine ⟨acc, n5.hh _ _ hD3, (Nat.lt_of_lt_of_le (show acc.length < 1000 by have := tr.hl; omega) (by decide)), kvh', h', acc ++ [.int 1], fun a o h1 h2 ha => by rw [upd_ne h2]; exact n5.hh _ _ (cw3 a o h1 h2 ha), by rw [upd_ne gD]; exact n5.hh _ _ hh', gr', upd_same, by rw [List.length_append, g.len, hl]; rfl, fair.gets g, top.gets g, tr.gets g⟩
        | false =>
          rw [if_neg Bool.false_ne_true]
          obtain ⟨rfl, S', kvs', a1, a2, a3⟩ := hf rfl
          exact ⟨kvh', h', acc, cw3, hh', gr', hD3, hl, fair.fail, top.fail fair a3, tr⟩
    · exact fun a o ha => cw a o (fun z => by rw [z, b1] at ha; cases ha) (fun z => by rw [z, bD] at ha; cases ha) (n1.bh a o ha)
    · rw [lr] at fair top
      refine wa_nil ⟨Da, acc, rfl, .inl (SqL.of hDa'), ?_⟩
      rw [hl]
      exact q h.length H' (fun a o ha => cw a o (fun z => by rw [z, hgh] at ha; cases ha) (fun z => by rw [z, hD0] at ha; cases ha) (n1.hh _ _ (x0 _ _ ha))) ⟨h, fair, top, rfl⟩
end
end Mr
end

section
set_option Elab.async false
set_option linter.all false
set_option maxRecDepth 100000
set_option maxHeartbeats 4000000
namespace Mr
open PySem L2 Lay Mn
/-- the levels at which he drowns -/
def wetM (lasts : Lasts) (level board : Int) : List Nat := (List.range level.toNat).filter fun i => (match lasts.getD i none with | none => false | some l => decide (l < board + level - (1 + (i : Int))))
def freeM (lasts : Lasts) (bs : List Brk) (level board : Int) : Bool := (wetM lasts level board).isEmpty && isNone (walkD bs level.toNat level board)
/-- the slots that bring a man up -/
def goodsM (lasts : Lasts) (bs : List Brk) (m : Man) : List Int := ((List.range (14 - m.1 - m.2).toNat).filter fun i : Nat => freeM lasts bs m.1 (m.2 + (i : Int))).map fun i : Nat => m.2 + (i : Int) + m.1
theorem goodsM_r {lasts : Lasts} {bs : List Brk} {m : Man} {s : Int} (h1 : 1 ≤ m.1) (h2 : 0 ≤ m.2) (h : s ∈ goodsM lasts bs m) : 0 ≤ s ∧ s < 100 := by
  unfold goodsM at h
  obtain ⟨i, hi, rfl⟩ := List.mem_map.mp h
  have := List.mem_range.mp (List.mem_filter.mp hi).1
  omega
theorem goodsM_l {lasts : Lasts} {bs : List Brk} {m : Man} (h1 : 1 ≤ m.1) (h2 : 0 ≤ m.2) : (goodsM lasts bs m).length ≤ 1000 := by
  unfold goodsM
  rw [List.length_map]
  refine Nat.le_trans (List.length_filter_le _ _) ?_
  rw [List.length_range]
  omega
section
variable {P : Program} {w : World} {K : PySem.W.Frag} {mg : Str → Option Value} {base : Heap}
structure InS (ld : PyData) (lasts : Lasts) (bs : List Brk) (muster : List Man) : Prop where
  hl : items ld = some (lasts.map eO)
  l1 : lasts.length ≤ 100
  lb : bs.length ≤ 1000
  lm : muster.length ≤ 100
  men : ∀ m ∈ muster, 1 ≤ m.1 ∧ m.1 ≤ lasts.length ∧ 0 ≤ m.2 ∧ m.2 ≤ 1000
def spSaved : Sp := fun vs H Q _ => ∃ (B : Hp) (ld : PyData) (lasts : Lasts) (bs : List Brk) (muster : List Man) (v1 v2 v3 : V), vs = [v1, v2, v3] ∧ Ex B H ∧ Rp B v1 ld ∧ Rp B v2 (.tuple (bs.map eBrk)) ∧ Rp B v3 (.tuple (muster.map eMan)) ∧ InS ld lasts bs muster ∧
  ∀ n H', Ex H H' → Greatest (muster.map (goodsM lasts bs)) n → Q (.int (n : Nat)) H'
theorem fn_saved (k : Nat) (hk : 103 ≤ k) (F : Df K mg "_law_saved" s__law_saved ["_law_lasts", "_law_breaks_here", "_law_muster_here"]) (G : Fn P w K mg base "_law_most" 103 ["_law_goods_so"] spMost) (GW : Fn P w K mg base "_law_walked" 2 ["_law_deep", "_law_breaks_here", "_law_ride", "_law_board"] (spD rWalked))
    (ml : mg "len" = none) (mr : mg "range" = none) : Fn P w K mg base "_law_saved" (k + 1) ["_law_lasts", "_law_breaks_here", "_law_muster_here"] spSaved := by
  obtain ⟨f, fd, F, hm, hb⟩ := F
  refine fn_any F sc__law_saved hm hb (fun vs H Q E h => ?_) (fun X C vs H Q E h => ?_)
  · obtain ⟨_, _, _, _, _, _, _, _, rfl, _⟩ := h
    rfl
  · obtain ⟨B, ld, lasts, bs, muster, v1, v2, v3, rfl, eB, r1, r2, r3, I, q⟩ := h
    have l1 := I.l1
    have lb := I.lb
    have lm := I.lm
    -- goods, deep = [], len(lasts)
    refine ws_par C 3 4 (wa_cons (en_nil.use eB fun g B1 H1 vs n1 hg bg hg' rg => wa_cons ((ev_callB C (c_len C I.hl) (ea_cons (C.nm 0 rfl (r1.up n1.bb)) ea_nil) ml).use n1.bh fun vd B2 H2 n2 rd => wa_nil ⟨_, _, rfl, ?_⟩))) (hw := C.swap (by rfl))
    cases rd
    rw [List.length_map]
    cases rg
    have nA := n1.trans n2
    have c2 := n2.cell hg' bg
    -- for level, ready in muster
    refine ws_for C (ei_tup C (C.nm 2 rfl (r3.up nA.bb))) nA.bh fun B3 H3 n3 => ?_
    have n3' := nA.trans n3
    have c3 := n3.cell c2.1 c2.2
    refine ⟨fun i σ' H' => ∃ (vs : List V) (w5 w6 w7 w8 w9 w10 : Option V) (B' : Hp), σ' = [some v1, some v2, some v3, some (.ref g), some (.int (lasts.length : Nat)), w5, w6, w7, w8, w9, w10] ∧ Nw B H B' H' ∧ Ex B3 B' ∧ B' g = none ∧ H' g = some (.lst vs) ∧ RpAll B' vs (((muster.take i).map (goodsM lasts bs)).map eInts),
      ⟨[], _, _, _, _, _, _, B3, rfl, n3', Ex.refl _, c3.2, c3.1, .nil⟩, fun i d σ' H' hi ⟨vs, w5, w6, w7, w8, w9, w10, B', e, n, x3, bg', hg'', rg⟩ => ⟨B', x3, n.bh, fun v B4 H4 n4 rv => ?_⟩, fun i σ' H' ⟨_, _, _, _, _, _, _, B', _, n, x3, _⟩ => x3.trans n.bh, fun σ' H' ⟨vs, w5, w6, w7, w8, w9, w10, B', e, n, x3, bg', hg'', rg⟩ => ?_⟩
    · subst e
      rw [List.getElem?_map] at hi
      obtain ⟨m, hmi, rfl⟩ := Option.map_eq_some_iff.mp hi
      obtain ⟨m1, m2, m3, m4⟩ := I.men m (List.mem_of_getElem? hmi)
      have c4 := n4.cell hg'' bg'
      have m4' := n.trans n4
      refine wg_tup2 C rv n4.bh fun y1 y2 ry1 ry2 => wg_name C 5 (wg_name C 6 ?_)
      cases ry1; cases ry2
      -- found = []
      refine ws_setR C 7 (en_nil.use n4.bh fun f B5 H5 vs5 n5 hf bf hf' rf => ?_)
      cases rf
      have c5 := n5.cell c4.1 c4.2
      have m5 := m4'.trans n5
      have Hf : H f = none := m4'.hh.free hf
      have gf' : g ≠ f := ne_of_none c4.1 hf
      -- for board in range(ready, 14 - level)
      refine ws_for C (ei_range2 C (C.nm 6 rfl (.int m.2)) (ev_bin o_sub ev_int (C.nm 5 rfl (.int m.1))) mr (by omega) (by omega)) n5.bh fun B6 H6 n6 => ?_
      have m6 := m5.trans n6
      have c6g := n6.cell c5.1 c5.2
      have c6f := n6.cell hf' bf
      have lr : (rngD m.2 (14 - m.1 - m.2).toNat).length = (14 - m.1 - m.2).toNat := by unfold rngD; rw [List.length_map, List.length_range]
      have xb : Ex B B6 := m6.bb
      refine ⟨fun j σ' H' => ∃ (w8 w9 w10 : Option V) (B' : Hp), σ' = [some v1, some v2, some v3, some (.ref g), some (.int (lasts.length : Nat)), some (.int m.1), some (.int m.2), some (.ref f), w8, w9, w10] ∧ Nw B H B' H' ∧ Ex B6 B' ∧ B' g = none ∧ B' f = none ∧ H' g = some (.lst vs) ∧
          H' f = some (.lst ((((List.range j).filter fun i : Nat => freeM lasts bs m.1 (m.2 + (i : Int))).map fun i : Nat => m.2 + (i : Int) + m.1).map V.int)),
        ⟨_, _, _, B6, rfl, m6, Ex.refl _, c6g.2, c6f.2, c6g.1, c6f.1⟩, fun j d σ' H' hj ⟨w8, w9, w10, B', e, n, x6, bg', bf', hg'', hf''⟩ => ⟨B', x6, n.bh, fun v B7 H7 n7 rv => ?_⟩, fun i σ' H' ⟨_, _, _, B', _, n, x6, _⟩ => x6.trans n.bh, fun σ' H' ⟨w8, w9, w10, B', e, n, x6, bg', bf', hg'', hf''⟩ => ?_⟩
      · subst e
        have hlt : j < (14 - m.1 - m.2).toNat := by
          have := (List.getElem?_eq_some_iff.mp hj).1
          rwa [lr] at this
        have hd : d = .int (m.2 + (j : Int)) := by
          unfold rngD at hj
          rw [List.getElem?_map, List.getElem?_range hlt] at hj
          simp only [Option.map_some, Option.some.injEq] at hj
          exact hj.symm
        subst hd
        cases rv
        have c7g := n7.cell hg'' bg'
        have c7f := n7.cell hf'' bf'
        have m7 := n.trans n7
        refine wg_name C 8 ?_
        have hO : ∀ i, (lasts.getD i none).isSome = true → eO (lasts.getD i none) = .int ((lasts.getD i none).getD 0) := fun i h => by
          cases e : lasts.getD i none with
          | none => rw [e] at h; cases h
          | some z => rfl
        -- dry = [..] == []
        refine ws_set C 9 (d := .bool (wetM lasts m.1 (m.2 + (j : Int))).isEmpty) (Ev.is (ev_cmp (o_eqD C (d1 := .list ((wetM lasts m.1 (m.2 + (j : Int))).map fun i : Nat => .int (1 + (i : Int)))) (fl_list (n := 0) (fl_map fun x => fl_int 0 _)).flat (fl_list (n := 0) (by simp)).flat)
          (ev_lc C (xs := List.range m.1.toNat) (enc := fun i : Nat => .int (1 + (i : Int))) [("_law_spot", 10)] (Ei.is (ei_range2 C ev_int (ev_bin o_add (C.nm 5 rfl (.int m.1)) ev_int) mr (by omega) (by omega)) (by unfold rngD; rw [show (m.1 + 1 - 1).toNat = m.1.toNat by omega]))
            (fun i => (match lasts.getD i none with | none => false | some l => decide (l < m.2 + (j : Int) + m.1 - (1 + (i : Int))))) (fun i : Nat => .int (1 + (i : Int))) (by rw [List.length_range]; omega) fun i hi B8 H8 v e1 e2 rv => ?_) (ev_lst ea_nil)) ?_) n7.bh fun vy B8 H8 n8 ry => ?_
        · cases rv
          rw [List.mem_range] at hi
          have hget : (lasts.map eO)[i]? = some (eO (lasts.getD i none)) := get_map none (by omega)
          have r1' : Rp B8 v1 ld := (r1.up m7.bb).up e1
          refine turn_name (C.blk _) 10 (by decide) (es_one ((et_and2 (et_cmp o_notN (ev_ix (j := i) ((C.blk _).nm 0 rfl r1') (ev_bin o_sub ((C.blk _).nm 10 rfl (.int _)) ev_int) (by omega) I.hl hget) ev_non)
            (y := decide ((lasts.getD i none).getD 0 < m.2 + (j : Int) + m.1 - (1 + (i : Int)))) fun hy => ?_).is ?_)) fun _ => (C.blk _).nm 10 rfl (.int _)
          · rw [isNone_O, Bool.not_not] at hy
            exact et_cmp o_gt (ev_bin o_sub (ev_bin o_add ((C.blk _).nm 8 rfl (.int _)) ((C.blk _).nm 5 rfl (.int m.1))) ((C.blk _).nm 10 rfl (.int _))) ((ev_ix (j := i) ((C.blk _).nm 0 rfl r1') (ev_bin o_sub ((C.blk _).nm 10 rfl (.int _)) ev_int) (by omega) I.hl hget).is (hO i hy))
          · cases e : lasts.getD i none <;> simp [isNone_O, eO, isNone]
        · rw [eqv_nilL]
          congr 1
          generalize wetM lasts m.1 (m.2 + (j : Int)) = W
          cases W <;> rfl
        cases ry
        have m8 := m7.trans n8
        have c8g := n8.cell c7g.1 c7g.2
        have c8f := n8.cell c7f.1 c7f.2
        have rs : ((List.range (j + 1)).filter fun i : Nat => freeM lasts bs m.1 (m.2 + (i : Int))) = ((List.range j).filter fun i : Nat => freeM lasts bs m.1 (m.2 + (i : Int))) ++ (if freeM lasts bs m.1 (m.2 + (j : Int)) = true then [j] else []) := by
          rw [List.range_succ, List.filter_append, List.filter_cons]
          rfl
        -- if dry and walked(..) is None
        refine ws_if ((et_and2 (et_val (C.nm 9 rfl (.bl _))) fun hy => et_cmp o_isN (ev_call C GW (ea_cons (C.nm 4 rfl (.int _)) (ea_cons (C.nm 1 rfl (r2.up m8.bb)) (ea_cons (ev_tup (ea_cons (C.nm 5 rfl (.int m.1)) (ea_cons ev_int (ea_cons ev_int ea_nil)))) (ea_cons (C.nm 8 rfl (.int _)) ea_nil)))) ⟨_, bs, m.1, m.2 + (j : Int), _, rfl, m1, by omega, lb, rfl⟩) ev_non).is (y := freeM lasts bs m.1 (m.2 + (j : Int))) rfl) n8.bh (fun hy H9 x9 => ?_) fun hy H9 x9 => ws_nil (ws_nil ?_)
        · refine ws_append C 7 (g := f) (ev_bin o_add (C.nm 8 rfl (.int _)) (C.nm 5 rfl (.int m.1))) (n8.bh.trans x9) rfl (x9 _ _ c8f.1) c8f.2 ?_ fun v9 B10 H10 n10 b10 h10 r10 => ws_nil (ws_nil ?_)
          · rw [List.length_map, List.length_map]
            have := List.length_filter_le (fun i => freeM lasts bs m.1 (m.2 + ((i : Nat) : Int))) (List.range j)
            rw [List.length_range] at this
            omega
          · cases r10
            have m10 := (Nw.exh m8 x9).trans n10
            have c10g := n10.cell (x9 _ _ c8g.1) c8g.2
            refine ⟨_, _, _, B10, rfl, m10.put Hf b10, (x6.trans (n7.bb.trans n8.bb)).trans n10.bb, c10g.2, b10, by rw [upd_ne gf']; exact c10g.1, ?_⟩
            rw [upd_same, rs, if_pos hy, List.map_append, List.map_append]
            rfl
        · refine ⟨_, _, _, B8, rfl, Nw.exh m8 x9, x6.trans (n7.bb.trans n8.bb), c8g.2, c8f.2, x9 _ _ c8g.1, ?_⟩
          rw [rs, hy, if_neg Bool.false_ne_true, List.append_nil]
          exact x9 _ _ c8f.1
      · subst e
        rw [lr] at hf''
        -- goods.append(found)
        have nad := n.adopt Hf bf' hf''
        have bg2 : (upd B' f (.lst ((((List.range (14 - m.1 - m.2).toNat).filter fun i : Nat => freeM lasts bs m.1 (m.2 + (i : Int))).map fun i : Nat => m.2 + (i : Int) + m.1).map V.int))) g = none := by rw [upd_ne gf']; exact bg'
        refine ws_append C 3 (g := g) (d := eInts (goodsM lasts bs m)) (C.nm 7 rfl (.lst upd_same (RpAll.ints _))) nad.bh rfl hg'' bg2 ?_ fun v9 B10 H10 n10 b10 h10 r10 => ws_nil ?_
        · rw [rg.length, List.length_map, List.length_map, List.length_take]
          omega
        · refine ⟨vs ++ [v9], _, _, _, _, _, _, B10, rfl, (nad.trans n10).put hg b10, ((x3.trans n4.bb).trans (n5.bb.trans (n6.bb.trans x6))).trans ((Ex.new bf').trans n10.bb), b10, upd_same, ?_⟩
          rw [List.take_succ, hmi, List.map_append, List.map_append]
          exact ((((rg.up n4.bb).up n5.bb).up (n6.bb.trans x6)).up ((Ex.new bf').trans n10.bb)).append (.cons r10 .nil)
    · subst e
      rw [List.length_map, List.take_length] at rg
      -- return most(goods)
      have nad := n.adopt hg bg' hg''
      have rg2 : Rp (upd B' g (.lst vs)) (.ref g) (.list ((muster.map (goodsM lasts bs)).map eInts)) := .lst upd_same (rg.up (Ex.new bg'))
      refine ws_retR (we_call C G hk (wa_cons ((C.nm 3 rfl rg2).use nad.bh fun v5 B5 H5 n5 r5 => wa_nil ?_)))
      exact ⟨B5, muster.map (goodsM lasts bs), _, rfl, n5.bh, r5, ⟨by rw [List.length_map]; exact lm, fun l hl => by
        obtain ⟨m, hm, rfl⟩ := List.mem_map.mp hl
        obtain ⟨m1, m2, m3, m4⟩ := I.men m hm
        exact ⟨fun s hs => goodsM_r m1 m3 hs, goodsM_l m1 m3⟩⟩, fun n' H' x hG => q n' H' ((n.hh.trans n5.hh).trans x) hG⟩
end
end Mr
end

section
set_option Elab.async false
set_option linter.all false
set_option maxRecDepth 100000
set_option maxHeartbeats 2000000
namespace Mr
open PySem L2 Lay Mn
section
variable {P : Program} {w : World} {K : PySem.W.Frag} {mg : Str → Option Value} {base : Heap}
def rLis (n : Nat) : List PyData → PyData → Prop := fun ds d => ∃ d0, ds = [d0] ∧ d0.depth < n ∧ short d0 = true ∧ d = lisOf d0
theorem fn_lists (F : Df K mg "_law_lists" s__law_lists ["_law_matter"]) (mi : mg "isinstance" = none) (ml : mg "list" = none) (mt : mg "tuple" = none) : ∀ n : Nat, Fn P w K mg base "_law_lists" (n + 1) ["_law_matter"] (spD (rLis n)) := by
  obtain ⟨f, fd, F, hm, hb⟩ := F
  intro n
  induction n with
  | zero =>
    refine fn_data F sc__law_lists hm hb (fun ds d h => ?_) (fun X C vs ds d B H D eB ra hR q _ => ?_)
    · obtain ⟨_, rfl, _⟩ := h
      rfl
    · obtain ⟨d0, rfl, hd, hs, rfl⟩ := hR
      exact absurd hd (Nat.not_lt_zero _)
  | succ n ih =>
    refine fn_data F sc__law_lists hm hb (fun ds d h => ?_) (fun X C vs ds d B H D eB ra hR q _ => ?_)
    · obtain ⟨_, rfl, _⟩ := h
      rfl
    · obtain ⟨d0, rfl, hd, hs, rfl⟩ := hR
      obtain ⟨v, rfl, rv⟩ := RpAll.one' ra
      refine ws_ret (ev_if (et_val (ev_isi2 (T := "list") (U := "tuple") C (C.nm 0 rfl rv) (by simp) (by simp) mi ml mt)) (fun hy => ?_) fun hy => ?_) eB q
      · obtain ⟨ds, h1, _, h2, h3, h4⟩ := items_isA hy
        rw [h2]
        obtain ⟨g1, g2⟩ := h4 hs
        refine (ev_lc C (xs := ds) (enc := fun d => d) [("_law_own", 1)] (by rw [List.map_id']; exact ei_seq C (C.nm 0 rfl rv) h1) (fun _ => true) lisOf (by omega) fun x hx B1 H1 v e1 e2 rv => ?_).is ?_
        · refine turn_name (C.blk _) 1 (by decide) es_nil fun _ => ev_call (C.blk _) ih (ea_cons ((C.blk _).nm 1 rfl rv) ea_nil) ⟨x, rfl, ?_, g2 x hx, rfl⟩
          have := h3 x hx
          omega
        · rw [List.filter_eq_self.mpr fun _ _ => rfl]
      · rw [(tupOf_atom hy).2]
        exact C.nm 0 rfl rv
theorem fl_str (n : Nat) {x : Str} (h : PyData.strOk x = true) : Fl n (.str x) := ⟨by simp [PyData.canLay0, h], by simp [PyData.depth]⟩
/-! ### the same -/
mutual
/-- no dict in it -/
def noDic : PyData → Bool
  | .list ds => noDicAll ds
  | .tuple ds => noDicAll ds
  | .dict _ => false
  | .none => false
  | .str x => PyData.strOk x
  | _ => true
def noDicAll : List PyData → Bool
  | [] => true
  | d :: ds => noDic d && noDicAll ds
end
theorem noDic_mem : ∀ {ds : List PyData} {d : PyData}, noDicAll ds = true → d ∈ ds → noDic d = true
  | x :: xs, d, h, hm => by
    rw [noDicAll, Bool.and_eq_true] at h
    rcases List.mem_cons.mp hm with z | z
    · rw [z]; exact h.1
    · exact noDic_mem h.2 z
def rSame (n : Nat) : List PyData → PyData → Prop := fun ds d => ∃ d0, ds = [d0, d0] ∧ d0.depth < n ∧ short d0 = true ∧ noDic d0 = true ∧ d = .bool true
theorem fn_same (F : Df K mg "_law_same" s__law_same ["_law_got", "_law_goal"]) (mi : mg "isinstance" = none) (ml : mg "list" = none) (mt : mg "tuple" = none) (mb : mg "bool" = none) (ms : mg "str" = none) (mint : mg "int" = none) (mlen : mg "len" = none) (mall : mg "all" = none) (mz : mg "zip" = none) :
    ∀ n : Nat, Fn P w K mg base "_law_same" (n + 1) ["_law_got", "_law_goal"] (spD (rSame n)) := by
  obtain ⟨f, fd, F, hm, hb⟩ := F
  intro n
  induction n with
  | zero =>
    refine fn_data F sc__law_same hm hb (fun ds d h => ?_) (fun X C vs ds d B H D eB ra hR q _ => ?_)
    · obtain ⟨_, rfl, _⟩ := h
      rfl
    · obtain ⟨d0, rfl, hd, _⟩ := hR
      exact absurd hd (Nat.not_lt_zero _)
  | succ n ih =>
    refine fn_data F sc__law_same hm hb (fun ds d h => ?_) (fun X C vs ds d B H D eB ra hR q _ => ?_)
    · obtain ⟨_, rfl, _⟩ := h
      rfl
    · obtain ⟨d0, rfl, hd, hs, hn, rfl⟩ := hR
      obtain ⟨v, u, rfl, rv, ru⟩ := ra.two
      refine ws_ifN (et_val (ev_isi2 (T := "list") (U := "tuple") C (C.nm 1 rfl ru) (by simp) (by simp) mi ml mt)) eB (fun hy H1 x1 => ?_) (fun hy H1 x1 => ?_)
      · obtain ⟨ds, h1, _, _, h3, h4⟩ := items_isA hy
        obtain ⟨g1, g2⟩ := h4 hs
        have hnd : ∀ x ∈ ds, noDic x = true := fun x hx => by
          cases d0 with
          | list es => cases h1; rw [noDic] at hn; exact noDic_mem hn hx
          | tuple es => cases h1; rw [noDic] at hn; exact noDic_mem hn hx
          | _ => cases h1
        refine ws_ifN ((et_or2 (et_cmp o_neB (ev_isi (T := "list") C (C.nm 0 rfl rv) (by simp) mi ml) (ev_isi (T := "list") C (C.nm 1 rfl ru) (by simp) mi ml)) fun _ => et_cmp o_neB (ev_isi (T := "tuple") C (C.nm 0 rfl rv) (by simp) mi mt) (ev_isi (T := "tuple") C (C.nm 1 rfl ru) (by simp) mi mt)).is (y := false) (by simp)) (eB.trans x1) (fun hy2 => by cases hy2) fun _ H2 x2 => ?_
        refine ws_ret ((ev_and (ev_cmp o_eqI (ev_callB C (c_len C h1) (ea_cons (C.nm 0 rfl rv) ea_nil) mlen) (ev_callB C (c_len C h1) (ea_cons (C.nm 1 rfl ru) ea_nil) mlen)) (y := true) fun _ => ev_one (Ev.is (ev_callB C (c_all C (bs := ds.map fun _ => true)) (ea_cons (Ev.is (ev_lc C (xs := ds) (enc := fun z => .tuple [z, z]) [("_law_mine_so", 2), ("_law_own", 3)] (ei_zipS C h1 (C.nm 0 rfl rv) (C.nm 1 rfl ru) mz) (fun _ => true) (fun _ => .bool true) (by omega) fun x hx B1 H1 v e1 e2 rv => ?_) ?_) ea_nil) mall) ?_)).is ?_) ((eB.trans x1).trans x2) fun v B2 H3 n2 r => q v B2 H3 ((Nw.grow eB (x1.trans x2)).trans n2) r
        · refine turn_two (C.blk _) 2 3 rv e2 (by decide) (by decide) fun y1 y2 ry1 ry2 => ⟨es_nil, fun _ => ev_call (C.blk _) ih (ea_cons ((C.blk _).nm 2 rfl ry1) (ea_cons ((C.blk _).nm 3 rfl ry2) ea_nil)) ⟨x, rfl, ?_, g2 x hx, hnd x hx, rfl⟩⟩
          have := h3 x hx
          omega
        · rw [List.filter_eq_self.mpr fun _ _ => rfl, List.map_map]
          rfl
        · rw [List.all_eq_true.mpr]
          intro x hx
          obtain ⟨_, _, rfl⟩ := List.mem_map.mp hx
          rfl
        · simp
      · have hA : (isA "list" d0 || isA "tuple" d0) = false := hy
        -- atoms
        cases d0 with
        | list _ => exact absurd hA (by simp [isA, tyName])
        | tuple _ => exact absurd hA (by simp [isA, tyName])
        | dict _ => rw [noDic] at hn; cases hn
        | none => rw [noDic] at hn; cases hn
        | bool b =>
          refine ws_ifN ((et_or2 (et_cmp o_isN (C.nm 1 rfl ru) ev_non) fun _ => et_val (ev_isi2 (T := "bool") (U := "str") C (C.nm 1 rfl ru) (by simp) (by simp) mi mb ms)).is (y := true) (by simp [isNone, isA, tyName])) (eB.trans x1) (fun _ H2 x2 => ?_) fun hy2 => by cases hy2
          exact ws_ret ((ev_and (ev_cmp o_eqB (C.nm 0 rfl rv) (C.nm 1 rfl ru)) (y := true) fun _ => ev_and (x := true) (y := true) (Ev.is (ev_cmp o_eqB (ev_isi (T := "bool") C (C.nm 0 rfl rv) (by simp) mi mb) (ev_isi (T := "bool") C (C.nm 1 rfl ru) (by simp) mi mb)) (by simp)) fun _ => ev_one (Ev.is (ev_cmp o_eqB (ev_cmp o_isN (C.nm 0 rfl rv) ev_non) (ev_cmp o_isN (C.nm 1 rfl ru) ev_non)) (by simp))).is (by simp [PyData.eqv])) ((eB.trans x1).trans x2) fun v B2 H3 n2 r => q v B2 H3 ((Nw.grow eB (x1.trans x2)).trans n2) r
        | int i =>
          refine ws_ifN ((et_or2 (et_cmp o_isN (C.nm 1 rfl ru) ev_non) fun _ => et_val (ev_isi2 (T := "bool") (U := "str") C (C.nm 1 rfl ru) (by simp) (by simp) mi mb ms)).is (y := false) (by simp [isNone, isA, tyName])) (eB.trans x1) (fun hy2 => by cases hy2) fun _ H2 x2 => ?_
          exact ws_ret ((ev_and (x := true) (Ev.is (ev_isi (T := "int") C (C.nm 0 rfl rv) (by simp) mi mint) (by simp [isA, tyName])) (y := true) fun _ => ev_and (x := true) (y := true) (Ev.is (ev_not (ev_isi (T := "bool") C (C.nm 0 rfl rv) (by simp) mi mb)) (by simp [isA, tyName])) fun _ => ev_one (Ev.is (ev_cmp o_eqI (C.nm 0 rfl rv) (C.nm 1 rfl ru)) (by simp))).is (by simp)) ((eB.trans x1).trans x2) fun v B2 H3 n2 r => q v B2 H3 ((Nw.grow eB (x1.trans x2)).trans n2) r
        | str x =>
          refine ws_ifN ((et_or2 (et_cmp o_isN (C.nm 1 rfl ru) ev_non) fun _ => et_val (ev_isi2 (T := "bool") (U := "str") C (C.nm 1 rfl ru) (by simp) (by simp) mi mb ms)).is (y := true) (by simp [isNone, isA, tyName])) (eB.trans x1) (fun _ H2 x2 => ?_) fun hy2 => by cases hy2
          exact ws_ret ((ev_and (ev_cmp (o_eqD C (fl_str 0 (by rw [noDic] at hn; exact hn)).flat (fl_str 0 (by rw [noDic] at hn; exact hn)).flat) (C.nm 0 rfl rv) (C.nm 1 rfl ru)) (y := true) fun _ => ev_and (x := true) (y := true) (Ev.is (ev_cmp o_eqB (ev_isi (T := "bool") C (C.nm 0 rfl rv) (by simp) mi mb) (ev_isi (T := "bool") C (C.nm 1 rfl ru) (by simp) mi mb)) (by simp)) fun _ => ev_one (Ev.is (ev_cmp o_eqB (ev_cmp o_isN (C.nm 0 rfl rv) ev_non) (ev_cmp o_isN (C.nm 1 rfl ru) ev_non)) (by simp))).is (by simp [PyData.eqv])) ((eB.trans x1).trans x2) fun v B2 H3 n2 r => q v B2 H3 ((Nw.grow eB (x1.trans x2)).trans n2) r
end
end Mr
end

section
set_option Elab.async false
set_option linter.all false
set_option maxRecDepth 100000
set_option maxHeartbeats 2000000
namespace Mr
open PySem L2 Lay Mn
/-- the urn's cell -/
def Urn (H : Hp) (u : Addr) (n : Int) : Prop := ∃ a b c : Int, H u = some (.lst [.int a, .int b, .int c]) ∧ 0 ≤ a ∧ 0 ≤ c ∧ c ≤ n
theorem Urn.up {H H' : Hp} {u : Addr} {n m : Int} (h : Urn H u n) (e : Ex H H') (l : n ≤ m) : Urn H' u m := by
  obtain ⟨a, b, c, h1, h2, h3, h4⟩ := h
  exact ⟨a, b, c, e _ _ h1, h2, h3, by omega⟩
/-- all stays but the urn -/
abbrev Uw (u : Addr) (H H' : Hp) : Prop := Cw u u H H'
theorem Uw.base {u : Addr} {B H H' : Hp} (c : Uw u H H') (e : Ex B H) (h : B u = none) : Ex B H' := Cw.base c e h h
/-- as Nw, but the urn may change -/
structure Nu (u : Addr) (B H B' H' : Hp) : Prop where
  bb : Ex B B'
  bh : Ex B' H'
  uw : Uw u H H'
  fr : ∀ a, H' a = none → H a = none
  old : ∀ a, H a ≠ none → B' a = B a
theorem Nu.of {u : Addr} {B H B' H' : Hp} (n : Nw B H B' H') : Nu u B H B' H' := ⟨n.bb, n.bh, .of n.hh, fun _ h => n.hh.free h, n.old⟩
theorem Nu.trans {u : Addr} {B H B1 H1 B2 H2 : Hp} (a : Nu u B H B1 H1) (b : Nu u B1 H1 B2 H2) : Nu u B H B2 H2 :=
  ⟨a.bb.trans b.bb, b.bh, a.uw.trans b.uw, fun x h => a.fr x (b.fr x h), fun x hx => by rw [b.old x (fun z => hx (a.fr x z)), a.old x hx]⟩
theorem Nu.cell {u : Addr} {B H B' H' : Hp} {c : Addr} {o : HO} (n : Nu u B H B' H') (h : H c = some o) (hb : B c = none) (hc : c ≠ u) : H' c = some o ∧ B' c = none := ⟨n.uw c o hc hc h, by rw [n.old c (by rw [h]; simp)]; exact hb⟩
theorem Nu.adopt {u : Addr} {B H B' H' : Hp} {p : Addr} {o : HO} (n : Nu u B H B' H') (h : H p = none) (hb : B' p = none) (h' : H' p = some o) : Nu u B H (upd B' p o) H' :=
  ⟨n.bb.trans (Ex.new hb), ex_take n.bh h', n.uw, n.fr, fun a ha => by
    rw [upd_ne (fun z => ha (by rw [z]; exact h))]
    exact n.old a ha⟩
theorem Nu.put {u : Addr} {B H B' H' : Hp} {p : Addr} {o : HO} (n : Nu u B H B' H') (h : H p = none) (hb : B' p = none) : Nu u B H B' (upd H' p o) :=
  ⟨n.bb, n.bh.mut hb, fun a v h1 h2 ha => by rw [upd_ne (ne_of_none ha h)]; exact n.uw a v h1 h2 ha, fun a ha => n.fr a (by
    by_cases z : a = p
    · rw [z, upd_same] at ha; cases ha
    · rw [upd_ne z] at ha; exact ha), n.old⟩
theorem Nu.refl {u : Addr} {B H : Hp} (e : Ex B H) : Nu u B H B H := .of (Nw.refl e)
/-- a call that changed the urn alone -/
theorem Nu.call {u : Addr} {B H H' : Hp} {n m : Int} (e : Ex B H) (b : B u = none) (w : Uw u H H') (h : Urn H u n) (h' : Urn H' u m) : Nu u B H B H' := by
  refine ⟨Ex.refl B, w.base e b, w, fun a ha => ?_, fun _ _ => rfl⟩
  by_cases z : a = u
  · obtain ⟨_, _, _, h, _⟩ := h'
    rw [z, h] at ha
    cases ha
  · cases q : H a with
    | none => rfl
    | some o => rw [w a o z z q] at ha; cases ha
section
variable {P : Program} {w : World} {K : PySem.W.Frag} {mg : Str → Option Value} {base : Heap}
def spTake : Sp := fun vs H Q _ => ∃ (u : Addr) (low n : Int), vs = [.ref u, .int low] ∧ Urn H u n ∧ n ≤ 1000 ∧ 1 ≤ low ∧ low ≤ 1000 ∧ ∀ i H', 0 ≤ i → i < low → Uw u H H' → Urn H' u (n + 1) → Q (.int i) H'
theorem Ev.int_is {ι : Type} {X : ι → Cx} {e : Expr} {σ : L2.St} {B : Hp} {i j : Int} (h : Ev X e σ B (.int i)) (q : i = j) : Ev X e σ B (.int j) := h.is (by rw [q])
theorem fn_take (k : Nat) (F : Df K mg "_law_take" s__law_take ["_law_urn", "_law_low_so"]) (mi : mg "int" = none) : Fn P w K mg base "_law_take" (k + 1) ["_law_urn", "_law_low_so"] spTake := by
  obtain ⟨f, fd, F, hm, hb⟩ := F
  refine fn_any F sc__law_take hm hb (fun vs H Q E h => ?_) (fun X C vs H Q E h => ?_)
  · obtain ⟨_, _, _, rfl, _⟩ := h
    rfl
  · obtain ⟨u, low, n, rfl, ⟨a, b, c, hu, a0, c0, cn⟩, n1, l1, l2, q⟩ := h
    have ru : ∀ {a b c : Int}, Rp (upd E0h u (.lst [.int a, .int b, .int c])) (.ref u) (.list [.int a, .int b, .int c]) := .lst upd_same (.cons (.int _) (.cons (.int _) (.cons (.int _) .nil)))
    have eu : ∀ {H : Hp} {a b c : Int}, H u = some (.lst [.int a, .int b, .int c]) → Ex (upd E0h u (.lst [.int a, .int b, .int c])) H := fun h => ex_take (E0h.ex _) h
    -- if urn[0] > 0
    refine ws_ifN (et_cmp o_gt (ev_ix (j := 0) (C.nm 0 rfl ru) ev_int rfl rfl rfl) ev_int) (eu hu) (fun hy H1 x1 => ?_) fun hy H1 x1 => ?_
    · have h1 := x1 _ _ hu
      refine ws_set C 2 (ev_bin (o_mod (by omega)) (ev_callTy C c_int (ea_cons (ev_ix (j := 0) (C.nm 0 rfl ru) ev_int rfl rfl rfl) ea_nil) mi) (C.nm 1 rfl (.int low))) (eu h1) fun v B2 H2 n2 r2 => ?_
      cases r2
      have h2 := n2.hh _ _ h1
      refine ws_setItemT C 0 (n := a / low) (j := 0) (ev_bin (o_fdiv ⟨by omega, by omega⟩) (ev_ix (j := 0) (C.nm 0 rfl ru) ev_int rfl rfl rfl) (C.nm 1 rfl (.int low))) ev_int (E0h.ex H2) rfl h2 rfl (by simp) fun B3 H3 n3 b3 h3 => ?_
      refine ws_ret (B := E0h) (C.nm 2 rfl (.int _)) (E0h.ex _) fun v4 B4 H4 n4 r4 => ?_
      cases r4
      have hlow : (0 : Int) < low := by omega
      exact q _ H4 (Int.emod_nonneg _ (by omega)) (Int.emod_lt_of_pos _ hlow) ((((Cw.of x1).trans (.of n2.hh)).trans (.of n3.hh)).trans (Cw.up1.trans (.of n4.hh))) ⟨a / low, b, c, n4.hh _ _ upd_same, Int.ediv_nonneg a0 (by omega), c0, by omega⟩
    · have h1 := x1 _ _ hu
      -- urn[2] = urn[2] + 1
      refine ws_setItemT C 0 (n := c + 1) (j := 2) (ev_bin o_add (ev_ix (j := 2) (C.nm 0 rfl ru) ev_int rfl rfl rfl) ev_int) ev_int (E0h.ex H1) rfl h1 rfl (by simp) fun B3 H3 n3 b3 h3 => ?_
      have h4 : upd H3 u (.lst ([V.int a, .int b, .int c].set 2 (.int (c + 1)))) u = some (.lst [.int a, .int b, .int (c + 1)]) := upd_same
      have cw4 : Uw u H (upd H3 u (.lst ([V.int a, .int b, .int c].set 2 (.int (c + 1))))) := ((Cw.of x1).trans (.of n3.hh)).trans Cw.up1
      generalize upd H3 u (.lst ([V.int a, .int b, .int c].set 2 (.int (c + 1)))) = H4 at h4 cw4
      refine ws_set C 3 (ev_bin (o_mod (by decide)) (ev_callTy C c_int (ea_cons (ev_bin (o_mul (.inr ⟨?_, ?_⟩)) (ev_bin o_add (ev_ix (j := 1) (C.nm 0 rfl ru) ev_int rfl rfl rfl) (ev_bin (o_mul (.inl ⟨?_, ?_⟩)) ev_int (ev_ix (j := 2) (C.nm 0 rfl ru) ev_int rfl rfl rfl))) (ev_bin o_add ev_int (ev_ix (j := 2) (C.nm 0 rfl ru) ev_int rfl rfl rfl))) ea_nil) mi) ev_int) (eu h4) fun v B5 H5 n5 r5 => ?_
      · omega
      · omega
      · decide
      · decide
      cases r5
      have h5 := n5.hh _ _ h4
      generalize ho : (b + 48271 * (c + 1)) * (39373 + (c + 1)) % 2147483647 = once
      have o1 : 0 ≤ once ∧ once < 2147483647 := by rw [← ho]; exact ⟨Int.emod_nonneg _ (by decide), Int.emod_lt_of_pos _ (by decide)⟩
      refine ws_set C 4 (ev_bin o_add (ev_bin (o_mod (by decide)) (ev_callTy C c_int (ea_cons (C.nm 3 rfl (.int once)) ea_nil) mi) ev_int) ev_int) (eu h5) fun v B6 H6 n6 r6 => ?_
      cases r6
      have h6 := n6.hh _ _ h5
      generalize hf : once % 40009 + 7 = far
      have f1 : 0 ≤ far ∧ far < 50000 := by
        have := Int.emod_nonneg once (b := 40009) (by decide)
        have := Int.emod_lt_of_pos once (b := 40009) (by decide)
        omega
      refine ws_set C 5 (ev_bin (o_mod (by decide)) (ev_callTy C c_int (ea_cons (ev_bin (o_mul (.inr ⟨?_, ?_⟩)) (ev_bin o_add (ev_bin o_add (C.nm 3 rfl (.int once)) (ev_ix (j := 2) (C.nm 0 rfl ru) ev_int rfl rfl rfl)) (ev_bin (o_fdiv ⟨by decide, by decide⟩) (ev_ix (j := 1) (C.nm 0 rfl ru) ev_int rfl rfl rfl) ev_int)) (C.nm 4 rfl (.int far))) ea_nil) mi) ev_int) (eu h6) fun v B7 H7 n7 r7 => ?_
      · omega
      · omega
      cases r7
      have h7 := n7.hh _ _ h6
      generalize (once + (c + 1) + b / 1000003) * far % 2147483629 = twice
      refine ws_ret (ev_bin (o_mod (by omega)) (ev_callTy C c_int (ea_cons (ev_bin (o_fdiv ⟨by decide, by decide⟩) (ev_bin (o_mod (by decide)) (ev_callTy C c_int (ea_cons (ev_bin o_add (ev_bin (o_mul (.inr ⟨by decide, by decide⟩)) (C.nm 5 rfl (.int twice)) ev_int) (C.nm 3 rfl (.int once))) ea_nil) mi) ev_int) ev_int) ea_nil) mi) (C.nm 1 rfl (.int low))) (eu h7) fun v8 B8 H8 n8 r8 => ?_
      cases r8
      have hlow : (0 : Int) < low := by omega
      exact q _ H8 (Int.emod_nonneg _ (by omega)) (Int.emod_lt_of_pos _ hlow) (((((cw4).trans (.of n5.hh)).trans (.of n6.hh)).trans (.of n7.hh)).trans (.of n8.hh)) ⟨a, b, c + 1, n8.hh _ _ h7, a0, by omega, by omega⟩
/-- the promise of of -/
def spOf : Sp := fun vs H Q _ => ∃ (B : Hp) (u : Addr) (n : Int) (vg : V) (ds : List PyData), vs = [.ref u, vg] ∧ Ex B H ∧ B u = none ∧ Rp B vg (.list ds) ∧ 1 ≤ ds.length ∧ ds.length ≤ 100 ∧ Urn H u n ∧ n ≤ 1000 ∧ ∀ v d B' H', d ∈ ds → Nu u B H B' H' → Rp B' v d → Urn H' u (n + 1) → Q v H'
theorem fn_of (k : Nat) (hk : 1 ≤ k) (F : Df K mg "_law_of" s__law_of ["_law_urn", "_law_goods_so"]) (G : Fn P w K mg base "_law_take" 1 ["_law_urn", "_law_low_so"] spTake) (ml : mg "len" = none) : Fn P w K mg base "_law_of" (k + 1) ["_law_urn", "_law_goods_so"] spOf := by
  obtain ⟨f, fd, F, hm, hb⟩ := F
  refine fn_any F sc__law_of hm hb (fun vs H Q E h => ?_) (fun X C vs H Q E h => ?_)
  · obtain ⟨_, _, _, _, _, rfl, _⟩ := h
    rfl
  · obtain ⟨B, u, n, vg, ds, rfl, eB, bu, rg, d1, d2, hu, n1, q⟩ := h
    refine ws_retR (we_ixR (C.nm 1 rfl rg) eB rfl fun v B1 H1 m1 r1 => ?_)
    have hu1 := hu.up m1.hh (Int.le_refl _)
    have b1 : B1 u = none := by
      obtain ⟨a, b, c, h, _⟩ := hu
      rw [m1.old u (by rw [h]; simp)]
      exact bu
    refine we_call C G hk (wa_cons (we_var C 0 rfl (wa_cons ((ev_callB C (c_len C rfl) (ea_cons (C.nm 1 rfl rg) ea_nil) ml).use (m1.bb.trans m1.bh) fun vl B2 H2 m2 r2 => wa_nil ?_))))
    cases r2
    refine ⟨u, (ds.length : Nat), n, rfl, hu1.up m2.hh (Int.le_refl _), n1, by omega, by omega, fun i H' i0 i1 uw hu' => ?_⟩
    have hi : i.toNat < ds.length := by omega
    have x2 : Ex B1 H2 := m1.bh.trans m2.hh
    refine ⟨i.toNat, ds[i.toNat], by rw [Int.toNat_of_nonneg i0], uw.base x2 b1, List.getElem?_eq_getElem hi, fun y ry => q y _ B1 H' (List.getElem_mem hi) ((Nu.of (m1.trans (Nw.grow m1.bh m2.hh))).trans (Nu.call x2 b1 uw (hu1.up m2.hh (Int.le_refl _)) hu')) ry hu'⟩
end
end Mr
end

section
set_option Elab.async false
set_option linter.all false
set_option maxRecDepth 100000
set_option maxHeartbeats 2000000
namespace Mr
open PySem L2 Lay Mn
section
variable {P : Program} {w : World} {K : PySem.W.Frag} {mg : Str → Option Value} {base : Heap}
def spBox : Sp := fun vs H Q _ => ∃ (B : Hp) (v : V) (cs : List Int) (k : Nat), vs = [v, .int (k : Int)] ∧ Ex B H ∧ Rp B v (.list (cs.map PyData.int)) ∧ k ≤ 1000 ∧ ∀ u H', Ex H H' → H u = none → Urn H' u 0 → Q (.ref u) H'
theorem fn_box (k : Nat) (F : Df K mg "_law_box" s__law_box ["_law_script", "_law_k"]) (mi : mg "int" = none) (ma : mg "abs" = none) (ml : mg "len" = none) : Fn P w K mg base "_law_box" (k + 1) ["_law_script", "_law_k"] spBox := by
  obtain ⟨f, fd, F, hm, hb⟩ := F
  refine fn_any F sc__law_box hm hb (fun vs H Q E h => ?_) (fun X C vs H Q E h => ?_)
  · obtain ⟨_, _, _, _, rfl, _⟩ := h
    rfl
  · obtain ⟨B, v, cs, j, rfl, eB, rv, hj, q⟩ := h
    refine ws_set C 2 (d := .int (cs.getD j 0)) (ev_if (et_cmp o_lt (C.nm 1 rfl (.int _)) (ev_callB C (c_len C rfl) (ea_cons (C.nm 0 rfl rv) ea_nil) ml)) (fun hy => ?_) fun hy => ?_) eB fun v B1 H1 n1 r1 => ?_
    · have hy := of_decide_eq_true hy
      rw [List.length_map] at hy
      exact ev_ix (j := j) (C.nm 0 rfl rv) (C.nm 1 rfl (.int _)) rfl rfl (get_map 0 (by omega))
    · have hy := of_decide_eq_false hy
      rw [List.length_map] at hy
      rw [List.getD_eq_getElem?_getD, List.getElem?_eq_none (by omega)]
      exact ev_int
    cases r1
    generalize cs.getD j 0 = c
    have eb : ∀ {y : Bool}, (-(2 ^ 64) < (if y then (1 : Int) else 0)) ∧ (if y then (1 : Int) else 0) < 2 ^ 64 := fun {y} => by cases y <;> decide
    refine ws_retR (we_lst (wa_cons ((ev_bin (o_mul (.inr eb)) (ev_callB C c_abs (ea_cons (C.nm 2 rfl (.int c)) ea_nil) ma) (ev_callTy C c_intB (ea_cons (ev_cmp o_ge (ev_callB C c_abs (ea_cons (C.nm 2 rfl (.int c)) ea_nil) ma) (ev_bin (o_pow ⟨by decide, by decide, by decide⟩) ev_int ev_int)) ea_nil) mi)).use n1.bh fun v2 B2 H2 n2 r2 =>
      wa_cons ((ev_bin o_add (ev_bin o_add (ev_bin (o_mod (by decide)) (ev_callTy C c_int (ea_cons (C.nm 2 rfl (.int c)) ea_nil) mi) ev_int) (ev_bin (o_mul (.inl ⟨by decide, by decide⟩)) ev_int (C.nm 1 rfl (.int _)))) ev_int).use n2.bh fun v3 B3 H3 n3 r3 => wa_cons (ev_int.use n3.bh fun v4 B4 H4 n4 r4 => wa_nil ⟨by show 3 ≤ sizeLine; decide, fun u hu => ?_⟩)))))
    cases r2; cases r3; cases r4
    have nn := ((n1.trans n2).trans n3).trans n4
    refine q u _ (nn.hh.trans (Ex.new hu)) (nn.hh.free hu) ⟨_, _, 0, upd_same, ?_, Int.le_refl _, Int.le_refl _⟩
    have hnn : ∀ y : Bool, (0 : Int) ≤ (if y = true then 1 else 0) := fun y => by cases y <;> decide
    exact Int.mul_nonneg (by split <;> omega) (hnn _)
def spCells (K : PySem.W.Frag) : Sp := fun vs H Q _ => ∃ (B : Hp) (g : Addr) (ns : List Int), vs = [.ref g, .int 2] ∧ Ex B H ∧ SqL K B g (ns.map V.int) ∧ ns.length ≤ 1000 ∧ ∀ (cs : List Int) (v : V) (B' H' : Hp), Nw B H B' H' → Rp B' v (.list (cs.map PyData.int)) → 1 ≤ cs.length → cs.length ≤ 2 → Q v H'
theorem fn_cells (k : Nat) (F : Df K mg "_law_cells" s__law_cells ["_law_script", "_law_top"]) (mi : mg "int" = none) (ml : mg "list" = none) (me : mg "enumerate" = none) : Fn P w K mg base "_law_cells" (k + 1) ["_law_script", "_law_top"] (spCells K) := by
  obtain ⟨f, fd, F, hm, hb⟩ := F
  refine fn_any F sc__law_cells hm hb (fun vs H Q E h => ?_) (fun X C vs H Q E h => ?_)
  · obtain ⟨_, _, _, rfl, _⟩ := h
    rfl
  · obtain ⟨B, g, ns, rfl, eB, hg, hl, q⟩ := h
    refine ws_setR C 2 (We.weak (Q := fun v H1 => ∃ (p : Addr) (cs : List Int), v = .ref p ∧ Ex H H1 ∧ H p = none ∧ H1 p = some (.lst (cs.map V.int)) ∧ 1 ≤ cs.length ∧ cs.length ≤ 2 ∧ (2 ≤ ns.length → cs.length = 2)) (we_orR C (we_callTyR C (cr_listOf C) (wa_cons (we_slTo C 0 (m := 2) (C.nm 1 rfl (.int 2)) eB rfl (hg.up eB) fun B1 H1 p n1 hp => wa_nil ?_)) ml)) fun v H1 hq => ?_)
    · refine ⟨p, _, rfl, .inl (SqL.of upd_same), fun l hl' => ?_⟩
      have x1 : Ex H1 (upd H1 p (.lst (cutV (ns.map V.int) none (some 2)))) := Ex.new hp
      have cut : cutV (ns.map V.int) none (some 2) = (ns.take 2).map V.int := by
        unfold cutV
        rw [List.length_map, show (some (2 : Int)) = some ((2 : Nat) : Int) from rfl, HT.sIx_nat]
        show ((ns.map V.int).drop 0).take (min 2 ns.length - 0) = _
        rw [List.drop_zero, Nat.sub_zero, ← List.map_take]
        congr 1
        rcases Nat.le_total 2 ns.length with z | z
        · rw [Nat.min_eq_left z]
        · rw [Nat.min_eq_right z, List.take_of_length_le (Nat.le_refl _), List.take_of_length_le z]
      rw [cut] at x1 hl' ⊢
      have x2 : Ex H (upd (upd H1 p (.lst ((ns.take 2).map V.int))) l (.lst ((ns.take 2).map V.int))) := (n1.hh.trans x1).trans (Ex.new hl')
      have nl : H l = none := (n1.hh.trans x1).free hl'
      refine ⟨l, _, rfl, upd_same, fun hne => ⟨l, ns.take 2, rfl, x2, nl, upd_same, ?_, ?_, fun h2 => ?_⟩, fun he => we_lst (wa_cons (ev_int.use (B := E0h) (E0h.ex _) fun v4 B4 H4 n4 r4 => wa_nil ⟨by show 1 ≤ sizeLine; decide, fun p' hp' => ?_⟩))⟩
      · rw [ne_eq, List.map_eq_nil_iff] at hne
        exact List.length_pos_iff.mpr hne
      · rw [List.length_take]; omega
      · rw [List.length_take]; omega
      · cases r4
        rw [List.map_eq_nil_iff] at he
        refine ⟨p', [0], rfl, (x2.trans n4.hh).trans (Ex.new hp'), (x2.trans n4.hh).free hp', upd_same, by decide, by decide, fun h2 => ?_⟩
        have := congrArg List.length he
        rw [List.length_take, List.length_nil] at this
        omega
    · obtain ⟨p, cs, rfl, x1, hp, hp1, c1, c2, c3⟩ := hq
      have bp : B p = none := eB.free hp
      have nA : Nw B H B H1 := Nw.grow eB x1
      -- for k, cell in enumerate(script[top:63])
      refine ws_for C (ei_enum C (ev_slFT C 0 (m := 2) (n := 63) (C.nm 1 rfl (.int 2)) ev_int rfl hg) me) nA.bh fun B2 H2 n2 => ?_
      have nB := nA.trans n2
      have h2 := n2.cell hp1 bp
      have dl : ∀ i x, (((ns.drop (HT.sIx ns.length 0 (some 2))).take (HT.sIx ns.length ns.length (some 63) - HT.sIx ns.length 0 (some 2))).map PyData.int).zipIdx[i]? = some x → x.2 = i ∧ i ≤ 1000 ∧ 2 ≤ ns.length ∧ ∃ z, x.1 = .int z := fun i x hx => by
        rw [List.getElem?_zipIdx] at hx
        obtain ⟨y, hy, e⟩ := Option.map_eq_some_iff.mp hx
        subst e
        have hlt := (List.getElem?_eq_some_iff.mp hy).1
        rw [List.length_map, List.length_take, List.length_drop, show (some (2 : Int)) = some ((2 : Nat) : Int) from rfl, HT.sIx_nat] at hlt
        rw [List.getElem?_map] at hy
        obtain ⟨z, _, ez⟩ := Option.map_eq_some_iff.mp hy
        refine ⟨Nat.zero_add i, ?_, ?_, z, ez.symm⟩
        · omega
        · omega
      refine ⟨fun i σ' H' => ∃ (cs' : List Int) (w3 w4 w5 : Option V) (B' : Hp), σ' = [some (.ref g), some (.int 2), some (.ref p), w3, w4, w5] ∧ Nw B H B' H' ∧ Ex B2 B' ∧ B' p = none ∧ H' p = some (.lst (cs'.map V.int)) ∧ cs'.length = cs.length,
        ⟨cs, _, _, _, B2, rfl, nB, Ex.refl _, h2.2, h2.1, rfl⟩, fun i d σ' H' hi ⟨cs', w3, w4, w5, B', e, n, x2, bp', hp', hl'⟩ => ⟨B', x2, n.bh, fun v B3 H3 n3 rv => ?_⟩, fun i σ' H' ⟨_, _, _, _, B', _, n, x2, _⟩ => x2.trans n.bh, fun σ' H' ⟨cs', w3, w4, w5, B', e, n, x2, bp', hp', hl'⟩ => ?_⟩
      · subst e
        rw [List.getElem?_map] at hi
        obtain ⟨x, hx, rfl⟩ := Option.map_eq_some_iff.mp hi
        obtain ⟨e1, e2, e3, z, ez⟩ := dl i x hx
        have c3' := c3 e3
        rw [ez, e1] at rv
        refine wg_tup2 C rv n3.bh fun y1 y2 ry1 ry2 => wg_name C 3 (wg_name C 4 ?_)
        cases ry1; cases ry2
        refine ws_set C 5 (ev_bin (o_mod (by decide)) (ev_callTy C c_int (ea_cons (C.nm 3 rfl (.int _)) ea_nil) mi) (C.nm 1 rfl (.int 2))) n3.bh fun v B4 H4 n4 r4 => ?_
        cases r4
        have m4 := n.trans (n3.trans n4)
        have h4 := (n3.trans n4).cell hp' bp'
        have hj : (i % 2) < cs'.length := by omega
        have ej : ((i : Int) % 2) = ((i % 2 : Nat) : Int) := by omega
        have eg : Ex B4 (upd B4 p (.lst (cs'.map V.int))) := Ex.new h4.2
        have hget : (cs'.map PyData.int)[i % 2]? = some (.int (cs'.getD (i % 2) 0)) := get_map 0 hj
        refine ws_setItemT C 2 (n := cs'.getD (i % 2) 0 + z * ((i : Int) + 2)) (j := i % 2) (ev_bin o_add (ev_ix (j := i % 2) (C.nm 2 rfl (.lst upd_same (RpAll.ints cs'))) (C.nm 5 rfl (.int _)) ej rfl hget) (ev_bin (o_mul (.inr ⟨by omega, by omega⟩)) (C.nm 4 rfl (.int z)) (ev_bin o_add (C.nm 3 rfl (.int _)) ev_int)))
          ((C.nm 5 rfl (.int _)).is (by rw [ej])) m4.bh rfl h4.1 h4.2 (by rw [List.length_map]; exact hj) fun B5 H5 n5 b5 h5 => ws_nil ?_
        refine ⟨cs'.set (i % 2) (cs'.getD (i % 2) 0 + z * ((i : Int) + 2)), _, _, _, B5, rfl, (m4.trans n5).put hp b5, ((x2.trans n3.bb).trans n4.bb).trans n5.bb, b5, ?_, by rw [List.length_set]; exact hl'⟩
        rw [upd_same, List.map_set]
      · subst e
        have nad := n.adopt hp bp' hp'
        exact ws_ret (C.nm 2 rfl (.lst upd_same (RpAll.ints cs'))) nad.bh fun v B5 H5 n5 r => q cs' v B5 H5 (nad.trans n5) r (by omega) (by omega)
end
end Mr
end

section
set_option Elab.async false
set_option linter.all false
set_option maxRecDepth 100000
set_option maxHeartbeats 2000000
namespace Mr
open PySem L2 Lay Mn
/-- between draws -/
structure US (B H : Hp) (u : Addr) (n : Int) : Prop where
  ex : Ex B H
  no : B u = none
  urn : Urn H u n
theorem US.nu {B H B1 H1 : Hp} {u : Addr} {n m : Int} (s : US B H u n) (k : Nu u B H B1 H1) (h : Urn H1 u m) : US B1 H1 u m :=
  ⟨k.bh, by obtain ⟨a, b, c, h, _⟩ := s.urn; rw [k.old u (by rw [h]; simp)]; exact s.no, h⟩
theorem US.step {B H B1 H1 : Hp} {u : Addr} {n : Int} (s : US B H u n) (m : Nw B H B1 H1) : US B1 H1 u n := s.nu (.of m) (s.urn.up m.hh (Int.le_refl _))
theorem US.le {B H : Hp} {u : Addr} {n m : Int} (s : US B H u n) (h : n ≤ m) : US B H u m := ⟨s.ex, s.no, s.urn.up (Ex.refl _) h⟩
theorem US.ne {B H : Hp} {u p : Addr} {n : Int} (s : US B H u n) (h : H p = none) : u ≠ p := by
  obtain ⟨_, _, _, h', _⟩ := s.urn
  exact ne_of_none h' h
theorem US.mut {B H : Hp} {u p : Addr} {n : Int} {o : HO} (s : US B H u n) (hp : B p = none) (hpu : u ≠ p) : US B (upd H p o) u n := ⟨s.ex.mut hp, s.no, by
  obtain ⟨a, b, c, h, r⟩ := s.urn
  exact ⟨a, b, c, by rw [upd_ne hpu]; exact h, r⟩⟩
theorem US.adopt {B H : Hp} {u p : Addr} {n : Int} {o : HO} (s : US B H u n) (hp : H p = some o) (hpu : u ≠ p) : US (upd B p o) H u n := ⟨ex_take s.ex hp, by rw [upd_ne hpu]; exact s.no, s.urn⟩
section
variable {P : Program} {w : World} {K : PySem.W.Frag} {mg : Str → Option Value} {base : Heap}
section
variable {ι : Type} {X : ι → Cx} {N : List Str} {sc : Scope} {own : Str → Bool} {k : Nat} {e : Expr} {σ : L2.St} {B H : Hp} {pos p pu : Pos} {u : Addr} {n : Int}
theorem we_take (F : Fx X P w K mg base N sc own k) (G : Fn P w K mg base "_law_take" 1 ["_law_urn", "_law_low_so"] spTake) (io : Nat) {low : Int} {Q : VK} (hk : 1 ≤ k) (s : US B H u n) (hn : n ≤ 1000) (he : Ev X e σ B (.int low)) (h1 : 1 ≤ low) (h2 : low ≤ 1000) (hs : σ[io]? = some (some (.ref u)))
    (q : ∀ i B' H', 0 ≤ i → i < low → US B' H' u (n + 1) → Nu u B H B' H' → Q (.int i) H') (hN : N[io]? = some "_law_urn" := by rfl) (hv : Vis sc "_law_urn" := by first | exact Or.inl rfl | exact Or.inr (Or.inl rfl) | exact Or.inr (Or.inr rfl)) (hg : sc.names.lookup ("_law_take" : Str) = some .globalImplicit := by rfl)
    (he1 : ∀ env, starEach [.Name "_law_urn" pu, e] env = (false, eval (.Name "_law_urn" pu) env) :: starEach [e] env := by intro _; rfl) (he2 : ∀ env, starEach [e] env = (false, eval e env) :: starEach [] env := by intro _; rfl) (hpl : ∀ env, (backTo pos (starEach [e] env)).any (·.1) = false := by intro _; rfl) :
    We X (.Call (.Name "_law_take" p) [.Name "_law_urn" pu, e] [] pos) σ H Q := by
  refine we_call F G hk (wa_cons (we_var F io hs (wa_cons (he.use s.ex fun v B1 H1 n1 r1 => wa_nil ?_) he2) hN hv) he1) hg (by decide) he1 hpl
  cases r1
  have s1 := s.step n1
  exact ⟨u, low, n, rfl, s1.urn, hn, h1, h2, fun i H' i0 i1 uw hu => q i B1 H' i0 i1 (s1.nu (Nu.call s1.ex s1.no uw s1.urn hu) hu) ((Nu.of n1).trans (Nu.call s1.ex s1.no uw s1.urn hu))⟩
theorem we_of (F : Fx X P w K mg base N sc own k) (G : Fn P w K mg base "_law_of" 2 ["_law_urn", "_law_goods_so"] spOf) (io : Nat) {ds : List PyData} {Q : VK} (hk : 2 ≤ k) (s : US B H u n) (hn : n ≤ 1000) (he : Ev X e σ B (.list ds)) (h1 : 1 ≤ ds.length) (h2 : ds.length ≤ 100) (hs : σ[io]? = some (some (.ref u)))
    (q : ∀ v d B' H', d ∈ ds → US B' H' u (n + 1) → Nu u B H B' H' → Rp B' v d → Q v H') (hN : N[io]? = some "_law_urn" := by rfl) (hv : Vis sc "_law_urn" := by first | exact Or.inl rfl | exact Or.inr (Or.inl rfl) | exact Or.inr (Or.inr rfl)) (hg : sc.names.lookup ("_law_of" : Str) = some .globalImplicit := by rfl)
    (he1 : ∀ env, starEach [.Name "_law_urn" pu, e] env = (false, eval (.Name "_law_urn" pu) env) :: starEach [e] env := by intro _; rfl) (he2 : ∀ env, starEach [e] env = (false, eval e env) :: starEach [] env := by intro _; rfl) (hpl : ∀ env, (backTo pos (starEach [e] env)).any (·.1) = false := by intro _; rfl) :
    We X (.Call (.Name "_law_of" p) [.Name "_law_urn" pu, e] [] pos) σ H Q := by
  refine we_call F G hk (wa_cons (we_var F io hs (wa_cons (he.use s.ex fun v B1 H1 n1 r1 => wa_nil ?_) he2) hN hv) he1) hg (by decide) he1 hpl
  have s1 := s.step n1
  exact ⟨B1, u, n, v, ds, rfl, s1.ex, s1.no, r1, h1, h2, s1.urn, hn, fun v d B' H' hd nu rv hu => q v d B' H' hd (s1.nu nu hu) ((Nu.of n1).trans nu) rv⟩
end
def OkO (o : Option Int) : Prop := ∀ i, o = some i → -1 ≤ i ∧ i ≤ 7
def LastsOk (lasts : Lasts) : Prop := ∀ o ∈ lasts, OkO o
def spRoofs : Sp := fun vs H Q _ => ∃ (B : Hp) (u : Addr) (n deep : Int), vs = [.ref u, .int deep] ∧ US B H u n ∧ n ≤ 900 ∧ 1 ≤ deep ∧ deep ≤ 10 ∧
  ∀ (lasts : Lasts) (v : V) (B' H' : Hp), lasts.length = deep.toNat → LastsOk lasts → US B' H' u (n + 11) → Nu u B H B' H' → Rp B' v (.tuple (lasts.map eO)) → Q v H'
theorem fn_roofs (k : Nat) (hk : 2 ≤ k) (F : Df K mg "_law_roofs" s__law_roofs ["_law_urn", "_law_deep"]) (GT : Fn P w K mg base "_law_take" 1 ["_law_urn", "_law_low_so"] spTake) (GO : Fn P w K mg base "_law_of" 2 ["_law_urn", "_law_goods_so"] spOf) (ml : mg "len" = none) (mr : mg "range" = none) (ms : mg "sorted" = none) (mt : mg "tuple" = none) :
    Fn P w K mg base "_law_roofs" (k + 1) ["_law_urn", "_law_deep"] spRoofs := by
  obtain ⟨f, fd, F, hm, hb⟩ := F
  refine fn_any F sc__law_roofs hm hb (fun vs H Q E h => ?_) (fun X C vs H Q E h => ?_)
  · obtain ⟨_, _, _, _, rfl, _⟩ := h
    rfl
  · obtain ⟨B, u, n, deep, rfl, us, n1, d1, d2, q⟩ := h
    have C' := C.blk
    have lr : (rngD 0 deep.toNat).length = deep.toNat := by unfold rngD; rw [List.length_map, List.length_range]
    -- found = [of(urn, [..]) for k in range(deep)]
    refine ws_setLcS C 2 (ds := rngD 0 deep.toNat) [("_law_k", 4)] ((ei_range1 C (C.nm 1 rfl (.int deep)) mr (by omega)).useI us.ex fun J B1 H1 m1 dr => ⟨B1, m1.bh, dr, fun Da hDa => ?_⟩)
    have s1 := us.step m1
    have uD := s1.ne hDa
    have bD : B1 Da = none := m1.bh.free hDa
    have hD : H Da = none := m1.hh.free hDa
    refine ⟨fun i H' => ∃ (acc : List V) (ls : Lasts) (B' : Hp), US B' H' u (n + (i : Int)) ∧ Nu u B H B' H' ∧ Ex B1 B' ∧ B' Da = none ∧ H' Da = some (.lst acc) ∧ RpAll B' acc (ls.map eO) ∧ ls.length = i ∧ LastsOk ls,
      ⟨[], [], B1, (s1.mut bD uD).le (by omega), (Nu.of m1).put hD bD, Ex.refl _, bD, upd_same, .nil, rfl, fun _ h => absurd h List.not_mem_nil⟩, fun i d H' hi ⟨acc, ls, B', us', nu, x1, bD', hD', ra, hl, ok⟩ => ⟨B', x1, us'.ex, fun v B2 H2 n2 rv => ?_⟩, fun i H' ⟨_, _, B', us', _, x1, _⟩ => x1.trans us'.ex, fun H' ⟨acc, ls, B', us', nu, x1, bD', hD', ra, hl, ok⟩ => ?_⟩
    · have hlt : i < deep.toNat := by
        have := (List.getElem?_eq_some_iff.mp hi).1
        rwa [lr] at this
      have s2 := us'.step n2
      have c2 := n2.cell hD' bD'
      refine wg_name (C' _) 4 ⟨rfl, wts_nil ?_⟩
      rw [if_pos rfl]
      refine we_of (C' _) GO 0 hk s2 (by omega) (ds := [.int 3, .int 1, .int 5, .int 0, .int 6, .int 2, .int 4, .none, .int 7, .int (-1)]) (ev_lst (ea_cons ev_int (ea_cons ev_int (ea_cons ev_int (ea_cons ev_int (ea_cons ev_int (ea_cons ev_int (ea_cons ev_int (ea_cons ev_non (ea_cons ev_int (ea_cons (ev_neg ev_int) ea_nil))))))))))) (by simp) (by simp) rfl fun v d B3 H3 hd us3 nu3 rv3 => ?_
      have c3 := nu3.cell c2.1 c2.2 uD.symm
      obtain ⟨o, rfl, oo⟩ : ∃ o, d = eO o ∧ OkO o := by
        simp only [List.mem_cons, List.not_mem_nil, or_false] at hd
        rcases hd with rfl | rfl | rfl | rfl | rfl | rfl | rfl | rfl | rfl | rfl
        · exact ⟨some 3, rfl, fun i h => by cases h; decide⟩
        · exact ⟨some 1, rfl, fun i h => by cases h; decide⟩
        · exact ⟨some 5, rfl, fun i h => by cases h; decide⟩
        · exact ⟨some 0, rfl, fun i h => by cases h; decide⟩
        · exact ⟨some 6, rfl, fun i h => by cases h; decide⟩
        · exact ⟨some 2, rfl, fun i h => by cases h; decide⟩
        · exact ⟨some 4, rfl, fun i h => by cases h; decide⟩
        · exact ⟨none, rfl, fun i h => by cases h⟩
        · exact ⟨some 7, rfl, fun i h => by cases h; decide⟩
        · exact ⟨some (-1), rfl, fun i h => by cases h; decide⟩
      have nn := (nu.trans (.of n2)).trans nu3
      refine ⟨acc, c3.1, Nat.lt_of_lt_of_le (show acc.length < 1000 by rw [ra.length, List.length_map]; omega) (by decide), acc ++ [v], ls ++ [o], B3, (us3.mut c3.2 uD).le (by omega), nn.put hD c3.2, (x1.trans n2.bb).trans nu3.bb, c3.2, upd_same, ?_, by rw [List.length_append, hl]; rfl, fun z hz => ?_⟩
      · rw [List.map_append]
        exact ((ra.up n2.bb).up nu3.bb).append (.cons rv3 .nil)
      · rcases List.mem_append.mp hz with h | h
        · exact ok z h
        · rw [List.mem_singleton.mp h]; exact oo
    · rw [lr] at hl
      have us2 := us'.adopt hD' uD
      have nu2 := nu.adopt hD bD' hD'
      have rf : Rp (upd B' Da (.lst acc)) (.ref Da) (.list (ls.map eO)) := .lst upd_same (ra.up (Ex.new bD'))
      generalize upd B' Da (.lst acc) = B2 at us2 nu2 rf
      rw [lr] at us2
      -- if take(urn, 3) > 0
      refine ws_ifR (Wt.weak (Q := fun _ H3 => ∃ B3, US B3 H3 u (n + 11) ∧ Nu u B2 H' B3 H3) ?_ fun y H3 hq => ?_)
      · refine ⟨_, fun i => pt_cmpR (r := rI0 fun i j => .bl (decide (i > j))) op_gt (We.pe (X := X) (e := .Call (.Name "_law_take" _) [.Name "_law_urn" _, .Constant (.int 3) _ _] [] _) i) (pe_int (i := 0)) (by first | exact nomark _ | rfl), ?_⟩
        refine we_take C GT 0 (by omega) us2 (by omega) ev_int (by decide) (by decide) rfl fun i B3 H3 i0 i1 us3 nu3 => ?_
        exact ⟨i, 0, rfl, rfl, _, rfl, B3, us3.le (by omega), nu3⟩
      · obtain ⟨B3, us3, nu3⟩ := hq
        have rf3 := rf.up nu3.bb
        cases y with
        | true =>
          rw [if_pos rfl]
          -- whole = sorted([own for own in found if own is not None], reverse=True)
          refine ws_setR C 3 (we_sortedRev C (ns := (ls.filter fun o => o.isSome).map fun o => o.getD 0) ((ev_lc C (xs := ls) (enc := eO) [("_law_own", 5)] (ei_list C (C.nm 2 rfl rf3)) (fun o => o.isSome) eO (by omega) fun o ho B4 H4 v e1 e2 rv => ?_).is ?_) us3.ex ms fun ns' p B4 H4 n4 hp hfr => ?_)
          · exact turn_name (C' _) 5 (by decide) (es_one ((et_cmp o_notN ((C' _).nm 5 rfl rv) ev_non).is (by rw [isNone_O, Bool.not_not]))) fun _ => (C' _).nm 5 rfl rv
          · rw [List.map_map]
            congr 1
            refine List.map_congr_left fun o ho => ?_
            have := (List.mem_filter.mp ho).2
            cases o with
            | none => cases this
            | some i => rfl
          have n5 := n4.trans (Nw.new (o := .lst (ns'.map V.int)) n4.bh hfr)
          have rw5 : Rp (upd B4 p (.lst (ns'.map V.int))) (.ref p) (.list (ns'.map PyData.int)) := .lst upd_same (RpAll.ints _)
          generalize upd B4 p (.lst (ns'.map V.int)) = B5 at n5 rw5
          have us5 := us3.step n5
          have hlen : ns'.length ≤ ls.length := by
            rw [hp.length_eq, List.length_map]
            exact List.length_filter_le _ _
          -- found = [None] * (deep - len(whole)) + whole
          refine ws_set C 2 (d := .list ((List.replicate (ls.length - ns'.length) none ++ ns'.map some).map eO)) (Ev.is (ev_bin (o_catL (ds := List.replicate (deep - ((ns'.map PyData.int).length : Nat)).toNat .none) ?_) (ev_bin (o_rep1 (by rw [List.length_map]; omega) (by omega)) (ev_lst (ea_cons ev_non ea_nil)) (ev_bin o_sub (C.nm 1 rfl (.int deep)) (ev_callB C (c_len C rfl) (ea_cons (C.nm 3 rfl rw5) ea_nil) ml))) (C.nm 3 rfl rw5)) ?_) us5.ex fun v B6 H6 n6 r6 => ws_nil ?_
          · rw [List.length_replicate, List.length_map]
            exact sz5 (by omega)
          · rw [List.length_map, List.map_append, List.map_replicate, List.map_map, show (deep - (ns'.length : Int)).toNat = ls.length - ns'.length by omega]
            rfl
          refine ws_ret (ev_callTy C (c_tuple C) (ea_cons (C.nm 2 rfl r6) ea_nil) mt) n6.bh fun v B7 H7 n7 r7 => ?_
          have nn : Nu u B3 H3 B7 H7 := ((Nu.of n5).trans (.of n6)).trans (.of n7)
          refine q _ v B7 H7 ?_ ?_ (((us5.step n6).step n7)) ((nu2.trans nu3).trans nn) r7
          · rw [List.length_append, List.length_replicate, List.length_map]
            omega
          · intro o ho
            rcases List.mem_append.mp ho with h | h
            · rw [(List.mem_replicate.mp h).2]; exact fun i h => by cases h
            · obtain ⟨i, hi, rfl⟩ := List.mem_map.mp h
              have := hp.mem_iff.mp hi
              obtain ⟨o, ho2, rfl⟩ := List.mem_map.mp this
              obtain ⟨h1, h2⟩ := List.mem_filter.mp ho2
              cases o with
              | none => cases h2
              | some i => exact ok _ h1
        | false =>
          rw [if_neg Bool.false_ne_true]
          refine ws_nil (ws_ret (ev_callTy C (c_tuple C) (ea_cons (C.nm 2 rfl rf3) ea_nil) mt) us3.ex fun v B7 H7 n7 r7 => ?_)
          exact q ls v B7 H7 hl ok (us3.step n7) ((nu2.trans nu3).trans (.of n7)) r7
end
end Mr
end

section
set_option Elab.async false
set_option linter.all false
set_option maxRecDepth 100000
set_option maxHeartbeats 2000000
namespace Mr
open PySem L2 Lay Mn
theorem rng_len (n : Nat) : (rngD 0 n).length = n := by unfold rngD; rw [List.length_map, List.length_range]
theorem rng_lt {n i : Nat} {d : PyData} (h : (rngD 0 n)[i]? = some d) : i < n := by
  have := (List.getElem?_eq_some_iff.mp h).1
  rwa [rng_len] at this
section
variable {P : Program} {w : World} {K : PySem.W.Frag} {mg : Str → Option Value} {base : Heap}
def MusterOk (deep : Int) (muster : List Man) : Prop := muster.length ≤ 3 ∧ ∀ m ∈ muster, 1 ≤ m.1 ∧ m.1 ≤ deep ∧ 0 ≤ m.2 ∧ m.2 ≤ 4
def spMuster : Sp := fun vs H Q _ => ∃ (B : Hp) (u : Addr) (n deep : Int), vs = [.ref u, .int deep, .int 3] ∧ US B H u n ∧ n ≤ 900 ∧ 1 ≤ deep ∧ deep ≤ 10 ∧
  ∀ (muster : List Man) (v : V) (B' H' : Hp), MusterOk deep muster → US B' H' u (n + 7) → Nu u B H B' H' → Rp B' v (.tuple (muster.map eMan)) → Q v H'
theorem fn_muster (k : Nat) (hk : 2 ≤ k) (F : Df K mg "_law_muster" s__law_muster ["_law_urn", "_law_deep", "_law_most_here"]) (GT : Fn P w K mg base "_law_take" 1 ["_law_urn", "_law_low_so"] spTake) (GO : Fn P w K mg base "_law_of" 2 ["_law_urn", "_law_goods_so"] spOf) (mr : mg "range" = none) (mt : mg "tuple" = none) :
    Fn P w K mg base "_law_muster" (k + 1) ["_law_urn", "_law_deep", "_law_most_here"] spMuster := by
  obtain ⟨f, fd, F, hm, hb⟩ := F
  refine fn_any F sc__law_muster hm hb (fun vs H Q E h => ?_) (fun X C vs H Q E h => ?_)
  · obtain ⟨_, _, _, _, rfl, _⟩ := h
    rfl
  · obtain ⟨B, u, n, deep, rfl, us, n1, d1, d2, q⟩ := h
    have C' := C.blk
    -- many = of(urn, [most, most - 1, 2, most, 1, 0])
    refine ws_setR C 3 (we_of C GO 0 hk us (by omega) (ds := [.int 3, .int (3 - 1), .int 2, .int 3, .int 1, .int 0]) (ev_lst (ea_cons (C.nm 2 rfl (.int 3)) (ea_cons (ev_bin o_sub (C.nm 2 rfl (.int 3)) ev_int) (ea_cons ev_int (ea_cons (C.nm 2 rfl (.int 3)) (ea_cons ev_int (ea_cons ev_int ea_nil))))))) (by simp) (by simp) rfl fun v d B2 H2 hd us2 nu2 rv => ?_)
    obtain ⟨many, rfl, m0, m3⟩ : ∃ many : Int, d = .int many ∧ 0 ≤ many ∧ many ≤ 3 := by
      simp only [List.mem_cons, List.not_mem_nil, or_false] at hd
      rcases hd with rfl | rfl | rfl | rfl | rfl | rfl <;> exact ⟨_, rfl, by decide, by decide⟩
    cases rv
    -- return tuple([.. for k in range(many)])
    refine ws_retR (we_callTyR C (cr_tupleOf C) (wa_cons (we_lcS C (ds := rngD 0 many.toNat) [("_law_k", 4)] ((ei_range1 C (C.nm 3 rfl (.int many)) mr (by omega)).useI us2.ex fun J B1 H1 m1 dr => ⟨B1, m1.bh, dr, fun Da hDa => ?_⟩))) mt)
    have s1 := us2.step m1
    have uD := s1.ne hDa
    have bD : B1 Da = none := m1.bh.free hDa
    have nB : Nu u B H B1 H1 := nu2.trans (.of m1)
    have hD : H Da = none := nB.fr _ hDa
    refine ⟨fun i H' => ∃ (acc : List V) (ms : List Man) (B' : Hp), US B' H' u (n + 1 + 2 * (i : Int)) ∧ Nu u B H B' H' ∧ Ex B1 B' ∧ B' Da = none ∧ H' Da = some (.lst acc) ∧ RpAll B' acc (ms.map eMan) ∧ ms.length = i ∧ ∀ m ∈ ms, 1 ≤ m.1 ∧ m.1 ≤ deep ∧ 0 ≤ m.2 ∧ m.2 ≤ 4,
      ⟨[], [], B1, (s1.mut bD uD).le (by omega), nB.put hD bD, Ex.refl _, bD, upd_same, .nil, rfl, fun _ h => absurd h List.not_mem_nil⟩, fun i d H' hi ⟨acc, ms, B', us', nu, x1, bD', hD', ra, hl, ok⟩ => ⟨B', x1, us'.ex, fun v B3 H3 n3 rv => ?_⟩, fun i H' ⟨_, _, B', us', _, x1, _⟩ => x1.trans us'.ex, fun H' ⟨acc, ms, B', us', nu, x1, bD', hD', ra, hl, ok⟩ => ?_⟩
    · have hlt := rng_lt hi
      have s3 := us'.step n3
      have c3 := n3.cell hD' bD'
      refine wg_name (C' _) 4 ⟨rfl, wts_nil ?_⟩
      rw [if_pos rfl]
      -- (1 + take(urn, deep), of(urn, [..]))
      refine we_tup (wa_cons (we_opR (r := rI0 fun i j => .int (i + j)) (fun _ => op_add) (ev_int.use s3.ex fun v1 B4 H4 n4 r4 => we_take (C' _) GT 0 (by omega) (s3.step n4) (by omega) ((C' _).nm 1 rfl (.int deep)) d1 (by omega) rfl fun lv B5 H5 i0 i1 us5 nu5 => ?_)))
      cases r4
      refine ⟨1, lv, rfl, rfl, wa_cons (we_of (C' _) GO 0 hk us5 (by omega) (ds := [.int 0, .int 1, .int 0, .int 2, .int 4, .int 0]) (ev_lst (ea_cons ev_int (ea_cons ev_int (ea_cons ev_int (ea_cons ev_int (ea_cons ev_int (ea_cons ev_int ea_nil))))))) (by simp) (by simp) rfl fun v d B6 H6 hd us6 nu6 rv6 => wa_nil ⟨by show 2 ≤ sizeLine; decide, fun p hp => ?_⟩)⟩
      obtain ⟨rdy, rfl, r0, r1⟩ : ∃ rdy : Int, d = .int rdy ∧ 0 ≤ rdy ∧ rdy ≤ 4 := by
        simp only [List.mem_cons, List.not_mem_nil, or_false] at hd
        rcases hd with rfl | rfl | rfl | rfl | rfl | rfl <;> exact ⟨_, rfl, by decide, by decide⟩
      cases rv6
      have nn : Nu u B' H' B6 H6 := ((Nu.of (n3.trans n4)).trans nu5).trans nu6
      have nn' : Nu u B' H' (upd B6 p (.tup [.int (1 + lv), .int rdy])) (upd H6 p (.tup [.int (1 + lv), .int rdy])) := nn.trans (.of (Nw.new nn.bh hp))
      have us7 := us'.nu nn' (us6.step (Nw.new us6.ex hp)).urn
      have c7 := nn'.cell hD' bD' uD.symm
      generalize hB7 : upd B6 p (.tup [.int (1 + lv), .int rdy]) = B7 at nn' us7 c7
      have rp : Rp B7 (.ref p) (eMan (1 + lv, rdy)) := by rw [← hB7]; exact .tup upd_same (.cons (.int _) (.cons (.int _) .nil))
      generalize upd H6 p (.tup [.int (1 + lv), .int rdy]) = H7 at nn' us7 c7
      refine ⟨acc, c7.1, Nat.lt_of_lt_of_le (show acc.length < 1000 by rw [ra.length, List.length_map]; omega) (by decide), acc ++ [.ref p], ms ++ [(1 + lv, rdy)], B7, (us7.mut c7.2 uD).le (by omega), (nu.trans nn').put hD c7.2, x1.trans nn'.bb, c7.2, upd_same, ?_, by rw [List.length_append, hl]; rfl, fun z hz => ?_⟩
      · rw [List.map_append]
        exact (ra.up nn'.bb).append (.cons rp .nil)
      · rcases List.mem_append.mp hz with h | h
        · exact ok z h
        · rw [List.mem_singleton.mp h]
          exact ⟨by show 1 ≤ 1 + lv; omega, by show 1 + lv ≤ deep; omega, r0, r1⟩
    · rw [rng_len] at hl us'
      refine wa_nil ⟨Da, acc, rfl, .inl ⟨SqL.of hD', fun l hl' => ?_⟩⟩
      have nw := Nw.new (o := .tup acc) us'.ex hl'
      exact q ms _ _ _ ⟨by omega, ok⟩ ((us'.step nw).le (by omega)) (nu.trans (.of nw)) (.tup upd_same (ra.up nw.bb))
end
end Mr
end

section
set_option Elab.async false
set_option linter.all false
set_option maxRecDepth 100000
set_option maxHeartbeats 2000000
namespace Mr
open PySem L2 Lay Mn
theorem US.shrink {B B' H : Hp} {u : Addr} {n : Int} (s : US B' H u n) (e : Ex B B') (h : B u = none) : US B H u n := ⟨e.trans s.ex, h, s.urn⟩
def putB (ks : List Brk) (p : Plat) (c : Int) : List Brk := if (ks.any fun e => decide (e.1 = p)) = true then ks.map (fun e => if e.1 = p then (e.1, c) else e) else ks ++ [(p, c)]
theorem key_eq (e p : Plat) : ([Sum.inl e.1, Sum.inl e.2] = ([Sum.inl p.1, Sum.inl p.2] : List L2.Key)) ↔ e = p := by
  constructor
  · intro h
    simp only [List.cons.injEq, Sum.inl.injEq, and_true] at h
    exact Prod.ext h.1 h.2
  · rintro rfl; rfl
theorem putK_B (ks : List Brk) (p : Plat) (c : Int) : putK (ks.map entB) [.inl p.1, .inl p.2] (.int c) = (putB ks p c).map entB := by
  have e : ((ks.map entB).any fun kv => decide (kv.1 = [Sum.inl p.1, Sum.inl p.2])) = ks.any fun e => decide (e.1 = p) := by
    rw [List.any_map]
    congr 1
    funext e
    exact decide_eq_decide.mpr (key_eq e.1 p)
  unfold putK putB
  rw [e]
  split
  · rw [List.map_map, List.map_map]
    refine List.map_congr_left fun x _ => ?_
    show (if (entB x).1 = [Sum.inl p.1, Sum.inl p.2] then ((entB x).1, V.int c) else entB x) = entB (if x.1 = p then (x.1, c) else x)
    by_cases h : x.1 = p
    · exact (if_pos ((key_eq x.1 p).mpr h)).trans (by rw [if_pos h]; rfl)
    · exact (if_neg (fun z => h ((key_eq x.1 p).mp z))).trans (by rw [if_neg h])
  · rw [List.map_append]; rfl
theorem putB_len (ks : List Brk) (p : Plat) (c : Int) : (putB ks p c).length ≤ ks.length + 1 := by
  unfold putB
  split
  · rw [List.length_map]; omega
  · rw [List.length_append]; exact Nat.le_refl _
theorem putB_nd {ks : List Brk} {p : Plat} {c : Int} (h : (ks.map (·.1)).Nodup) : ((putB ks p c).map (·.1)).Nodup := by
  unfold putB
  split
  · rw [List.map_map]
    have : (fun x : Brk => x.1) ∘ (fun e : Brk => if e.1 = p then (e.1, c) else e) = fun x => x.1 := by
      funext x
      simp only [Function.comp]
      split <;> rfl
    rw [this]
    exact h
  · rename_i hn
    rw [List.map_append, List.nodup_append]
    refine ⟨h, by simp, fun a ha b hb z => hn ?_⟩
    obtain ⟨x, hx, rfl⟩ := List.mem_map.mp ha
    simp only [List.map_cons, List.map_nil, List.mem_singleton] at hb
    exact List.any_eq_true.mpr ⟨x, hx, by rw [decide_eq_true_eq]; rw [z]; exact hb⟩
theorem putB_mem {ks : List Brk} {p : Plat} {c : Int} {x : Brk} (h : x ∈ putB ks p c) : x ∈ ks ∨ x = (p, c) := by
  unfold putB at h
  split at h
  · obtain ⟨y, hy, rfl⟩ := List.mem_map.mp h
    by_cases e : y.1 = p
    · rw [if_pos e, e]; exact .inr rfl
    · rw [if_neg e]; exact .inl hy
  · rcases List.mem_append.mp h with h | h
    · exact .inl h
    · exact .inr (List.mem_singleton.mp h)
def BrkOk (deep : Int) (b : Brk) : Prop := (b.1.1 = 0 ∨ b.1.1 = 1) ∧ b.1.1 ≤ b.1.2 ∧ b.1.2 < b.1.1 + deep ∧ 0 ≤ b.2 ∧ b.2 ≤ 5
structure BrksOk (deep : Int) (bs : List Brk) : Prop where
  len : bs.length ≤ 3
  nd : (bs.map (·.1)).Nodup
  ok : ∀ b ∈ bs, BrkOk deep b
/-- all the tuples of H taken into B -/
def tupB (B H : Hp) : Hp := fun a => match B a with | some o => some o | none => (match H a with | some (.tup xs) => some (.tup xs) | _ => none)
theorem tupB_ex (B H : Hp) : Ex B (tupB B H) := fun a o h => by unfold tupB; rw [h]
theorem tupB_in {B H : Hp} (e : Ex B H) : Ex (tupB B H) H := fun a o h => by
  unfold tupB at h
  cases hb : B a with
  | some o' => rw [hb] at h; cases h; exact e _ _ hb
  | none =>
    rw [hb] at h
    simp only at h
    cases hh : H a with
    | none => rw [hh] at h; cases h
    | some o' =>
      rw [hh] at h
      cases o' <;> simp at h
      rw [h]
theorem tupB_tup {B H : Hp} {a : Addr} {xs : List V} (e : Ex B H) (h : H a = some (.tup xs)) : tupB B H a = some (.tup xs) := by
  unfold tupB
  cases hb : B a with
  | some o => rw [e _ _ hb] at h; rw [h]
  | none => simp only [h]
theorem tupB_urn {B H : Hp} {u : Addr} {n : Int} (h : Urn H u n) (hb : B u = none) : tupB B H u = none := by
  obtain ⟨a, b, c, h, _⟩ := h
  unfold tupB
  rw [hb]
  simp only [h]
section
variable {P : Program} {w : World} {K : PySem.W.Frag} {mg : Str → Option Value} {base : Heap}
def spBreaks : Sp := fun vs H Q _ => ∃ (B : Hp) (u : Addr) (n deep : Int), vs = [.ref u, .int deep, .int 3] ∧ US B H u n ∧ n ≤ 900 ∧ 1 ≤ deep ∧ deep ≤ 10 ∧
  ∀ (bs : List Brk) (v : V) (B' H' : Hp), BrksOk deep bs → US B' H' u (n + 10) → Ex B B' → Uw u H H' → Rp B' v (.tuple (bs.map eBrk)) → Q v H'
theorem fn_breaks (k : Nat) (hk : 2 ≤ k) (F : Df K mg "_law_breaks" s__law_breaks ["_law_urn", "_law_deep", "_law_most_here"]) (GT : Fn P w K mg base "_law_take" 1 ["_law_urn", "_law_low_so"] spTake) (GO : Fn P w K mg base "_law_of" 2 ["_law_urn", "_law_goods_so"] spOf) (mr : mg "range" = none) (mt : mg "tuple" = none) (ms : mg "sorted" = none) :
    Fn P w K mg base "_law_breaks" (k + 1) ["_law_urn", "_law_deep", "_law_most_here"] spBreaks := by
  obtain ⟨f, fd, F, hm, hb⟩ := F
  refine fn_any F sc__law_breaks hm hb (fun vs H Q E h => ?_) (fun X C vs H Q E h => ?_)
  · obtain ⟨_, _, _, _, rfl, _⟩ := h
    rfl
  · obtain ⟨B, u, n, deep, rfl, us, n1, d1, d2, q⟩ := h
    refine ws_setR C 3 (en_dt fun g hg => ?_)
    have ug := us.ne hg
    have bg : B g = none := us.ex.free hg
    have us1 : US B (upd H g (.dT [])) u n := us.mut bg ug
    have uw1 : Uw u H (upd H g (.dT [])) := fun a o h1 h2 ha => by rw [upd_ne (ne_of_none ha hg)]; exact ha
    have hg1 : upd H g (.dT []) g = some (.dT []) := upd_same
    generalize upd H g (.dT []) = H1 at us1 uw1 hg1
    -- for lap in range(take(urn, most + 1))
    refine ws_forR C (wi_range1 C (we_take C GT 0 (by omega) us1 (by omega) (ev_bin o_add (C.nm 2 rfl (.int 3)) ev_int) (by decide) (by decide) rfl fun many B2 H2 i0 i1 us2 nu2 => ⟨many, rfl, by omega, by omega, rngD 0 many.toNat, B, (us2.shrink nu2.bb us1.no).ex, drives_rng, ?_⟩) mr)
    have us2' := us2.shrink nu2.bb us1.no
    have c2 := nu2.cell hg1 bg ug.symm
    refine ⟨fun i σ' H' => ∃ (ks : List Brk) (w4 w5 : Option V), σ' = [some (.ref u), some (.int deep), some (.int 3), some (.ref g), w4, w5] ∧ US B H' u (n + 1 + 3 * (i : Int)) ∧ Uw u H H' ∧ H' g = some (.dT (ks.map entB)) ∧ ks.length ≤ i ∧ (ks.map (·.1)).Nodup ∧ ∀ b ∈ ks, BrkOk deep b,
      ⟨[], _, _, rfl, us2'.le (by omega), uw1.trans nu2.uw, c2.1, Nat.le_refl _, List.nodup_nil, fun _ h => absurd h List.not_mem_nil⟩, fun i d σ' H' hi ⟨ks, w4, w5, e, us', uw, hg', hl, hnd, hok⟩ => ⟨B, Ex.refl _, us'.ex, fun v B3 H3 n3 rv => ?_⟩, fun i σ' H' ⟨_, _, _, _, us', _⟩ => us'.ex, fun σ' H' ⟨ks, w4, w5, e, us', uw, hg', hl, hnd, hok⟩ => ?_⟩
    · subst e
      have hlt := rng_lt hi
      have s3 := us'.step n3
      have c3 := n3.cell hg' bg
      refine wg_name C 4 ?_
      -- rod = take(urn, 2)
      refine ws_setR C 5 (we_take C GT 0 (by omega) s3 (by omega) ev_int (by decide) (by decide) rfl fun rod B4 H4 r0 r1 us4 nu4 => ?_)
      have c4 := nu4.cell c3.1 c3.2 ug.symm
      -- found[rod, rod + take(urn, deep)] = of(urn, [..])
      refine ws_dputR C 3 rfl (we_of C GO 0 hk us4 (by omega) (ds := [.int 0, .int 2, .int 1, .int 5, .int 3, .int 0]) (ev_lst (ea_cons ev_int (ea_cons ev_int (ea_cons ev_int (ea_cons ev_int (ea_cons ev_int (ea_cons ev_int ea_nil))))))) (by simp) (by simp) rfl fun v d B5 H5 hd us5 nu5 rv5 => ?_)
      obtain ⟨since, rfl, e0, e1⟩ : ∃ since : Int, d = .int since ∧ 0 ≤ since ∧ since ≤ 5 := by
        simp only [List.mem_cons, List.not_mem_nil, or_false] at hd
        rcases hd with rfl | rfl | rfl | rfl | rfl | rfl <;> exact ⟨_, rfl, by decide, by decide⟩
      cases rv5
      have c5 := nu5.cell c4.1 c4.2 ug.symm
      refine we_tup (wa_cons ((C.nm 5 rfl (.int rod)).use us5.ex fun v6 B6 H6 n6 r6 => wa_cons (we_opR (r := rI0 fun i j => .int (i + j)) (fun _ => op_add) ((C.nm 5 rfl (.int rod)).use n6.bh fun v7 B7 H7 n7 r7 => we_take C GT 0 (by omega) ((us5.step n6).step n7) (by omega) (C.nm 1 rfl (.int deep)) d1 (by omega) rfl fun lv B8 H8 l0 l1 us8 nu8 => ?_))))
      cases r6; cases r7
      refine ⟨rod, lv, rfl, rfl, wa_nil ⟨by show 2 ≤ sizeLine; decide, fun p hp => ?_⟩⟩
      have nn : Nu u B H' B8 H8 := ((((Nu.of n3).trans nu4).trans nu5).trans (.of (n6.trans n7))).trans nu8
      have c8 := nn.cell hg' bg ug.symm
      have us8' : US B H8 u (n + 1 + 3 * (i : Int) + 3) := (us8.shrink nn.bb us'.no).le (by omega)
      have hgp : g ≠ p := ne_of_none c8.1 hp
      have hup : u ≠ p := us8'.ne hp
      have us9 : US B (upd H8 p (.tup [.int rod, .int (rod + lv)])) u (n + 1 + 3 * (i : Int) + 3) := us8'.mut (us8'.ex.free hp) hup
      refine ⟨_, DPut.t (k := [.inl rod, .inl (rod + lv)]) (b := p) (by rw [upd_ne hgp]; exact c8.1) upd_same (by rw [List.length_map]; exact Nat.lt_of_lt_of_le (show ks.length < 1000 by omega) (by decide)), ws_nil ?_⟩
      refine ⟨putB ks (rod, rod + lv) since, _, _, rfl, (us9.mut bg ug).le (by omega), ?_, ?_, ?_, putB_nd hnd, fun b hb => ?_⟩
      · intro a o h1 h2 ha
        have h8 := (uw.trans nn.uw) a o h1 h2 ha
        rw [upd_ne (ne_of_none ha hg), upd_ne (ne_of_none h8 hp)]
        exact h8
      · rw [upd_same, putK_B ks (rod, rod + lv) since]
      · have := putB_len ks (rod, rod + lv) since
        omega
      · rcases putB_mem hb with hb | hb
        · exact hok b hb
        · rw [hb]
          exact ⟨by show rod = 0 ∨ rod = 1; omega, by show rod ≤ rod + lv; omega, by show rod + lv < rod + deep; omega, e0, e1⟩
    · subst e
      rw [rng_len] at hl us'
      -- return tuple(sorted(found.items()))
      refine ws_retR (we_callTyR C (cr_tupleOf C) (wa_cons (we_callBR C (fun y => cr_sortedBrk (C.calm y) (C.hu y)) (wa_cons (we_itemsT C 3 rfl hg' fun p hp => wa_nil ?_)) ms)) mt)
      have hgp : g ≠ p := ne_of_none hg' hp
      refine ⟨p, g, ks, rfl, upd_same, by rw [upd_ne hgp]; exact hg', by omega, fun H5 l ps x5 hperm hl5 hps => wa_nil ⟨l, _, rfl, .inl ⟨SqL.of hl5, fun t ht => ?_⟩⟩⟩
      have x6 : Ex H5 (upd H5 t (.tup (ps.map fun z => V.ref z.1))) := Ex.new ht
      have xx : Ex H' (upd H5 t (.tup (ps.map fun z => V.ref z.1))) := ((Ex.new hp).trans x5).trans x6
      have ht6 : upd H5 t (.tup (ps.map fun z => V.ref z.1)) t = some (.tup (ps.map fun z => V.ref z.1)) := upd_same
      generalize upd H5 t (.tup (ps.map fun z => V.ref z.1)) = H6 at x6 xx ht6
      have exB : Ex B H6 := us'.ex.trans xx
      have urn6 := us'.urn.up xx (Int.le_refl _)
      refine q (ps.map (·.2)) (.ref t) (tupB B H6) H6 ⟨by rw [hperm.length_eq]; omega, (hperm.map _).nodup_iff.mpr hnd, fun b hb => hok b (hperm.mem_iff.mp hb)⟩ ⟨tupB_in exB, tupB_urn urn6 us.no, urn6.up (Ex.refl _) (by omega)⟩ (tupB_ex _ _) (uw.trans (.of xx)) (.tup (tupB_tup exB ht6) ?_)
      have gen : ∀ L : List (Addr × BrkE), (∀ z ∈ L, ∃ q, H6 z.1 = some (.tup [.ref q, .int z.2.2]) ∧ H6 q = some (.tup [.int z.2.1.1, .int z.2.1.2])) → RpAll (tupB B H6) (L.map fun z => V.ref z.1) ((L.map (·.2)).map eBrk) := by
        intro L
        induction L with
        | nil => intro _; exact .nil
        | cons z L ih =>
          intro h
          obtain ⟨q, h1, h2⟩ := h z List.mem_cons_self
          exact .cons (.tup (tupB_tup exB h1) (.cons (.tup (tupB_tup exB h2) (.cons (.int _) (.cons (.int _) .nil))) (.cons (.int _) .nil))) (ih fun x hx => h x (List.mem_cons_of_mem _ hx))
      exact gen ps fun z hz => by
        obtain ⟨q, h1, h2⟩ := hps z hz
        exact ⟨q, x6 _ _ h1, x6 _ _ h2⟩
end
end Mr
end

section
set_option Elab.async false
set_option linter.all false
set_option maxRecDepth 100000
set_option maxHeartbeats 2000000
namespace Mr
open PySem L2 Lay Mn
def keyP (p : Plat) : List L2.Key := [.inl p.1, .inl p.2]
def spotsK (i : Nat) : List Plat := (List.range i).flatMap fun j : Nat => [((0 : Int), (j : Int)), ((1 : Int), (j : Int) + 1)]
theorem spotsK_succ (i : Nat) : spotsK (i + 1) = spotsK i ++ [((0 : Int), (i : Int)), ((1 : Int), (i : Int) + 1)] := by
  unfold spotsK
  rw [List.range_succ, List.flatMap_append]
  simp
theorem spotsK_mem {i : Nat} {p : Plat} (h : p ∈ spotsK i) : (p.1 = 0 ∧ p.2 < i) ∨ (p.1 = 1 ∧ p.2 < i + 1) := by
  unfold spotsK at h
  obtain ⟨j, hj, hp⟩ := List.mem_flatMap.mp h
  have := List.mem_range.mp hj
  simp only [List.mem_cons, List.not_mem_nil, or_false] at hp
  rcases hp with rfl | rfl
  · exact .inl ⟨rfl, by show (j : Int) < i; omega⟩
  · exact .inr ⟨rfl, by show (j : Int) + 1 < i + 1; omega⟩
theorem spotsK_len (i : Nat) : (spotsK i).length = 2 * i := by
  induction i with
  | zero => rfl
  | succ i ih => rw [spotsK_succ, List.length_append, ih]; simp only [List.length_cons, List.length_nil]; omega
theorem valV_none {kvs : List (List L2.Key × V)} {ps : List Plat} (h : kvs.map (·.1) = ps.map keyP) {p : Plat} (hp : p ∉ ps) : valV kvs (keyP p) = none := by
  cases e : valV kvs (keyP p) with
  | none => rfl
  | some v =>
    have h1 : (kvs.any fun kv => decide (kv.1 = keyP p)) = true := by rw [valV_any, e]; rfl
    obtain ⟨kv, hk, hd⟩ := List.any_eq_true.mp h1
    have h2 : keyP p ∈ kvs.map (·.1) := List.mem_map.mpr ⟨kv, hk, of_decide_eq_true hd⟩
    rw [h] at h2
    obtain ⟨y, hy, e2⟩ := List.mem_map.mp h2
    have : y = p := (key_eq y p).mp e2
    exact absurd (this ▸ hy) hp
section
variable {P : Program} {w : World} {K : PySem.W.Frag} {mg : Str → Option Value} {base : Heap}
def spSpots : Sp := fun vs H Q _ => ∃ (m : Nat), vs = [.int (m : Int), .int 0] ∧ m ≤ 100 ∧ ∀ (g : Addr) (kvs : List (List L2.Key × V)) (H' : Hp), Ex H H' → H g = none → H' g = some (.dT kvs) → kvs.map (·.1) = (spotsK m).map keyP → Q (.ref g) H'
theorem fn_spots (k : Nat) (F : Df K mg "_law_spots" s__law_spots ["_law_deep", "_law_made"]) (mr : mg "range" = none) : Fn P w K mg base "_law_spots" (k + 1) ["_law_deep", "_law_made"] spSpots := by
  obtain ⟨f, fd, F, hm, hb⟩ := F
  refine fn_any F sc__law_spots hm hb (fun vs H Q E h => ?_) (fun X C vs H Q E h => ?_)
  · obtain ⟨_, rfl, _⟩ := h
    rfl
  · obtain ⟨m, rfl, hm', q⟩ := h
    refine ws_setR C 2 (en_dt fun g hg => ?_)
    have x1 : Ex H (upd H g (.dT [])) := Ex.new hg
    refine ws_for C (B := E0h) (Ei.is (ei_range1 C (C.nm 0 rfl (.int _)) mr (by omega)) (by rw [Int.toNat_natCast])) (E0h.ex _) fun B1 H1 n1 => ?_
    have g1 : H1 g = some (.dT []) := n1.hh _ _ upd_same
    have b1 : B1 g = none := by rw [n1.old g (by rw [upd_same]; simp)]; rfl
    refine ⟨fun i σ' H' => ∃ (kvs : List (List L2.Key × V)) (w3 : Option V), σ' = [some (.int (m : Int)), some (.int 0), some (.ref g), w3] ∧ Ex H H' ∧ Ex B1 H' ∧ H' g = some (.dT kvs) ∧ kvs.map (·.1) = (spotsK i).map keyP,
      ⟨[], _, rfl, x1.trans n1.hh, n1.bh, g1, rfl⟩, fun i d σ' H' hi ⟨kvs, w3, e, xh, xb, hg', hk⟩ => ⟨B1, Ex.refl _, xb, fun v B2 H2 n2 rv => ?_⟩, fun i σ' H' ⟨_, _, _, _, xb, _⟩ => xb, fun σ' H' ⟨kvs, w3, e, xh, xb, hg', hk⟩ => ?_⟩
    · subst e
      have hlt := rng_lt hi
      have hd : d = .int (i : Int) := by
        unfold rngD at hi
        rw [List.getElem?_map, List.getElem?_range hlt] at hi
        simp only [Option.map_some, Option.some.injEq, Int.zero_add] at hi
        exact hi.symm
      subst hd
      cases rv
      have c2 := n2.cell hg' b1
      have l0 : kvs.length = 2 * i := by
        have e := congrArg List.length hk
        rw [List.length_map, List.length_map, spotsK_len] at e
        exact e
      refine wg_name C 3 ?_
      -- found[0, level] = level + made % 2
      refine ws_dputR C 2 rfl ((ev_bin o_add (C.nm 3 rfl (.int _)) (ev_bin (o_mod (by decide)) (C.nm 1 rfl (.int 0)) ev_int)).use n2.bh fun v B3 H3 n3 r3 => we_tup (wa_cons (ev_int.use n3.bh fun v4 B4 H4 n4 r4 => wa_cons ((C.nm 3 rfl (.int _)).use n4.bh fun v5 B5 H5 n5 r5 => wa_nil ⟨by show 2 ≤ sizeLine; decide, fun p hp => ?_⟩))))
      cases r4; cases r5
      have nn := (n3.trans n4).trans n5
      have c5 := nn.cell c2.1 c2.2
      have gp : g ≠ p := ne_of_none c5.1 hp
      refine ⟨_, DPut.t (k := keyP (0, (i : Int))) (b := p) (by rw [upd_ne gp]; exact c5.1) upd_same (Nat.lt_of_lt_of_le (show kvs.length < 1000 by omega) (by decide)), ?_⟩
      rw [putK_new v (valV_none hk (fun z => by rcases spotsK_mem z with ⟨_, h⟩ | ⟨h, _⟩; exact absurd h (by show ¬ ((i : Int) < i); omega); exact absurd h (show ¬ ((0 : Int) = 1) by decide)))]
      have x6 : Ex H5 (upd H5 p (.tup [.int 0, .int (i : Int)])) := Ex.new hp
      have n6 := nn.trans (Nw.grow nn.bh x6)
      have hH : Ex H (upd (upd H5 p (.tup [.int 0, .int (i : Int)])) g (.dT (kvs ++ [(keyP (0, (i : Int)), v)]))) := (xh.trans (n2.hh.trans n6.hh)).mut hg
      have hB : Ex B5 (upd (upd H5 p (.tup [.int 0, .int (i : Int)])) g (.dT (kvs ++ [(keyP (0, (i : Int)), v)]))) := n6.bh.mut c5.2
      have hgg : upd (upd H5 p (.tup [.int 0, .int (i : Int)])) g (.dT (kvs ++ [(keyP (0, (i : Int)), v)])) g = some (.dT (kvs ++ [(keyP (0, (i : Int)), v)])) := upd_same
      generalize upd (upd H5 p (.tup [.int 0, .int (i : Int)])) g (.dT (kvs ++ [(keyP (0, (i : Int)), v)])) = H7 at hH hB hgg
      -- found[1, level + 1] = level + 1 - made % 2
      refine ws_dputR C 2 rfl ((ev_bin o_sub (ev_bin o_add (C.nm 3 rfl (.int _)) ev_int) (ev_bin (o_mod (by decide)) (C.nm 1 rfl (.int 0)) ev_int)).use hB fun v' B8 H8 n8 r8 => we_tup (wa_cons (ev_int.use n8.bh fun v4 B9 H9 n9 r9 => wa_cons ((ev_bin o_add (C.nm 3 rfl (.int _)) ev_int).use n9.bh fun v5 B10 H10 n10 r10 => wa_nil ⟨by show 2 ≤ sizeLine; decide, fun p' hp' => ?_⟩))))
      cases r9; cases r10
      have nm := (n8.trans n9).trans n10
      have c10 := nm.cell hgg c5.2
      have gp' : g ≠ p' := ne_of_none c10.1 hp'
      refine ⟨_, DPut.t (k := keyP (1, (i : Int) + 1)) (b := p') (by rw [upd_ne gp']; exact c10.1) upd_same (Nat.lt_of_lt_of_le (show (kvs ++ [(keyP (0, (i : Int)), v)]).length < 1000 by rw [List.length_append, List.length_singleton]; omega) (by decide)), ws_nil ?_⟩
      have hk2 : (kvs ++ [(keyP (0, (i : Int)), v)]).map (·.1) = (spotsK i ++ [((0 : Int), (i : Int))]).map keyP := by rw [List.map_append, List.map_append, hk]; rfl
      rw [putK_new v' (valV_none hk2 (fun z => by
        rcases List.mem_append.mp z with z | z
        · rcases spotsK_mem z with ⟨h, _⟩ | ⟨_, h⟩
          · exact absurd h (show ¬ ((1 : Int) = 0) by decide)
          · exact absurd h (by show ¬ ((i : Int) + 1 < (i : Int) + 1); omega)
        · exact absurd (congrArg Prod.fst (List.mem_singleton.mp z)) (show ¬ ((1 : Int) = 0) by decide)))]
      refine ⟨_, _, rfl, ((hH.trans nm.hh).trans (Ex.new hp')).mut hg, ?_, upd_same, ?_⟩
      · exact ((((n2.bb.trans nn.bb).trans nm.bb).trans nm.bh).trans (Ex.new hp')).mut b1
      · rw [List.map_append, hk2, spotsK_succ, List.map_append, List.map_append]
        simp [keyP]
    · subst e
      rw [rng_len] at hk
      exact ws_retR (we_var C 2 rfl (q g kvs H' xh hg hg' hk))
theorem lex_le (p q : Plat) : PySem.W.dataLe false encP p q = decide (p.1 < q.1 ∨ (p.1 = q.1 ∧ p.2 ≤ q.2)) := by
  have := PySem.W.dataLe_ii (β := Plat) (fun p => p.1) (fun p => p.2)
  exact congrFun (congrFun this p) q
theorem srt_spots {m : Nat} (h : m = 2 ∨ m = 3) : srt encP (spotsK m) = platsOf m := by
  have hp : (srt encP (spotsK m)).Perm (platsOf m) := (srt_perm _ _).trans (by rcases h with rfl | rfl <;> decide)
  refine List.Perm.eq_of_pairwise (le := fun a b => PySem.W.dataLe false encP a b = true) (fun a b _ _ h1 h2 => ?_) (List.pairwise_mergeSort (fun a b c h1 h2 => ?_) (fun a b => ?_) _) ?_ hp
  · rw [lex_le, decide_eq_true_eq] at h1 h2
    exact Prod.ext (by omega) (by omega)
  · rw [lex_le, decide_eq_true_eq] at h1 h2 ⊢
    omega
  · rw [lex_le, lex_le, Bool.or_eq_true, decide_eq_true_eq, decide_eq_true_eq]
    omega
  · have e : (fun a b : Plat => PySem.W.dataLe false encP a b = true) = fun a b => (a.1 < b.1 ∨ (a.1 = b.1 ∧ a.2 ≤ b.2)) := by
      funext a b
      rw [lex_le, decide_eq_true_eq]
    rw [e]
    rcases h with rfl | rfl <;> decide
end
end Mr
end

section
set_option Elab.async false
set_option linter.all false
set_option maxRecDepth 100000
set_option maxHeartbeats 2000000
namespace Mr
open PySem L2 Lay Mn
/-- the parts as they are made -/
def subs (bs : List Brk) : List (List Brk) := bs.foldl (fun f one => f ++ f.map fun p => p ++ [one]) [[]]
def ePart (p : List Brk) : PyData := .tuple (p.map eBrk)
def keyPart (p : List Brk) : PyData := keyD (p.map eBrk)
def partsM (bs : List Brk) : List (List Brk) := srt keyPart (subs bs)
theorem subs_succ (bs : List Brk) (one : Brk) : subs (bs ++ [one]) = subs bs ++ (subs bs).map fun p => p ++ [one] := by unfold subs; rw [List.foldl_append]; rfl
theorem subs_len (bs : List Brk) : (subs bs).length = 2 ^ bs.length := by
  have : ∀ n : Nat, ∀ bs : List Brk, bs.length = n → (subs bs).length = 2 ^ n := by
    intro n
    induction n with
    | zero => intro bs h; rw [List.length_eq_zero_iff.mp h]; rfl
    | succ n ih =>
      intro bs h
      have hne : bs ≠ [] := fun z => by rw [z] at h; cases h
      rw [← List.dropLast_concat_getLast hne, subs_succ, List.length_append, List.length_map, ih bs.dropLast (by rw [List.length_dropLast]; omega), Nat.pow_succ]
      omega
  exact this _ bs rfl
theorem subs_mem {bs : List Brk} {p : List Brk} (h : p ∈ subs bs) : p.Sublist bs := by
  have : ∀ n : Nat, ∀ bs : List Brk, bs.length = n → ∀ p ∈ subs bs, p.Sublist bs := by
    intro n
    induction n with
    | zero =>
      intro bs h p hp
      have e := List.length_eq_zero_iff.mp h
      subst e
      rw [List.mem_singleton.mp hp]
      exact List.Sublist.refl _
    | succ n ih =>
      intro bs h p hp
      have hne : bs ≠ [] := fun z => by rw [z] at h; cases h
      have eb := List.dropLast_concat_getLast hne
      rw [← eb, subs_succ] at hp
      rw [← eb]
      rcases List.mem_append.mp hp with hp | hp
      · exact (ih bs.dropLast (by rw [List.length_dropLast]; omega) p hp).trans (List.sublist_append_left _ _)
      · obtain ⟨q, hq, rfl⟩ := List.mem_map.mp hp
        exact (ih bs.dropLast (by rw [List.length_dropLast]; omega) q hq).append (List.Sublist.refl _)
  exact this _ bs rfl p h
theorem alike_brk : ∀ (p q : List Brk), PySem.W.alikeAll (p.map eBrk) (q.map eBrk) = true
  | [], _ => rfl
  | _ :: _, [] => rfl
  | a :: p, b :: q => by
    show (PySem.W.alike (eBrk a) (eBrk b) && PySem.W.alikeAll (p.map eBrk) (q.map eBrk)) = true
    rw [alike_brk p q]
    simp [PySem.W.alike, PySem.W.alikeAll, eBrk, ePl]
theorem ok_part (ps : List (List Brk)) (h : ps.length ≤ 10000) : SortOk keyPart ps :=
  ⟨PySem.W.AllAlike.of fun p q => by
    simp only [keyPart, keyD, PySem.W.alike, PySem.W.alikeAll, Bool.and_true, Bool.true_and]
    exact alike_brk p q, PySem.W.Sortable.tuples fun _ => ⟨_, _, rfl⟩, h, fun p _ => by
    have : Fl 4 (keyPart p) := fl_tup (n := 3) fun d hd => by
      simp only [List.mem_cons, List.not_mem_nil, or_false] at hd
      rcases hd with rfl | rfl
      · exact fl_int _ _
      · exact fl_tup (n := 2) (fl_map fun b => fl_Brk b)
    have := this.2
    omega⟩
theorem noLst_part (p : List Brk) : noLst (ePart p) = true := by
  unfold ePart
  rw [noLst]
  induction p with
  | nil => rfl
  | cons b p ih => rw [List.map_cons, noLstAll, ih]; simp [noLst, noLstAll, eBrk, ePl]
section
variable {P : Program} {w : World} {K : PySem.W.Frag} {mg : Str → Option Value} {base : Heap}
/-- as Df, its code object known -/
def DfL (K : PySem.W.Frag) (mg : Str → Option Value) (x : Str) (st : Stmt) (ps : List Str) (c : Addr) : Prop := ∃ (f : Addr) (fd : FuncData), Fun K x x st f fd ∧ mg x = some (.ref f) ∧ Binds K fd ps [] ∧ fd.code = .ref c
def spParts (T : List (Addr × Str)) : Sp := fun vs H Q _ => ∃ (B : Hp) (bs : List Brk) (v : V), vs = [v] ∧ Ex B H ∧ NT B ∧ LamX.Tabs T H ∧ Rp B v (.tuple (bs.map eBrk)) ∧ bs.length ≤ 5 ∧
  ∀ (v : V) (B' H' : Hp), NwT T B H B' H' → Rp B' v (.list ((partsM bs).map ePart)) → Q v H'
section
variable {ι : Type} {X : ι → Cx} {N : List Str} {sc : Scope} {own : Str → Bool} {k : Nat} {σ : L2.St} {B H : Hp}
theorem we_sortedParts (F : Fx X P w K mg base N sc own k) {T : List (Addr × Str)} {c Pt : Addr} {params : Arguments} {scope : Scope} {a q : Str} {e : Expr} {p1 p2 p3 p4 p5 p pos lpos kp : Pos} {kk : Nat} {ps : List (List Brk)} {Q : VK} (hk : 2 ≤ k) (hm : mg "sorted" = none) (hml : mg "len" = none)
    (TB : LamX.TabB base mg c Pt) (hcode : ∀ i, (X i).env.code = .ref c) (hq : ∀ i, (X i).env.qual = q) (hmT : (Pt, q ++ "<lambda>") ∈ T) (huT : ∀ p ∈ T, p.1 = Pt → p.2 = q ++ "<lambda>") (L : LamOk scope a) (hclo : ∀ cells, cloFrom cells scope.names [] = []) (hdef : ∀ env, defaultsOf params env = ([], []))
    (hbind : ∀ (q : Str) (pm cv ctv v : Value), bindArgs (PySem.W.kla_fn "<lambda>" q params (lamB a p1 p2 p3 p4 p5 kk) scope [] pm cv ctv) ⟨[v], []⟩ = pure [(a, v)]) (he : Ev X e σ B (.list (ps.map ePart))) (hB : Ex B H) (hps : ps.length ≤ 10000) (hT : LamX.Tabs T H)
    (q : ∀ (B1 H1 H2 : Hp) (p : Addr), Nw B H B1 H1 → LamX.ExtN H1 H2 → LamX.Tabs T H2 → H2 p = none → ∀ vs : List V, RpAll B1 vs ((srt keyPart ps).map ePart) → Q (.ref p) (upd H2 p (.lst vs)))
    (hg : sc.names.lookup ("sorted" : Str) = some .globalImplicit := by rfl) (hst : ∀ env, starEach [.Call (.Name "len" p1) [.Name a p2] [] p3, .Name a p4] env = (false, eval (.Call (.Name "len" p1) [.Name a p2] [] p3) env) :: starEach [.Name a p4] env := by intro _; rfl) (hst2 : ∀ env, starEach [.Name a p4] env = (false, eval (.Name a p4) env) :: starEach [] env := by intro _; rfl)
    (hse : ∀ env, starEach [e] env = (false, eval e env) :: starEach [] env := by intro _; rfl) (hse2 : ∀ env, backTo pos (starEach [e] env) = (false, eval e env) :: backTo pos (starEach [] env) := by intro _; rfl) (hpl : ∀ env, (backTo pos (starEach [e] env)).any (·.1) = false := by intro _; rfl) :
    We X (.Call (.Name "sorted" p) [e] [⟨some "key", .Lambda params (lamB a p1 p2 p3 p4 p5 kk) scope lpos, kp⟩] pos) σ H Q := by
  refine ⟨tSortLam K T (fun p : List Brk => p.map eBrk) (We X e), fun i => ?_, ?_⟩
  · have h := pe_sortedLam (X := X i) (p := p) (pos := pos) (lpos := lpos) (kp := kp) (T := T) (c := c) (P := Pt) (ds := fun p : List Brk => p.map eBrk) (kk := 0) (params := params) (scope := scope) (a := a) (p1 := p1) (p2 := p2) (p3 := p3) (p4 := p4) (p5 := p5) (k := kk) ((F.room i).mono hk) (F.gl hg i) (by rw [F.hmg i]; exact hm) (by rw [F.hmg i]; exact hml)
      (by rw [F.hbase i, F.hmg i]; exact TB) (hcode i) (by rw [hq i]; exact hmT) (by rw [hq i]; exact huT) L hclo (hdef _) hbind (We.pe (X := X) (e := e) i) hst hst2 (hse _) (hse2 _) (hpl _)
    rw [F.hK i] at h
    exact h
  · refine he H hB _ fun v B1 H1 n1 r1 => ?_
    cases r1 with
    | @lst l xs _ h1 h2 =>
      obtain ⟨e1, e2, e3⟩ := zip_snd h2
      refine ⟨l, xs.zip ps, rfl, by rw [e1]; exact SqL.of (n1.bh _ _ h1), fun z hz => ⟨(e3 z hz).up n1.bh, noLst_part z.2⟩, by rw [e2]; exact ok_part ps hps, hT.ext n1.hh, fun H2 p eN T2 hp => ?_⟩
      refine q B1 H1 H2 p n1 eN T2 hp _ ?_
      have e := srt_snd keyPart (xs.zip ps)
      rw [e2] at e
      rw [← e]
      exact rp_of_zip (enc := ePart) fun z hz => e3 z ((srt_perm _ _).mem_iff.mp hz)
end
theorem fn_parts (k : Nat) (hk : 2 ≤ k) {T : List (Addr × Str)} {c Pt : Addr} (F : DfL K mg "parts_of" s_parts_of ["breaks"] c) (TB : LamX.TabB base mg c Pt) (hmT : (Pt, ("parts_of" ++ ".<locals>." : Str) ++ "<lambda>") ∈ T) (huT : ∀ p ∈ T, p.1 = Pt → p.2 = ("parts_of" ++ ".<locals>." : Str) ++ "<lambda>") (ms : mg "sorted" = none) (ml : mg "len" = none) :
    Fn P w K mg base "parts_of" (k + 1) ["breaks"] (spParts T) := by
  obtain ⟨f, fd, F, hm, hb, hc⟩ := F
  refine fn_lam F sc_parts_of hm hb hc (fun vs H Q E h => ?_) (fun X C hcode hqual vs H Q E h => ?_)
  · obtain ⟨_, _, _, rfl, _⟩ := h
    rfl
  · obtain ⟨B, bs, v, rfl, eB, nB, hT, rv, hl, q⟩ := h
    -- found = [()]
    refine ws_set C 1 (d := .list ((subs []).map ePart)) (ev_lst (ea_cons (ev_tup ea_nil) ea_nil)) eB fun v1 B1 H1 n1 r1 => ?_
    -- for one in breaks
    refine ws_for C (ei_tup C (C.nm 0 rfl (rv.up n1.bb))) n1.bh fun B2 H2 n2 => ?_
    have m2 := n1.trans n2
    refine ⟨fun i σ' H' => ∃ (vf : V) (w2 w3 : Option V) (B' : Hp), σ' = [some v, some vf, w2, w3] ∧ Nw B2 H2 B' H' ∧ Rp B' vf (.list ((subs (bs.take i)).map ePart)),
      ⟨v1, _, _, B2, rfl, Nw.refl n2.bh, by rw [List.take_zero]; exact r1.up n2.bb⟩, fun i d σ' H' hi ⟨vf, w2, w3, B', e, n, rf⟩ => ⟨B', n.bb, n.bh, fun v B3 H3 n3 rv3 => ?_⟩, fun i σ' H' ⟨_, _, _, B', _, n, _⟩ => n.bb.trans n.bh, fun σ' H' ⟨vf, w2, w3, B', e, n, rf⟩ => ?_⟩
    · subst e
      rw [List.getElem?_map] at hi
      obtain ⟨one, ho, rfl⟩ := Option.map_eq_some_iff.mp hi
      have rf3 := rf.up n3.bb
      have lt5 : (bs.take i).length ≤ 5 := by rw [List.length_take]; omega
      have lt6 : (subs (bs.take i)).length ≤ 32 := by
        rw [subs_len]
        exact Nat.pow_le_pow_right (by decide) lt5
      refine wg_name C 2 ?_
      refine ws_set C 1 (d := .list ((subs (bs.take (i + 1))).map ePart)) (Ev.is (ev_bin (o_catL ?_) (C.nm 1 rfl rf3) (ev_lc C (xs := subs (bs.take i)) (enc := ePart) [("part", 3)] (ei_list C (C.nm 1 rfl rf3)) (fun _ => true) (fun p => ePart (p ++ [one])) (by omega) fun p hp B4 H4 v4 e1 e2 rv4 => ?_)) ?_) n3.bh fun v5 B5 H5 n5 r5 => ws_nil ?_
      · rw [List.length_map, List.length_map, List.filter_eq_self.mpr fun _ _ => rfl]
        exact sz5 (by omega)
      · refine turn_name (C.blk _) 3 (by decide) es_nil fun _ => Ev.is (ev_bin (o_catT ?_) ((C.blk _).nm 3 rfl rv4) (ev_tup (ea_cons ((C.blk _).nm 2 rfl (rv3.up e1)) ea_nil))) ?_
        · have := (subs_mem hp).length_le
          rw [List.length_map, List.length_singleton]
          exact sz5 (by omega)
        · unfold ePart
          rw [List.map_append]
          rfl
      · rw [List.filter_eq_self.mpr fun _ _ => rfl, List.take_succ, ho]
        show _ = PyData.list ((subs (bs.take i ++ [one])).map ePart)
        rw [subs_succ, List.map_append, List.map_map]
        rfl
      · exact ⟨v5, _, _, B5, rfl, (n.trans n3).trans n5, r5⟩
    · subst e
      rw [List.length_map, List.take_length] at rf
      have m5 := m2.trans n
      -- return sorted(found, key=lambda part: (len(part), part))
      refine ws_retR (we_sortedParts C hk ms ml TB hcode hqual hmT huT ⟨rfl, rfl, rfl, fun y hy => ?_, rfl, rfl, by decide, fun _ _ _ => rfl, fun _ _ => rfl⟩ (fun _ => rfl) (fun _ => rfl) (fun _ _ _ _ _ => rfl) (C.nm 1 rfl rf) m5.bh ?_ (hT.ext m5.hh) fun B6 H6 H7 p n6 eN T7 hp vs rvs => ?_)
      · revert y hy
        decide
      · rw [subs_len]
        have : 2 ^ bs.length ≤ 2 ^ 5 := Nat.pow_le_pow_right (by decide) hl
        omega
      · have w6 := NwT.of (m5.trans n6) nB hT
        have x7 : Ex (noT B6) H7 := w6.nt.exN w6.bh eN
        have p6 : noT B6 p = none := x7.free hp
        refine q (.ref p) (upd (noT B6) p (.lst vs)) _ ⟨fun a ps z => ?_, w6.bb.trans (Ex.new p6), x7.both, ?_, fun a o h1 h2 h3 => ?_, T7.ext (Ex.new hp)⟩ (.lst upd_same (rvs.nt.up (Ex.new p6)))
        · by_cases e : a = p
          · rw [e, upd_same] at z; cases z
          · rw [upd_ne e] at z; exact w6.nt a ps z
        · exact (w6.at'.trans eN).trans (LamX.ExtN.of (Ex.new hp))
        · have h7 := (w6.at'.trans eN) a o h1 h2
          rw [upd_ne (ne_of_none h7 hp)]
          exact w6.old a o h1 h2 h3
theorem fn_lawParts (k : Nat) (hk : 2 ≤ k) {T : List (Addr × Str)} {c Pt : Addr} (F : DfL K mg "_law_parts" s__law_parts ["_law_breaks_here"] c) (TB : LamX.TabB base mg c Pt) (hmT : (Pt, ("_law_parts" ++ ".<locals>." : Str) ++ "<lambda>") ∈ T) (huT : ∀ p ∈ T, p.1 = Pt → p.2 = ("_law_parts" ++ ".<locals>." : Str) ++ "<lambda>") (ms : mg "sorted" = none) (ml : mg "len" = none) :
    Fn P w K mg base "_law_parts" (k + 1) ["_law_breaks_here"] (spParts T) := by
  obtain ⟨f, fd, F, hm, hb, hc⟩ := F
  refine fn_lam F sc__law_parts hm hb hc (fun vs H Q E h => ?_) (fun X C hcode hqual vs H Q E h => ?_)
  · obtain ⟨_, _, _, rfl, _⟩ := h
    rfl
  · obtain ⟨B, bs, v, rfl, eB, nB, hT, rv, hl, q⟩ := h
    -- found = [()]
    refine ws_set C 1 (d := .list ((subs []).map ePart)) (ev_lst (ea_cons (ev_tup ea_nil) ea_nil)) eB fun v1 B1 H1 n1 r1 => ?_
    -- for one in breaks
    refine ws_for C (ei_tup C (C.nm 0 rfl (rv.up n1.bb))) n1.bh fun B2 H2 n2 => ?_
    have m2 := n1.trans n2
    refine ⟨fun i σ' H' => ∃ (vf : V) (w2 w3 : Option V) (B' : Hp), σ' = [some v, some vf, w2, w3] ∧ Nw B2 H2 B' H' ∧ Rp B' vf (.list ((subs (bs.take i)).map ePart)),
      ⟨v1, _, _, B2, rfl, Nw.refl n2.bh, by rw [List.take_zero]; exact r1.up n2.bb⟩, fun i d σ' H' hi ⟨vf, w2, w3, B', e, n, rf⟩ => ⟨B', n.bb, n.bh, fun v B3 H3 n3 rv3 => ?_⟩, fun i σ' H' ⟨_, _, _, B', _, n, _⟩ => n.bb.trans n.bh, fun σ' H' ⟨vf, w2, w3, B', e, n, rf⟩ => ?_⟩
    · subst e
      rw [List.getElem?_map] at hi
      obtain ⟨one, ho, rfl⟩ := Option.map_eq_some_iff.mp hi
      have rf3 := rf.up n3.bb
      have lt5 : (bs.take i).length ≤ 5 := by rw [List.length_take]; omega
      have lt6 : (subs (bs.take i)).length ≤ 32 := by
        rw [subs_len]
        exact Nat.pow_le_pow_right (by decide) lt5
      refine wg_name C 2 ?_
      refine ws_set C 1 (d := .list ((subs (bs.take (i + 1))).map ePart)) (Ev.is (ev_bin (o_catL ?_) (C.nm 1 rfl rf3) (ev_lc C (xs := subs (bs.take i)) (enc := ePart) [("_law_its", 3)] (ei_list C (C.nm 1 rfl rf3)) (fun _ => true) (fun p => ePart (p ++ [one])) (by omega) fun p hp B4 H4 v4 e1 e2 rv4 => ?_)) ?_) n3.bh fun v5 B5 H5 n5 r5 => ws_nil ?_
      · rw [List.length_map, List.length_map, List.filter_eq_self.mpr fun _ _ => rfl]
        exact sz5 (by omega)
      · refine turn_name (C.blk _) 3 (by decide) es_nil fun _ => Ev.is (ev_bin (o_catT ?_) ((C.blk _).nm 3 rfl rv4) (ev_tup (ea_cons ((C.blk _).nm 2 rfl (rv3.up e1)) ea_nil))) ?_
        · have := (subs_mem hp).length_le
          rw [List.length_map, List.length_singleton]
          exact sz5 (by omega)
        · unfold ePart
          rw [List.map_append]
          rfl
      · rw [List.filter_eq_self.mpr fun _ _ => rfl, List.take_succ, ho]
        show _ = PyData.list ((subs (bs.take i ++ [one])).map ePart)
        rw [subs_succ, List.map_append, List.map_map]
        rfl
      · exact ⟨v5, _, _, B5, rfl, (n.trans n3).trans n5, r5⟩
    · subst e
      rw [List.length_map, List.take_length] at rf
      have m5 := m2.trans n
      -- return sorted(found, key=lambda part: (len(part), part))
      refine ws_retR (we_sortedParts C hk ms ml TB hcode hqual hmT huT ⟨rfl, rfl, rfl, fun y hy => ?_, rfl, rfl, by decide, fun _ _ _ => rfl, fun _ _ => rfl⟩ (fun _ => rfl) (fun _ => rfl) (fun _ _ _ _ _ => rfl) (C.nm 1 rfl rf) m5.bh ?_ (hT.ext m5.hh) fun B6 H6 H7 p n6 eN T7 hp vs rvs => ?_)
      · revert y hy
        decide
      · rw [subs_len]
        have : 2 ^ bs.length ≤ 2 ^ 5 := Nat.pow_le_pow_right (by decide) hl
        omega
      · have w6 := NwT.of (m5.trans n6) nB hT
        have x7 : Ex (noT B6) H7 := w6.nt.exN w6.bh eN
        have p6 : noT B6 p = none := x7.free hp
        refine q (.ref p) (upd (noT B6) p (.lst vs)) _ ⟨fun a ps z => ?_, w6.bb.trans (Ex.new p6), x7.both, ?_, fun a o h1 h2 h3 => ?_, T7.ext (Ex.new hp)⟩ (.lst upd_same (rvs.nt.up (Ex.new p6)))
        · by_cases e : a = p
          · rw [e, upd_same] at z; cases z
          · rw [upd_ne e] at z; exact w6.nt a ps z
        · exact (w6.at'.trans eN).trans (LamX.ExtN.of (Ex.new hp))
        · have h7 := (w6.at'.trans eN) a o h1 h2
          rw [upd_ne (ne_of_none h7 hp)]
          exact w6.old a o h1 h2 h3
end
end Mr
end

section
set_option Elab.async false
set_option linter.all false
set_option maxRecDepth 100000
set_option maxHeartbeats 4000000
namespace Mr
open PySem L2 Lay Mn
def overP (found : List (List Brk)) (p : List Brk) : Bool := match found with | [] => false | q :: _ => decide (q.length < p.length)
/-- the search for the least mends -/
def leastGo (ok : List Brk → Bool) : List (List Brk) → List (List Brk) → List (List Brk)
  | found, [] => found
  | found, p :: ps => if overP found p = true then found else leastGo ok (if ok p = true then found ++ [p] else found) ps
theorem leastGo_cons (ok : List Brk → Bool) (found : List (List Brk)) (p : List Brk) (ps : List (List Brk)) : leastGo ok found (p :: ps) = if overP found p = true then found else leastGo ok (if ok p = true then found ++ [p] else found) ps := rfl
theorem leastGo_nil (ok : List Brk → Bool) (found : List (List Brk)) : leastGo ok found [] = found := rfl
def okPart (lasts : Lasts) (bs : List Brk) (muster : List Man) (p : List Brk) : Bool := allSaved lasts (barsM (bs.filter fun b => decide (b ∉ p))) muster
def leastM (lasts : Lasts) (bs : List Brk) (muster : List Man) : List (List Brk) := leastGo (okPart lasts bs muster) [] (partsM bs)
theorem eqv_Brk (p q : Brk) : PyData.eqv (eBrk p) (eBrk q) = decide (p = q) := by
  obtain ⟨a, b⟩ := p
  obtain ⟨c, d⟩ := q
  show PyData.eqv (.tuple [ePl a, .int b]) (.tuple [ePl c, .int d]) = _
  simp only [PyData.eqv, PyData.eqvAll, Bool.and_true, Prod.mk.injEq]
  rw [Bool.beq_eq_decide_eq]
  have h := eqv_Pl a c
  by_cases h1 : a = c <;> by_cases h2 : b = d <;> simp [h1, h2] at h ⊢ <;> simp [h]
theorem notIn_Brk (p : Brk) (l : List Brk) : (!(l.map eBrk).any fun z => PyData.eqv z (eBrk p)) = decide (p ∉ l) := by
  rw [List.any_map]
  induction l with
  | nil => simp
  | cons q l ih =>
    rw [List.any_cons, Bool.not_or, ih]
    simp only [Function.comp, eqv_Brk, List.mem_cons, not_or]
    by_cases e : q = p
    · subst e; simp
    · have e' : ¬ p = q := fun z => e z.symm
      simp only [e, e', decide_false, Bool.not_false, Bool.true_and, not_false_eq_true, true_and]
/-- the facts of the class CanNot -/
structure ExcOk (K : PySem.W.Frag) (mg : Str → Option Value) (C : Addr) : Prop where
  gC : mg "CanNot" = some (.ref C)
  xP : PySem.W.excIn K C [.type "ValueError", .type "Exception", .type "BaseException", .type "object"] "ValueError.__new__" = true
  kC : PySem.W.keepIn K (.ref C) = true
  bP : PySem.W.subIn K (.ref C) (.type "BaseException") = some true
  tP : PySem.W.typeIn K (.ref C) = some (.type "type")
  eP : PySem.W.exmOne K (.ref C) (.ref C) = some true
  EC : ExcC K C
  iv : PySem.W.kitOne K (.ref C) (.type "ValueError") = some true
section
variable {P : Program} {w : World} {K : PySem.W.Frag} {mg : Str → Option Value} {base : Heap}
/-- what a def of muster and breaks is handed -/
structure InB (bd : PyData) (bs : List Brk) : Prop where
  ht : tupOf bd = .tuple (bs.map eBrk)
  hd : bd.depth ≤ 3
  hs : short bd = true
  lb : bs.length ≤ 5
def spLeast (T : List (Addr × Str)) (C : Addr) : Sp := fun vs H Q E => ∃ (B : Hp) (ld bd md : PyData) (lasts : Lasts) (bs : List Brk) (muster : List Man), Ex B H ∧ NT B ∧ LamX.Tabs T H ∧ RpAll B vs [ld, bd, md] ∧ In3 ld md lasts muster ∧ InB bd bs ∧
  (leastM lasts bs muster ≠ [] → ∀ v B' H', NwT T B H B' H' → Rp B' v (.list ((leastM lasts bs muster).map ePart)) → Q v H') ∧ (leastM lasts bs muster = [] → ∀ B' H', NwT T B H B' H' → E (.ref C) none H')
theorem parts_len {bs : List Brk} (h : bs.length ≤ 5) : (partsM bs).length ≤ 32 := by
  unfold partsM
  rw [(srt_perm _ _).length_eq, subs_len]
  exact Nat.pow_le_pow_right (by decide) h
theorem parts_mem {bs : List Brk} {p : List Brk} (h : p ∈ partsM bs) : p.Sublist bs := subs_mem ((srt_perm _ _).mem_iff.mp h)
theorem fn_least (k : Nat) (hk : 6 ≤ k) {T : List (Addr × Str)} {C : Addr} (XC : ExcOk K mg C) (F : Df K mg "least_mends" s_least_mends ["lasts", "breaks", "muster"]) (GT : Fn P w K mg base "tuple_of" 4 ["thing"] (spD (rTup 3))) (GP : Fn P w K mg base "parts_of" k ["breaks"] (spParts T))
    (GA : Fn P w K mg base "all_saved" k ["lasts", "bars", "muster"] (spD rAllSaved)) (GB : Fn P w K mg base "bars_of" k ["breaks"] (spD rBars)) (ml : mg "len" = none) (mt : mg "tuple" = none) : FnX P w K mg base "least_mends" (k + 1) ["lasts", "breaks", "muster"] (spLeast T C) := by
  obtain ⟨f, fd, F, hm, hb⟩ := F
  refine fn_exc F sc_least_mends hm hb (fun vs H Q E h => ?_) (fun X C' vs H Q E tk h => ?_)
  · obtain ⟨_, _, _, _, _, _, _, _, _, _, ra, _⟩ := h
    exact ra.length
  · obtain ⟨B, ld, bd, md, lasts, bs, muster, eB, nB, hT, ra, I, J, qr, qx⟩ := h
    obtain ⟨v1, v2, v3, rfl, r1, r2, r3⟩ := ra.three
    have lb := J.lb
    -- own, found = tuple_of(breaks), []
    refine ws_par C' 3 4 (wa_cons ((ev_call C' GT (ea_cons (C'.nm 1 rfl r2) ea_nil) ⟨bd, rfl, J.hd, J.hs, rfl⟩).use eB fun vo B1 H1 n1 ro => wa_cons (en_nil.use n1.bh fun g B2 H2 vs n2 hg bg hg' rg => wa_nil ⟨_, _, rfl, ?_⟩))) (hw := C'.swap (by rfl))
    cases rg
    rw [J.ht] at ro
    have n2' := n1.trans n2
    have Hg : H g = none := n1.hh.free hg
    have w2 := NwT.of n2' nB hT
    have ro2 : Rp (noT B2) vo (.tuple (bs.map eBrk)) := (ro.up n2.bb).nt
    have bg2 : noT B2 g = none := noT_none bg
    generalize noT B2 = B3 at w2 ro2 bg2
    -- for part in parts_of(own)
    refine ws_forB C' (fun σ' H' => ∃ (w5 w6 w7 : Option V) (vs : List V) (B' : Hp), σ' = [some v1, some v2, some v3, some vo, some (.ref g), w5, w6, w7] ∧ NT B' ∧ Ex B3 B' ∧ Ex B' H' ∧ B' g = none ∧ H' g = some (.lst vs) ∧ RpAll B' vs ((leastM lasts bs muster).map ePart) ∧ NwT T B H B' H') ?_
      (wi_list C' (we_call C' GP (Nat.le_refl _) (wa_cons (we_var C' 3 rfl (wa_nil ⟨B3, bs, vo, rfl, w2.bh, w2.nt, w2.tb, ro2, lb, fun v B5 H5 w5 r5 => ?_⟩)))))
    · -- if found == []: raise CanNot(); return found
      rintro σ' H' ⟨w5, w6, w7, vs, B', rfl, nt, x3, xh, bg', hg'', rvs, wn⟩
      have xa : Ex (upd B' g (.lst vs)) H' := ex_take xh hg''
      have rf : Rp (upd B' g (.lst vs)) (.ref g) (.list ((leastM lasts bs muster).map ePart)) := .lst upd_same (rvs.up (Ex.new bg'))
      have fl : Flat (.list ((leastM lasts bs muster).map ePart)) := (fl_list (n := 3) (fl_map fun p => fl_tup (n := 2) (fl_map fun b => fl_Brk b))).flat
      refine ws_ifN (et_cmp (o_eqD C' fl (fl_list (n := 0) (by simp)).flat) (C'.nm 4 rfl rf) (ev_lst ea_nil)) xa (fun hy H6 x6 => ?_) fun hy H6 x6 => ?_
      · rw [eqv_nilL, List.isEmpty_iff, List.map_eq_nil_iff] at hy
        refine ws_raise0 C' tk XC.xP XC.gC XC.kC XC.bP XC.tP ?_
        exact qx hy B' H6 ⟨nt, wn.bb, xh.trans x6, wn.at'.trans (LamX.ExtN.of x6), wn.old, wn.tb.ext x6⟩
      · rw [eqv_nilL, List.isEmpty_eq_false_iff, ne_eq, List.map_eq_nil_iff] at hy
        refine ws_ret (C'.nm 4 rfl rf) (xa.trans x6) fun v B7 H7 n7 r7 => ?_
        have ntA : NT (upd B' g (.lst vs)) := fun a ps z => by
          by_cases e : a = g
          · rw [e, upd_same] at z; cases z
          · rw [upd_ne e] at z; exact nt a ps z
        have wA : NwT T B H (upd B' g (.lst vs)) H6 := ⟨ntA, wn.bb.trans (Ex.new bg'), xa.trans x6, wn.at'.trans (LamX.ExtN.of x6), fun a o h1 h2 h3 => by rw [upd_ne (ne_of_none h1 Hg)]; exact wn.old a o h1 h2 h3, wn.tb.ext x6⟩
        exact qr hy v _ H7 (wA.trans (NwT.of n7 ntA (wn.tb.ext x6))) r7.nt
    · -- the parts
      cases r5 with
      | @lst l xs _ h1 h2 =>
        have g5 := w5.cell hg' bg2 (fun ps z => by cases z)
        have w5' : NwT T B H B5 H5 := w2.trans w5
        refine ⟨l, xs, rfl, w5.bh _ _ h1, _, B5, w5.bh, drives_list h1 h2, fun i σ' H' => ∃ (found : List (List Brk)) (w5 w6 w7 : Option V) (vs : List V) (B' : Hp), σ' = [some v1, some v2, some v3, some vo, some (.ref g), w5, w6, w7] ∧ NT B' ∧ Ex B5 B' ∧ Ex B' H' ∧ B' g = none ∧ H' g = some (.lst vs) ∧ RpAll B' vs (found.map ePart) ∧ NwT T B H B' H' ∧
            found.length ≤ i ∧ leastGo (okPart lasts bs muster) found ((partsM bs).drop i) = leastM lasts bs muster ∧ ∀ p ∈ found, p ∈ partsM bs,
          ⟨[], _, _, _, [], B5, rfl, w5.nt, Ex.refl _, w5.bh, g5.2, g5.1, .nil, w5', Nat.le_refl _, rfl, fun _ h => absurd h List.not_mem_nil⟩, fun i d σ' H' hi ⟨found, y5, y6, y7, vs, B', e, nt, x5, xh, bg', hg'', rvs, wn, hl, hgo, hmem⟩ => ⟨B', x5, xh, fun v B7 H7 n7 r7 => ?_⟩, fun i σ' H' ⟨_, _, _, _, _, _, _, _, x5, xh, _⟩ => x5.trans xh, fun σ' H' ⟨found, y5, y6, y7, vs, B', e, nt, x5, xh, bg', hg'', rvs, wn, hl, hgo, hmem⟩ => ?_⟩
        · subst e
          rw [List.getElem?_map] at hi
          obtain ⟨p, hp, rfl⟩ := Option.map_eq_some_iff.mp hi
          have hpm := List.mem_of_getElem? hp
          have hps := (parts_mem hpm).length_le
          have il := (List.getElem?_eq_some_iff.mp hp).1
          have pl := parts_len lb
          have dr : (partsM bs).drop i = p :: (partsM bs).drop (i + 1) := by
            rw [List.drop_eq_getElem_cons il]
            congr 1
            exact Option.some.inj ((List.getElem?_eq_getElem il).symm.trans hp)
          rw [dr, leastGo_cons] at hgo
          have c7 := n7.cell hg'' bg'
          refine wg_name C' 5 ?_
          have xa : Ex (upd B7 g (.lst vs)) H7 := ex_take n7.bh c7.1
          have eg : Ex B7 (upd B7 g (.lst vs)) := Ex.new c7.2
          have rf : Rp (upd B7 g (.lst vs)) (.ref g) (.list (found.map ePart)) := .lst upd_same ((rvs.up n7.bb).up eg)
          have fl : Flat (.list (found.map ePart)) := (fl_list (n := 3) (fl_map fun p => fl_tup (n := 2) (fl_map fun b => fl_Brk b))).flat
          -- if found != [] and len(part) > len(found[0]): break
          refine ws_ifN (y := overP found p) ((et_and2 (et_cmp (o_neD C' fl (fl_list (n := 0) (by simp)).flat) (C'.nm 4 rfl rf) (ev_lst ea_nil)) (y := overP found p) fun hy => ?_).is ?_) xa (fun hy H8 x8 => ?_) fun hy H8 x8 => ?_
          · cases found with
            | nil => simp [PyData.eqv, PyData.eqvAll] at hy
            | cons q0 r0 =>
              refine Et.is (et_cmp o_gt (ev_callB C' (c_len C' rfl) (ea_cons (C'.nm 5 rfl (r7.up eg)) ea_nil) ml) (ev_callB C' (c_len C' rfl) (ea_cons (ev_ix (j := 0) (C'.nm 4 rfl rf) ev_int rfl rfl rfl) ea_nil) ml)) ?_
              rw [List.length_map, List.length_map]
              exact decide_eq_decide.mpr (by omega)
          · rw [eqv_nilL]
            cases found <;> rfl
          · rw [if_pos hy] at hgo
            subst hgo
            exact ws_break ⟨_, _, _, vs, noT B7, rfl, noT_nt _, noT_sub w2.nt ((w5.bb.trans x5).trans n7.bb), noT_ex (n7.bh.trans x8), noT_none c7.2, x8 _ _ c7.1, (rvs.up n7.bb).nt, wn.trans (NwT.of (Nw.exh n7 x8) nt wn.tb)⟩
          · rw [if_neg (by rw [hy]; exact Bool.false_ne_true)] at hgo
            have n8 := Nw.exh n7 x8
            have c8 := n8.cell hg'' bg'
            have xb : Ex B B7 := wn.bb.trans n7.bb
            have ro8 : Rp B7 vo (.tuple (bs.map eBrk)) := ((ro2.up w5.bb).up x5).up n7.bb
            have flp : Flat (ePart p) := (fl_tup (n := 2) (fl_map fun b => fl_Brk b)).flat
            have lf : (bs.filter fun b => decide (b ∉ p)).length ≤ bs.length := List.length_filter_le _ _
            -- left = tuple([one for one in own if one not in part])
            refine ws_set C' 6 (d := .tuple ((bs.filter fun b => decide (b ∉ p)).map eBrk)) (ev_callTy C' (c_tuple C') (ea_cons (ev_lc C' (xs := bs) (enc := eBrk) [("one", 7)] (ei_tup C' (C'.nm 3 rfl ro8)) (fun b => decide (b ∉ p)) eBrk (by omega) fun b hb B9 H9 v9 e1 e2 rv9 => ?_) ea_nil) mt) n8.bh fun v9 B9 H9 n9 r9 => ?_
            · exact turn_name (C'.blk _) 7 (by decide) (es_one ((et_cmp (o_notInU (C'.blk _) (fl_Brk b).flat flp) ((C'.blk _).nm 7 rfl rv9) ((C'.blk _).nm 5 rfl (r7.up e1))).is (notIn_Brk b p))) fun _ => (C'.blk _).nm 7 rfl rv9
            have n9' := n8.trans n9
            have c9 := n9.cell c8.1 c8.2
            -- if all_saved(lasts, bars_of(left), muster)
            refine ws_if (y := okPart lasts bs muster p) (et_val (ev_call C' GA (ea_cons (C'.nm 0 rfl ((r1.up xb).up n9.bb)) (ea_cons (ev_call C' GB (ea_cons (C'.nm 6 rfl r9) ea_nil) ⟨_, rfl, by omega, rfl⟩) (ea_cons (C'.nm 2 rfl ((r3.up xb).up n9.bb)) ea_nil))) ⟨ld, md, lasts, barsM _, muster, rfl, I, by rw [(barsM_perm _).length_eq, List.length_map]; omega, rfl⟩)) n9.bh (fun hy2 H10 x10 => ?_) fun hy2 H10 x10 => ws_nil (ws_nil ?_)
            · -- found.append(part)
              refine ws_append C' 4 (g := g) (d := ePart p) (C'.nm 5 rfl (r7.up n9.bb)) (n9.bh.trans x10) rfl (x10 _ _ c9.1) c9.2 (by rw [rvs.length, List.length_map]; omega) fun v11 B11 H11 n11 b11 h11 r11 => ws_nil (ws_nil ?_)
              have n11' : Nw B' H' B11 H11 := (Nw.exh n9' x10).trans n11
              have wz := wn.trans (NwT.of n11' nt wn.tb)
              have bgz : noT B11 g = none := noT_none b11
              refine ⟨found ++ [p], _, _, _, vs ++ [v11], noT B11, rfl, noT_nt _, noT_sub w5.nt (x5.trans n11'.bb), (noT_ex n11'.bh).mut bgz, bgz, upd_same, ?_, ⟨wz.nt, wz.bb, wz.bh.mut bgz, extN_put wz.at' Hg, wz.old, tabs_put wz.tb h11⟩, by rw [List.length_append, List.length_singleton]; omega, ?_, fun q hq => ?_⟩
              · rw [List.map_append]
                exact ((rvs.up n11'.bb).nt).append (.cons r11.nt .nil)
              · rw [hy2, if_pos rfl] at hgo
                exact hgo
              · rcases List.mem_append.mp hq with z | z
                · exact hmem q z
                · rw [List.mem_singleton.mp z]; exact hpm
            · have n11' : Nw B' H' B9 H10 := Nw.exh n9' x10
              refine ⟨found, _, _, _, vs, noT B9, rfl, noT_nt _, noT_sub w5.nt (x5.trans n11'.bb), noT_ex n11'.bh, noT_none c9.2, x10 _ _ c9.1, (rvs.up n11'.bb).nt, wn.trans (NwT.of n11' nt wn.tb), by omega, ?_, hmem⟩
              rw [hy2, if_neg Bool.false_ne_true] at hgo
              exact hgo
        · subst e
          rw [List.length_map, List.drop_length, leastGo_nil] at hgo
          subst hgo
          exact ⟨_, _, _, vs, B', rfl, nt, w5.bb.trans x5, xh, bg', hg'', rvs, wn⟩
end
end Mr
end

section
set_option Elab.async false
set_option linter.all false
set_option maxRecDepth 100000
set_option maxHeartbeats 4000000
namespace Mr
open PySem PySem.Spec PyProof.Rows L2 Lay Mn
def heardD (l : List (List Brk)) : PyData := if l = [] then .list [.str "can not", .bool true] else .list (l.map ePart)
section
variable {P : Program} {w : World} {K : PySem.W.Frag} {mg : Str → Option Value} {base : Heap}
def spHeard (T : List (Addr × Str)) : Sp := fun vs H Q _ => ∃ (B : Hp) (ld bd md : PyData) (lasts : Lasts) (bs : List Brk) (muster : List Man), Ex B H ∧ NT B ∧ LamX.Tabs T H ∧ RpAll B vs [ld, bd, md] ∧ In3 ld md lasts muster ∧ InB bd bs ∧
  ∀ v B' H', NwT T B H B' H' → Rp B' v (heardD (leastM lasts bs muster)) → Q v H'
/-- what the clause makes -/
def tsH (K : PySem.W.Frag) (C : Addr) : Addr → Value → Option Addr → TS := fun a cls d D σ H => cls = .ref C ∧ d = none ∧ tRet (tLst (tCons (tC (.str "can not")) (tCons (tCB (rIsE K C a) (tCons (tVar 3) (tCons (tC (.ty "ValueError")) tNil))) tNil))) D σ H
def tHeard (K : PySem.W.Frag) (T : List (Addr × Str)) (C : Addr) : TS := fun D σ H =>
  tRet (tCallS (spLeast T C) (WE (wAs K (.ref C) 3 (tsH K C) (fun _ _ _ _ => False) D)) (tCons (tVar 0) (tCons (tVar 1) (tCons (tVar 2) tNil)))) D σ H
theorem fn_heard (k : Nat) {T : List (Addr × Str)} {C : Addr} (XC : ExcOk K mg C) (F : Df K mg "_law_heard" s__law_heard ["_law_lasts", "_law_breaks_here", "_law_muster_here"]) (GL : FnX P w K mg base "least_mends" k ["lasts", "breaks", "muster"] (spLeast T C)) (mi : mg "isinstance" = none) (mv : mg "ValueError" = none) :
    Fn P w K mg base "_law_heard" (k + 1) ["_law_lasts", "_law_breaks_here", "_law_muster_here"] (spHeard T) := by
  obtain ⟨f, fd, F, hm, hb⟩ := F
  obtain ⟨fL, fdL, G, hmL, hkL, hbL⟩ := GL.ex
  have S := sc__law_heard
  refine ⟨f, fd, F.ok S (fun vs H Q E h => ?_) (fun cdv A outer s H vs Q E hr h => ⟨tHeard K T C, ?_, ?_⟩), hm, F.kp, hb⟩
  · obtain ⟨_, _, _, _, _, _, _, _, _, _, ra, _⟩ := h
    exact ra.length
  · refine pss_one (ps_try_as (i := 3) (tb := fun W => tRet (tCallS (spLeast T C) (WE W) (tCons (tVar 0) (tCons (tVar 1) (tCons (tVar 2) tNil))))) (ts := tsH K C) (Wout := fun _ _ _ _ => False) rfl rfl S.nd rfl rfl ⟨rfl, by decide, .inl XC.gC⟩ LamX.takes0
      (fun W pn xe tk _ => pss_one (ps_ret (by exact (pe_callS G hr rfl hmL hkL hbL (fun σ => passAt tk σ) (by exact (pa_cons (pe_var rfl (.inl rfl)) (pa_cons (pe_var rfl (.inl rfl)) (pa_cons (pe_var rfl (.inl rfl)) pa_nil)))))))) (fun a oe cls d pn hz hf => ?_))
    refine ⟨fun pins s σ H D I ⟨e1, e2, h⟩ => ?_⟩
    subst e1 e2
    refine PSs.run (t := tRet (tLst (tCons (tC (.str "can not")) (tCons (tCB (rIsE K C a) (tCons (tVar 3) (tCons (tC (.ty "ValueError")) tNil))) tNil)))) ?_ pins s σ H D I h
    refine pss_one (ps_ret (pe_lst (pa_cons pe_str (pa_cons ?_ pa_nil))))
    refine pe_callB (call_isE XC.EC hz hf) rfl mi (by decide +kernel) ?_ (by decide) (by decide)
    refine pa_cons (pe_var (i := 3) rfl (.inl rfl)) (pa_cons ?_ pa_nil)
    refine pe_bltn ?_ mv (u := .type "ValueError") ?_ rfl (by decide) (by decide)
    · rfl
    · decide +kernel
  · obtain ⟨B, ld, bd, md, lasts, bs, muster, eB, nB, hT, ra, I, J, q⟩ := h
    obtain ⟨v1, v2, v3, rfl, r1, r2, r3⟩ := ra.three
    refine ⟨v1, rfl, v2, rfl, v3, rfl, B, ld, bd, md, lasts, bs, muster, eB, nB, hT, .cons r1 (.cons r2 (.cons r3 .nil)), I, J, fun hne v B' H' wn rv => q v B' H' wn ?_, fun he B' H' wn => ⟨true, XC.eP, fun _ a ha => ⟨rfl, rfl, ?_⟩, fun z => by cases z⟩⟩
    · unfold heardD
      rw [if_neg hne]
      exact rv
    · refine ⟨.ref a, rfl, .ty "ValueError", .type "ValueError", true, rfl, fun u r => r, XC.iv, by show 2 ≤ sizeLine; decide, fun p hp => ?_⟩
      have p' : B' p = none := wn.bh.free hp
      refine q (.ref p) (upd B' p (.lst [.str "can not", .bl true])) _ ⟨fun a ps z => ?_, wn.bb.trans (Ex.new p'), wn.bh.both, wn.at'.trans (LamX.ExtN.of (Ex.new hp)), fun a o h1 h2 h3 => ?_, wn.tb.ext (Ex.new hp)⟩ ?_
      · by_cases e : a = p
        · rw [e, upd_same] at z; cases z
        · rw [upd_ne e] at z; exact wn.nt a ps z
      · rw [upd_ne (ne_of_none (wn.at' a o h1 h2) hp)]
        exact wn.old a o h1 h2 h3
      · unfold heardD
        rw [if_pos he]
        exact .lst upd_same (.cons (.str _) (.cons (.bl true) .nil))
end
end Mr
end

section
set_option Elab.async false
set_option linter.all false
set_option maxRecDepth 100000
set_option maxHeartbeats 4000000
namespace Mr
open PySem L2 Lay Mn
structure Vd (lasts : Lasts) (bs : List Brk) (muster : List Man) : Prop where
  deep : lasts.length = 2 ∨ lasts.length = 3
  lok : LastsOk lasts
  nd : (bs.map (·.1)).Nodup
  brk : ∀ b ∈ bs, BrkOk lasts.length b
  must : MusterOk lasts.length muster
/-- the law's own count is the program's -/
def SavedIs : Prop := ∀ lasts bs muster n, Vd lasts bs muster → Greatest (muster.map (goodsM lasts bs)) n → n = mostSaved lasts (bs.map barOf) muster
theorem Vd.sub {lasts : Lasts} {bs cs : List Brk} {muster : List Man} (h : Vd lasts bs muster) (s : cs.Sublist bs) : Vd lasts cs muster := ⟨h.deep, h.lok, (s.map _).nodup h.nd, fun b hb => h.brk b (s.subset hb), h.must⟩
theorem Vd.perm {lasts : Lasts} {bs cs : List Brk} {muster : List Man} (h : Vd lasts bs muster) (s : cs.Perm bs) : Vd lasts cs muster := ⟨h.deep, h.lok, (s.map _).nodup_iff.mpr h.nd, fun b hb => h.brk b (s.mem_iff.mp hb), h.must⟩
theorem Vd.len {lasts : Lasts} {bs : List Brk} {muster : List Man} (h : Vd lasts bs muster) : bs.length ≤ 1000 := by
  have h1 := len_le_of_inj (fun p : Plat => p.1.toNat * 10 + p.2.toNat) (S := List.range 100) h.nd (fun p hp => by
    obtain ⟨b, hb, rfl⟩ := List.mem_map.mp hp
    obtain ⟨h1, h2, h3, _⟩ := h.brk b hb
    have := h.deep
    rw [List.mem_range]
    omega) fun x hx y hy e => by
    obtain ⟨b, hb, rfl⟩ := List.mem_map.mp hx
    obtain ⟨c, hc, rfl⟩ := List.mem_map.mp hy
    obtain ⟨h1, h2, h3, _⟩ := h.brk b hb
    obtain ⟨g1, g2, g3, _⟩ := h.brk c hc
    have := h.deep
    have e : b.1.1.toNat * 10 + b.1.2.toNat = c.1.1.toNat * 10 + c.1.2.toNat := e
    exact Prod.ext (by omega) (by omega)
  rw [List.length_map, List.length_range] at h1
  omega
theorem Vd.ins {lasts : Lasts} {bs : List Brk} {muster : List Man} {ld : PyData} (h : Vd lasts bs muster) (hl : items ld = some (lasts.map eO)) : InS ld lasts bs muster := by
  have h1 := h.deep
  have h2 := h.must.1
  exact ⟨hl, by omega, h.len, by omega, fun m hm => by
    obtain ⟨a, b, c, d⟩ := h.must.2 m hm
    exact ⟨a, b, c, by omega⟩⟩
section
variable {P : Program} {w : World} {K : PySem.W.Frag} {mg : Str → Option Value} {base : Heap}
section
variable {ι : Type} {X : ι → Cx} {N : List Str} {sc : Scope} {own : Str → Bool} {k : Nat} {e1 e2 e3 : Expr} {σ : L2.St} {B H : Hp} {pos p : Pos}
theorem ev_saved (F : Fx X P w K mg base N sc own k) (SI : SavedIs) (G : Fn P w K mg base "_law_saved" 104 ["_law_lasts", "_law_breaks_here", "_law_muster_here"] spSaved) (hk : 104 ≤ k) {ld : PyData} {lasts : Lasts} {bs : List Brk} {muster : List Man} (hl : items ld = some (lasts.map eO)) (V : Vd lasts bs muster)
    (h1 : Ev X e1 σ B ld) (h2 : Ev X e2 σ B (.tuple (bs.map eBrk))) (h3 : Ev X e3 σ B (.tuple (muster.map eMan))) (hg : sc.names.lookup ("_law_saved" : Str) = some .globalImplicit := by rfl)
    (s1 : ∀ env, starEach [e1, e2, e3] env = (false, eval e1 env) :: starEach [e2, e3] env := by intro _; rfl) (s2 : ∀ env, starEach [e2, e3] env = (false, eval e2 env) :: starEach [e3] env := by intro _; rfl) (s3 : ∀ env, starEach [e3] env = (false, eval e3 env) :: starEach [] env := by intro _; rfl) (hpl : ∀ env, (backTo pos (starEach [e2, e3] env)).any (·.1) = false := by intro _; rfl) :
    Ev X (.Call (.Name "_law_saved" p) [e1, e2, e3] [] pos) σ B (eNat (mostSaved lasts (bs.map barOf) muster)) := fun H x Q q => by
  refine we_call F G hk ?_ hg (by decide) s1 hpl
  refine (ea_cons h1 (ea_cons h2 (ea_cons h3 ea_nil s3) s2) s1) H x _ fun vs B1 H1 n1 r1 => ?_
  obtain ⟨v1, v2, v3, rfl, r1, r2, r3⟩ := r1.three
  refine ⟨B1, ld, lasts, bs, muster, v1, v2, v3, rfl, n1.bh, r1, r2, r3, V.ins hl, fun n H' x' g => ?_⟩
  have := SI lasts bs muster n V g
  subst this
  exact q _ B1 H' (Nw.exh n1 x') (.int _)
end
theorem short_O (o : Option Int) : short (eO o) = true := by cases o <;> simp [eO, short]
theorem short_Man (m : Man) : short (eMan m) = true := by simp [eMan, short, shortAll]
theorem short_Brk (b : Brk) : short (eBrk b) = true := by simp [eBrk, ePl, short, shortAll]
theorem lis_Man (m : Man) : lisOf (eMan m) = .list [.int m.1, .int m.2] := by simp [eMan, lisOf, lisOfAll]
theorem lis_Brk (b : Brk) : lisOf (eBrk b) = .list [.list [.int b.1.1, .int b.1.2], .int b.2] := by simp [eBrk, ePl, lisOf, lisOfAll]
theorem lis_tupM {α : Type} (enc : α → PyData) (xs : List α) : lisOf (.tuple (xs.map enc)) = .list (xs.map fun x => lisOf (enc x)) := by rw [lisOf, lisOfAll_map, List.map_map]; rfl
theorem depth_list {n : Nat} {ds : List PyData} (h : ∀ d ∈ ds, d.depth ≤ n) : (PyData.list ds).depth ≤ n + 1 := by
  have : PyData.depthAll ds ≤ n := by
    induction ds with
    | nil => simp [PyData.depthAll]
    | cons d ds ih =>
      have h1 := h d List.mem_cons_self
      have h2 := ih fun x hx => h x (List.mem_cons_of_mem _ hx)
      simp only [PyData.depthAll]
      omega
  simp only [PyData.depth]
  omega
theorem depth_tup {n : Nat} {ds : List PyData} (h : ∀ d ∈ ds, d.depth ≤ n) : (PyData.tuple ds).depth ≤ n + 1 := by
  have := depth_list h
  simpa only [PyData.depth] using this
theorem dm {α : Type} {n : Nat} {f : α → PyData} {xs : List α} (h : ∀ x, (f x).depth ≤ n) : ∀ d ∈ xs.map f, d.depth ≤ n := fun d hd => by
  obtain ⟨x, _, rfl⟩ := List.mem_map.mp hd
  exact h x
theorem sm {α : Type} {f : α → PyData} {xs : List α} (h : ∀ x, short (f x) = true) : ∀ d ∈ xs.map f, short d = true := fun d hd => by
  obtain ⟨x, _, rfl⟩ := List.mem_map.mp hd
  exact h x
theorem dp_O (o : Option Int) : (eO o).depth ≤ 0 := by cases o <;> simp [eO, PyData.depth]
theorem dp_Man (m : Man) : (eMan m).depth ≤ 1 := by simp [eMan, PyData.depth, PyData.depthAll]
theorem dp_Brk (b : Brk) : (eBrk b).depth ≤ 2 := by simp [eBrk, ePl, PyData.depth, PyData.depthAll]
theorem dp_lMan (m : Man) : (lisOf (eMan m)).depth ≤ 1 := by rw [lis_Man]; simp [PyData.depth, PyData.depthAll]
theorem dp_lBrk (b : Brk) : (lisOf (eBrk b)).depth ≤ 2 := by rw [lis_Brk]; simp [PyData.depth, PyData.depthAll]
theorem sh_lMan (m : Man) : short (lisOf (eMan m)) = true := by rw [lis_Man]; simp [short, shortAll]
theorem sh_lBrk (b : Brk) : short (lisOf (eBrk b)) = true := by rw [lis_Brk]; simp [short, shortAll]
/-- what is handed on, hard or soft -/
structure Both (ld bd md : PyData) (lasts : Lasts) (bs : List Brk) (muster : List Man) : Prop where
  i3 : In3 ld md lasts muster
  ib : InB bd bs
theorem Vd.hard {lasts : Lasts} {bs : List Brk} {muster : List Man} (h : Vd lasts bs muster) (hb : bs.length ≤ 5) : Both (.tuple (lasts.map eO)) (.tuple (bs.map eBrk)) (.tuple (muster.map eMan)) lasts bs muster := by
  have h1 := h.deep
  have h2 := h.must.1
  refine ⟨⟨rfl, ?_, Nat.le_trans (depth_tup (dm dp_Man)) (by decide), short_tup (by rw [List.length_map]; omega) (sm short_Man), fun m hm => ?_, by omega, by omega⟩, ⟨?_, depth_tup (dm dp_Brk), short_tup (by rw [List.length_map]; omega) (sm short_Brk), hb⟩⟩
  · rw [tupOf, tupOfAll_map, List.map_map]
    exact congrArg PyData.tuple (List.map_congr_left fun m _ => tup_Man m)
  · obtain ⟨a, b, _, _⟩ := h.must.2 m hm
    exact ⟨by omega, b⟩
  · rw [tupOf, tupOfAll_map, List.map_map]
    exact congrArg PyData.tuple (List.map_congr_left fun m _ => tup_Brk m)
theorem Vd.soft {lasts : Lasts} {bs : List Brk} {muster : List Man} (h : Vd lasts bs muster) (hb : bs.length ≤ 5) : Both (lisOf (.tuple (lasts.map eO))) (lisOf (.tuple (bs.map eBrk))) (lisOf (.tuple (muster.map eMan))) lasts bs muster := by
  have hh := h.hard hb
  have h1 := h.deep
  have h2 := h.must.1
  refine ⟨⟨?_, by rw [tup_lis]; exact hh.i3.ht, ?_, ?_, hh.i3.lev, hh.i3.l1, hh.i3.l3⟩, ⟨by rw [tup_lis]; exact hh.ib.ht, ?_, ?_, hb⟩⟩
  · rw [lis_tupM]
    show some _ = some _
    congr 1
    exact List.map_congr_left fun o _ => lis_O o
  · rw [lis_tupM]; exact Nat.le_trans (depth_list (dm dp_lMan)) (by decide)
  · rw [lis_tupM]; exact short_list (by rw [List.length_map]; omega) (sm sh_lMan)
  · rw [lis_tupM]; exact depth_list (dm dp_lBrk)
  · rw [lis_tupM]; exact short_list (by rw [List.length_map]; omega) (sm sh_lBrk)
end
end Mr
end

section
set_option Elab.async false
set_option linter.all false
set_option maxRecDepth 100000
set_option maxHeartbeats 4000000
namespace Mr
open PySem L2 Lay Mn
/-! ### the parts are ordered by their length -/
theorem le_tr {β : Type} (enc : β → PyData) (a b c : β) (h1 : PySem.W.dataLe false enc a b = true) (h2 : PySem.W.dataLe false enc b c = true) : PySem.W.dataLe false enc a c = true := by
  have e : ∀ x y : β, PySem.W.dataLe false enc x y = !PySem.W.dataLt (enc y) (enc x) := fun _ _ => rfl
  rw [e, Bool.not_eq_true'] at h1 h2 ⊢
  cases h : PySem.W.dataLt (enc c) (enc a) with
  | false => rfl
  | true =>
    rcases PyProof.Rows.lex_negTrans _ (PySem.W.keyToks (enc b)) _ h with z | z
    · rw [show PySem.W.dataLt (enc c) (enc b) = true from z] at h2; cases h2
    · rw [show PySem.W.dataLt (enc b) (enc a) = true from z] at h1; cases h1
theorem le_tot {β : Type} (enc : β → PyData) (a b : β) : (PySem.W.dataLe false enc a b || PySem.W.dataLe false enc b a) = true := by
  have e : ∀ x y : β, PySem.W.dataLe false enc x y = !PySem.W.dataLt (enc y) (enc x) := fun _ _ => rfl
  rw [e, e]
  cases h1 : PySem.W.dataLt (enc b) (enc a) with
  | false => rfl
  | true =>
    cases h2 : PySem.W.dataLt (enc a) (enc b) with
    | false => rfl
    | true =>
      have z : PySem.W.dataLt (enc a) (enc a) = true := PyProof.Rows.lex_trans _ _ _ h2 h1
      rw [show PySem.W.dataLt (enc a) (enc a) = false from PyProof.Rows.lex_irrefl _] at z
      cases z
theorem part_le {p q : List Brk} (h : PySem.W.dataLe false keyPart p q = true) : p.length ≤ q.length := by
  have e : PySem.W.dataLe false keyPart p q = !PySem.W.dataLt (keyPart q) (keyPart p) := rfl
  rw [e, Bool.not_eq_true'] at h
  unfold keyPart keyD at h
  rw [PySem.W.dataLt_pair (by simp [PySem.W.alike]) (by simp only [PySem.W.alike]; exact alike_brk q p)] at h
  rw [List.length_map, List.length_map, PySem.W.dataLt_int] at h
  by_cases z : q.length < p.length
  · rw [if_neg (by simp only [PyData.eqv, beq_iff_eq]; omega), decide_eq_false_iff_not] at h
    omega
  · omega
theorem parts_sorted (bs : List Brk) : (partsM bs).Pairwise fun p q => p.length ≤ q.length :=
  (List.pairwise_mergeSort (le_tr keyPart) (le_tot keyPart) (subs bs)).imp fun h => part_le h
/-- the first and those as long -/
def dueL (F : List (List Brk)) : List (List Brk) := match F with | [] => [] | q :: _ => F.filter fun p => decide (p.length = q.length)
theorem go_found (ok : List Brk → Bool) (n : Nat) : ∀ (ps found : List (List Brk)), found ≠ [] → (∀ p ∈ found, p.length = n) → (∀ p ∈ ps, n ≤ p.length) → ps.Pairwise (fun p q => p.length ≤ q.length) → leastGo ok found ps = found ++ (ps.filter ok).filter fun p => decide (p.length = n)
  | [], found, _, _, _, _ => by rw [leastGo_nil, List.filter_nil, List.filter_nil, List.append_nil]
  | p :: ps, found, h1, h2, h3, h4 => by
    rw [leastGo_cons]
    rw [List.pairwise_cons] at h4
    have hp := h3 p List.mem_cons_self
    have eo : overP found p = decide (n < p.length) := by
      cases found with
      | nil => exact absurd rfl h1
      | cons q r =>
        show decide (q.length < p.length) = _
        rw [h2 q List.mem_cons_self]
    rw [eo]
    by_cases hlt : n < p.length
    · rw [if_pos (decide_eq_true hlt)]
      have : ((p :: ps).filter ok).filter (fun p => decide (p.length = n)) = [] := by
        rw [List.filter_eq_nil_iff]
        intro q hq
        have hq := (List.mem_filter.mp hq).1
        rw [decide_eq_true_eq]
        rcases List.mem_cons.mp hq with z | z
        · rw [z]; omega
        · have := h4.1 q z
          omega
      rw [this, List.append_nil]
    · have hn : p.length = n := by omega
      rw [if_neg (by rw [decide_eq_true_eq]; exact hlt), List.filter_cons]
      by_cases hk : ok p = true
      · rw [if_pos hk, if_pos hk, go_found ok n ps (found ++ [p]) (by simp) (fun q hq => by
          rcases List.mem_append.mp hq with z | z
          · exact h2 q z
          · rw [List.mem_singleton.mp z]; exact hn) (fun q hq => h3 q (List.mem_cons_of_mem _ hq)) h4.2, List.filter_cons, if_pos (decide_eq_true hn), List.append_assoc]
        rfl
      · rw [if_neg hk, if_neg hk, go_found ok n ps found h1 h2 (fun q hq => h3 q (List.mem_cons_of_mem _ hq)) h4.2]
theorem go_nil (ok : List Brk → Bool) : ∀ (ps : List (List Brk)), ps.Pairwise (fun p q => p.length ≤ q.length) → leastGo ok [] ps = dueL (ps.filter ok)
  | [], _ => rfl
  | p :: ps, h => by
    rw [List.pairwise_cons] at h
    rw [leastGo_cons, if_neg (show ¬ overP [] p = true from Bool.false_ne_true), List.filter_cons]
    by_cases hk : ok p = true
    · rw [if_pos hk, if_pos hk, go_found ok p.length ps ([] ++ [p]) (by simp) (fun q hq => by rw [List.mem_singleton.mp hq]) h.1 h.2]
      show _ = (p :: ps.filter ok).filter fun q => decide (q.length = p.length)
      rw [List.filter_cons, if_pos (decide_eq_true rfl)]
      rfl
    · rw [if_neg hk, if_neg hk]
      exact go_nil ok ps h.2
theorem least_due (lasts : Lasts) (bs : List Brk) (muster : List Man) : leastM lasts bs muster = dueL ((partsM bs).filter (okPart lasts bs muster)) := go_nil _ _ (parts_sorted bs)
theorem dueL_nil {F : List (List Brk)} : dueL F = [] ↔ F = [] := by
  cases F with
  | nil => exact ⟨fun _ => rfl, fun _ => rfl⟩
  | cons q r =>
    refine ⟨fun h => ?_, fun h => by cases h⟩
    have : q ∈ dueL (q :: r) := List.mem_filter.mpr ⟨List.mem_cons_self, decide_eq_true rfl⟩
    rw [h] at this
    cases this
end Mr
end

section
set_option Elab.async false
set_option linter.all false
set_option maxRecDepth 100000
set_option maxHeartbeats 8000000
namespace Mr
open PySem L2 Lay Mn
theorem we_intR {ι : Type} {X : ι → Cx} {i : Int} {j : Nat} {pos : Pos} {σ : L2.St} {H : Hp} {Q : VK} (q : Q (.int i) H) : We X (.Constant (.int i) j pos) σ H Q := ⟨tC (.int i), fun _ => pe_int, q⟩
theorem sw_cell {elt : Expr} {gs : List Comprehension} {scope : Scope} {pos py : Pos} {y : Str} {l : Nat} {env : Env} (hy : env.scope.names.lookup y = some .cell) : swapsWith (.ListComp elt gs scope pos) (some (.Name y py)) l env = pure false := by
  have ky : env.kindOf y = some .cell := hy
  unfold swapsWith
  simp only [ky]
  show (pure (_ && false && _ && _) : Sem Bool) = pure false
  rw [Bool.and_false]
  rfl
/-- x = [..] for a cell -/
theorem ws_setRC {ι : Type} {X : ι → Cx} {P : Program} {w : World} {K : PySem.W.Frag} {mg : Str → Option Value} {base : Heap} {N : List Str} {sc : Scope} {own : Str → Bool} {k : Nat} {σ : L2.St} {H : Hp} {pos : Pos} {rest : List Stmt} {D : Ends} (F : Fx X P w K mg base N sc own k) (i : Nat) {elt : Expr} {gs : List Comprehension} {scope : Scope} {pos' : Pos} {x : Str} {p' : Pos} (h : We X (.ListComp elt gs scope pos') σ H fun v H1 => Ws X rest D (σ.set i (some v)) H1) (hN : N[i]? = some x := by rfl) (hx : sc.names.lookup x = some .cell := by rfl)
    (ho : own x = true ∨ sc.names.lookup x = some .local := by first | exact .inl rfl | exact .inr rfl) : Ws X (.Assign [.Name x p'] (.ListComp elt gs scope pos') pos :: rest) D σ H :=
  ⟨tSeq (tAsg (We X _) (gName i)) (Ws X rest), fun j => pss_cons (ps_set (F.nd' j) (by rw [F.hN j]; exact hN) (by rw [F.hsc j]; exact .inr hx) (We.pe j) (sw_cell (by rw [F.hsc j]; exact hx)) (F.own' ho j)) (Ws.ps j), h⟩
theorem _root_.Mr.GR.nt {α : Type} {B : Hp} {enc : α → PyData} {kvs : List (Key × V)} {l : Tb α} (r : GR B enc kvs l) : GR (noT B) enc kvs l := by
  induction r with
  | nil => exact .nil
  | cons h t ih => exact .cons h.nt ih
theorem ok_brk (bs : List Brk) (h : bs.length ≤ 10000) : SortOk eBrk bs :=
  ⟨PySem.W.AllAlike.of fun _ _ => by simp [PySem.W.alike, PySem.W.alikeAll, eBrk, ePl], PySem.W.Sortable.tuples fun _ => ⟨_, _, rfl⟩, h, fun b _ => Nat.le_trans (dp_Brk b) (by decide)⟩
theorem plats_ok {n : Nat} {p : Plat} (h : p ∈ platsOf n) : (p.1 = 0 ∨ p.1 = 1) ∧ p.1 ≤ p.2 ∧ p.2 < p.1 + n := by
  unfold platsOf at h
  rcases List.mem_append.mp h with h | h
  · obtain ⟨i, hi, rfl⟩ := List.mem_map.mp h
    have := List.mem_range.mp hi
    exact ⟨.inl rfl, by show (0 : Int) ≤ (i : Int); omega, by show (i : Int) < 0 + n; omega⟩
  · obtain ⟨i, hi, rfl⟩ := List.mem_map.mp h
    have := List.mem_range.mp hi
    exact ⟨.inr rfl, by show (1 : Int) ≤ 1 + (i : Int); omega, by show 1 + (i : Int) < 1 + n; omega⟩
theorem Vd.more {lasts : Lasts} {bs : List Brk} {muster : List Man} {p : Plat} {since : Int} (h : Vd lasts bs muster) (hp : p ∈ platsOf lasts.length) (hn : p ∉ bs.map (·.1)) (s0 : 0 ≤ since) (s1 : since ≤ 5) : Vd lasts (srt eBrk (bs ++ [(p, since)])) muster := by
  refine Vd.perm (bs := bs ++ [(p, since)]) ⟨h.deep, h.lok, ?_, fun b hb => ?_, h.must⟩ (srt_perm _ _)
  · rw [List.map_append, List.nodup_append]
    refine ⟨h.nd, by simp, fun a ha b hb z => hn ?_⟩
    simp only [List.map_cons, List.map_nil, List.mem_singleton] at hb
    rw [← hb, ← z]
    exact ha
  · rcases List.mem_append.mp hb with z | z
    · exact h.brk b z
    · rw [List.mem_singleton.mp z]
      obtain ⟨a, b, c⟩ := plats_ok hp
      exact ⟨a, b, c, s0, s1⟩
theorem costs_law (lasts : Lasts) (bs : List Brk) (muster : List Man) (since : Int) (p : Plat) : costs lasts bs muster since p = (mostSaved lasts (bs.map barOf) muster : Int) - (mostSaved lasts ((srt eBrk (bs ++ [(p, since)])).map barOf) muster : Int) := by
  unfold costs
  rw [most_perm (barsM_perm bs), most_perm (barsM_perm (bs ++ [(p, since)])), most_perm ((srt_perm eBrk (bs ++ [(p, since)])).map barOf)]
theorem _root_.LamX.Tabs.dput {T : List (Addr × Str)} {H : Hp} {g : Addr} {kvs : List (Key × V)} {o : HO} (h : LamX.Tabs T H) (hg : H g = some (.dK kvs)) : LamX.Tabs T (upd H g o) := fun p hp => by
  obtain ⟨ps, h1, h2, h3⟩ := h p hp
  refine ⟨ps, by rw [upd_ne (fun z => by rw [z, hg] at h1; cases h1)]; exact h1, h2, fun pos cv hc => ?_⟩
  obtain ⟨c, e, hco⟩ := h3 pos cv hc
  exact ⟨c, e, by rw [upd_ne (fun z => by rw [z, hg] at hco; unfold LamX.CodeO at hco; cases hco)]; exact hco⟩
theorem noDic_map {α : Type} {f : α → PyData} (h : ∀ x, noDic (f x) = true) : ∀ xs : List α, noDicAll (xs.map f) = true
  | [] => rfl
  | x :: xs => by rw [List.map_cons, noDicAll, h x, noDic_map h xs]; rfl
theorem noDic_Pl (p : Plat) : noDic (ePl p) = true := by simp [ePl, noDic, noDicAll]
theorem noDic_Brk (p : Brk) : noDic (eBrk p) = true := by simp [eBrk, ePl, noDic, noDicAll]
theorem ok_worst (z : Int × List Plat) (h : z.2.length ≤ 10000) : (eWorst z).depth ≤ 4 ∧ short (eWorst z) = true ∧ noDic (eWorst z) = true := by
  have d1 : (ePls z.2).depth ≤ 3 := depth_tup (n := 2) (dm fun p => by simp [ePl, PyData.depth, PyData.depthAll])
  refine ⟨depth_tup (n := 3) fun d hd => ?_, short_tup (by simp) fun d hd => ?_, ?_⟩
  · simp only [List.mem_cons, List.not_mem_nil, or_false] at hd
    rcases hd with rfl | rfl
    · simp [PyData.depth]
    · exact d1
  · simp only [List.mem_cons, List.not_mem_nil, or_false] at hd
    rcases hd with rfl | rfl
    · simp [short]
    · exact short_tup (by rw [List.length_map]; exact h) (sm fun p => by simp [ePl, short, shortAll])
  · unfold eWorst ePls
    simp only [noDic, noDicAll, Bool.and_true, Bool.true_and]
    exact noDic_map noDic_Pl _
theorem ok_ePart (p : List Brk) (h : p.length ≤ 10000) : (ePart p).depth ≤ 3 ∧ short (ePart p) = true ∧ noDic (ePart p) = true :=
  ⟨depth_tup (dm dp_Brk), short_tup (by rw [List.length_map]; exact h) (sm short_Brk), by unfold ePart; rw [noDic]; exact noDic_map noDic_Brk _⟩
theorem ok_heard (l : List (List Brk)) (h : l.length ≤ 10000) (hp : ∀ p ∈ l, p.length ≤ 10000) : (heardD l).depth ≤ 4 ∧ short (heardD l) = true ∧ noDic (heardD l) = true := by
  unfold heardD
  by_cases e : l = []
  · rw [if_pos e]
    exact ⟨by simp [PyData.depth, PyData.depthAll], by simp [short, shortAll], by simp only [noDic, noDicAll]; decide +kernel⟩
  · rw [if_neg e]
    have h1 : ∀ d ∈ l.map ePart, d.depth ≤ 3 ∧ short d = true ∧ noDic d = true := fun d hd => by
      obtain ⟨p, hp', rfl⟩ := List.mem_map.mp hd
      exact ok_ePart p (hp p hp')
    refine ⟨depth_list fun d hd => (h1 d hd).1, short_list (by rw [List.length_map]; exact h) fun d hd => (h1 d hd).2.1, ?_⟩
    rw [noDic]
    clear h e hp
    induction l with
    | nil => rfl
    | cons p l ih => rw [List.map_cons, noDicAll, (h1 _ List.mem_cons_self).2.2, ih fun d hd => h1 d (List.mem_cons_of_mem _ hd)]; rfl
theorem two_same {d : PyData} (h : d.depth ≤ 4 ∧ short d = true ∧ noDic d = true) : (PyData.list [d, d]).depth < 10 ∧ short (.list [d, d]) = true ∧ noDic (.list [d, d]) = true := by
  have m : ∀ x ∈ [d, d], x = d := fun x hx => by simpa using hx
  refine ⟨Nat.lt_of_le_of_lt (depth_list (n := 4) fun x hx => by rw [m x hx]; exact h.1) (by decide), short_list (by simp) fun x hx => by rw [m x hx]; exact h.2.1, ?_⟩
  simp [noDic, noDicAll, h.2.2]
theorem tabs_uw {T : List (Addr × Str)} {H H' : Hp} {u : Addr} {n : Int} (h : LamX.Tabs T H) (w : Uw u H H') (hu : Urn H u n) : LamX.Tabs T H' := fun p hp => by
  obtain ⟨ps, h1, h2, h3⟩ := h p hp
  obtain ⟨_, _, _, hu, _⟩ := hu
  have ne1 : p.1 ≠ u := fun z => by rw [z, hu] at h1; cases h1
  refine ⟨ps, w _ _ ne1 ne1 h1, h2, fun pos cv hc => ?_⟩
  obtain ⟨c, e, hco⟩ := h3 pos cv hc
  have ne2 : c ≠ u := fun z => by rw [z, hu] at hco; unfold LamX.CodeO at hco; cases hco
  exact ⟨c, e, w _ _ ne2 ne2 hco⟩
theorem Uw.new {u p : Addr} {H H' : Hp} {o : HO} (w : Uw u H H') (hp : H' p = none) : Uw u H (upd H' p o) := w.trans (.of (Ex.new hp))
def spRight (T : List (Addr × Str)) : Sp := fun vs H Q _ => ∃ (u : Addr), vs = [.ref u] ∧ Urn H u 0 ∧ LamX.Tabs T H ∧ ∀ H', (∀ a o, a ≠ u → H a = some o → (∀ ps, o ≠ .tbl ps) → H' a = some o) → LamX.Tabs T H' → Q (.bl true) H'
section
variable {P : Program} {w : World} {K : PySem.W.Frag} {mg : Str → Option Value} {base : Heap}
theorem fn_right (k : Nat) (hk : 107 ≤ k) (SI : SavedIs) {T : List (Addr × Str)} {C : Addr} (F : Df K mg "_law_right" s__law_right ["_law_urn"]) (GT : Fn P w K mg base "_law_take" 1 ["_law_urn", "_law_low_so"] spTake) (GO : Fn P w K mg base "_law_of" 2 ["_law_urn", "_law_goods_so"] spOf)
    (GRf : Fn P w K mg base "_law_roofs" 3 ["_law_urn", "_law_deep"] spRoofs) (GB : Fn P w K mg base "_law_breaks" 3 ["_law_urn", "_law_deep", "_law_most_here"] spBreaks) (GM : Fn P w K mg base "_law_muster" 3 ["_law_urn", "_law_deep", "_law_most_here"] spMuster)
    (GS : Fn P w K mg base "_law_saved" 104 ["_law_lasts", "_law_breaks_here", "_law_muster_here"] spSaved) (GSp : Fn P w K mg base "_law_spots" 1 ["_law_deep", "_law_made"] spSpots) (GLi : Fn P w K mg base "_law_lists" 6 ["_law_matter"] (spD (rLis 5)))
    (GW : Fn P w K mg base "worst_platforms" 8 ["lasts", "breaks", "muster", "since"] (spD rWorst)) (GSa : Fn P w K mg base "_law_same" 11 ["_law_got", "_law_goal"] (spD (rSame 10))) (GP : Fn P w K mg base "_law_parts" 3 ["_law_breaks_here"] (spParts T)) (GH : Fn P w K mg base "_law_heard" 9 ["_law_lasts", "_law_breaks_here", "_law_muster_here"] (spHeard T))
    (ml : mg "len" = none) (mt : mg "tuple" = none) (ms : mg "sorted" = none) (mma : mg "max" = none) : Fn P w K mg base "_law_right" (k + 1) ["_law_urn"] (spRight T) := by
  obtain ⟨f, fd, F, hm, hb⟩ := F
  refine fn_any F sc__law_right hm hb (fun vs H Q E h => ?_) (fun X C vs H Q E h => ?_)
  · obtain ⟨_, rfl, _⟩ := h
    rfl
  · obtain ⟨u, rfl, hu, hT, q⟩ := h
    have us : US E0h H u 0 := ⟨E0h.ex H, rfl, hu⟩
    -- deep = 2 + take(urn, 2)
    refine ws_setR C 1 (we_opR (r := rI0 fun i j => .int (i + j)) (fun _ => op_add) (we_intR (we_take C GT 0 (by omega) us (by decide) ev_int (by decide) (by decide) rfl fun d B2 H2 d0 d1 us2 nu2 => ⟨2, d, rfl, rfl, ?_⟩)))
    have uw2 : Uw u H H2 := nu2.uw
    obtain ⟨m, hm2, em⟩ : ∃ m : Nat, (m = 2 ∨ m = 3) ∧ 2 + d = (m : Int) := ⟨(2 + d).toNat, by omega, by omega⟩
    show Ws X _ _ (List.set _ 1 (some (V.int (2 + d)))) H2
    rw [em]
    -- lasts, breaks = roofs(urn, deep), breaks(urn, deep, 3)
    refine ws_asgR C (we_tup (wa_cons (we_call C GRf (by omega) (wa_cons (we_var C 0 rfl (wa_cons (we_var C 1 rfl (wa_nil ⟨B2, u, _, (m : Int), rfl, us2, by decide, by omega, by omega, fun lasts vl B3 H3 hlen lok us3 nu3 rl => ?_⟩)))))))) (by intro _; rfl) (fun i => C.swap (by rfl) i)
    rw [Int.toNat_natCast] at hlen
    refine wa_cons (we_call C GB (by omega) (wa_cons (we_var C 0 rfl (wa_cons (we_var C 1 rfl (wa_cons (we_intR (wa_nil ⟨B3, u, _, (m : Int), rfl, us3, by decide, by omega, by omega, fun bs vb B4 H4 bok us4 x4 uw4 rb => ?_⟩))))))))
    refine wa_nil ⟨by show 2 ≤ sizeLine; decide, fun p hp => ?_⟩
    have uwA : Uw u H (upd H4 p (.tup [vl, vb])) := Uw.new ((uw2.trans nu3.uw).trans uw4) hp
    have usA : US B4 (upd H4 p (.tup [vl, vb])) u _ := us4.mut (us4.ex.free hp) (us4.ne hp)
    refine wg_tup2R C upd_same (wg_name C 2 (wg_name C 3 ?_))
    have rl4 := rl.up x4
    generalize upd H4 p (.tup [vl, vb]) = H5 at uwA usA
    -- muster, since = muster(urn, deep, 3), of(urn, [0, 2, 1, 4])
    refine ws_asgR C (we_tup (wa_cons (we_call C GM (by omega) (wa_cons (we_var C 0 rfl (wa_cons (we_var C 1 rfl (wa_cons (we_intR (wa_nil ⟨B4, u, _, (m : Int), rfl, usA, by decide, by omega, by omega, fun muster vm B6 H6 mok us6 nu6 rm => ?_⟩)))))))))) (by intro _; rfl) (fun i => C.swap (by rfl) i)
    refine wa_cons (we_of C GO 0 (by omega) us6 (by decide) (ds := [.int 0, .int 2, .int 1, .int 4]) (ev_lst (ea_cons ev_int (ea_cons ev_int (ea_cons ev_int (ea_cons ev_int ea_nil))))) (by simp) (by simp) rfl fun v7 d7 B7 H7 hd7 us7 nu7 rv7 => wa_nil ⟨by show 2 ≤ sizeLine; decide, fun p' hp' => ?_⟩)
    obtain ⟨since, rfl, s0, s1⟩ : ∃ since : Int, d7 = .int since ∧ 0 ≤ since ∧ since ≤ 5 := by
      simp only [List.mem_cons, List.not_mem_nil, or_false] at hd7
      rcases hd7 with rfl | rfl | rfl | rfl <;> exact ⟨_, rfl, by decide, by decide⟩
    cases rv7
    refine wg_tup2R C upd_same (wg_name C 4 (wg_name C 5 ?_))
    have uw8 : Uw u H (upd H7 p' (.tup [vm, .int since])) := Uw.new ((uwA.trans nu6.uw).trans nu7.uw) hp'
    have ex8 : Ex B7 (upd H7 p' (.tup [vm, .int since])) := us7.ex.trans (Ex.new hp')
    have hT8 := tabs_uw hT uw8 hu
    have old8 : ∀ a o, a ≠ u → H a = some o → upd H7 p' (.tup [vm, .int since]) a = some o := fun a o h1 h2 => uw8 a o h1 h1 h2
    generalize upd H7 p' (.tup [vm, .int since]) = H8 at ex8 hT8 old8
    have rl8 : Rp (noT B7) vl (.tuple (lasts.map eO)) := ((rl4.up nu6.bb).up nu7.bb).nt
    have rb8 : Rp (noT B7) vb (.tuple (bs.map eBrk)) := ((rb.up nu6.bb).up nu7.bb).nt
    have rm8 : Rp (noT B7) vm (.tuple (muster.map eMan)) := (rm.up nu7.bb).nt
    have e8 : Ex (noT B7) H8 := noT_ex ex8
    have nt8 : NT (noT B7) := noT_nt _
    generalize noT B7 = B8 at rl8 rb8 rm8 e8 nt8
    have bok' : ∀ b ∈ bs, BrkOk lasts.length b := fun b hb => by rw [hlen]; exact bok.ok b hb
    have VD : Vd lasts bs muster := ⟨by rw [hlen]; exact hm2, lok, bok.nd, bok', by rw [hlen]; exact mok⟩
    have hb5 : bs.length ≤ 5 := by have := bok.len; omega
    have hard := VD.hard hb5
    have soft := VD.soft hb5
    -- most_here, fewer = saved(lasts, breaks, muster), {}
    refine ws_par C 6 7 (wa_cons ((ev_saved C SI GS (by omega) rfl VD (C.nm 2 rfl rl8) (C.nm 3 rfl rb8) (C.nm 4 rfl rm8)).use e8 fun vm9 B9 H9 n9 r9 => wa_cons (en_dk fun g hg => wa_nil ⟨_, _, rfl, ?_⟩))) (hw := C.swap (by rfl))
    cases r9
    have w9 := NwT.of n9 nt8 hT8
    have x10 : Ex H9 (upd H9 g (.dK [])) := Ex.new hg
    have bg9 : noT B9 g = none := noT_none (n9.bh.free hg)
    have hg8 : H8 g = none := n9.hh.free hg
    have w10 : NwT T B8 H8 (noT B9) (upd H9 g (.dK [])) := ⟨w9.nt, w9.bb, w9.bh.trans x10, w9.at'.trans (LamX.ExtN.of x10), w9.old, w9.tb.ext x10⟩
    have hg10 : upd H9 g (.dK []) g = some (.dK []) := upd_same
    have rl10 := rl8.up w10.bb
    have rb10 := rb8.up w10.bb
    have rm10 := rm8.up w10.bb
    generalize noT B9 = B10 at w10 bg9 rl10 rb10 rm10
    generalize upd H9 g (.dK []) = H10 at w10 hg10
    -- for own in sorted(spots(deep, 0))
    have hu90 : ∀ y, (X y).A.units + 90 < cLine := fun y => by have := (C.room y).un; omega
    refine ws_forR C (wi_list C (we_callBR C (fun y => cr_sortedDT (C.calm y) (hu90 y)) (wa_cons (we_call C GSp (by omega) (wa_cons (we_var C 1 rfl (wa_cons (we_intR (wa_nil ⟨m, rfl, by omega, fun g2 kvs2 H11 x11 hg2 hg2' hk2 => wa_nil ⟨g2, kvs2, spotsK m, rfl, hg2', hk2, by rw [spotsK_len]; omega, fun zs l hl hzs hz => ?_⟩⟩))))))) ms))
    rw [srt_spots hm2] at hzs
    have c11 : H11 g = some (.dK []) := x11 _ _ hg10
    have gl : g ≠ l := ne_of_none c11 hl
    have e10 : Ex B10 H11 := w10.bh.trans x11
    have x12 : Ex H11 (upd H11 l (.lst (zs.map (·.1)))) := Ex.new hl
    have e12 : Ex B10 (upd H11 l (.lst (zs.map (·.1)))) := e10.trans x12
    have bl : tupB B10 H11 l = none := (tupB_in e10).free hl
    have eT : Ex B10 (tupB B10 H11) := tupB_ex _ _
    have rz : RpAll (tupB B10 H11) (zs.map (·.1)) ((platsOf m).map ePl) := by
      rw [← hzs, List.map_map]
      have gen : ∀ L : List (V × (Int × Int)), (∀ z ∈ L, ∃ b, z.1 = .ref b ∧ H11 b = some (.tup [.int z.2.1, .int z.2.2])) → RpAll (tupB B10 H11) (L.map (·.1)) (L.map (ePl ∘ (·.2))) := by
        intro L
        induction L with
        | nil => intro _; exact .nil
        | cons z L ih =>
          intro h
          obtain ⟨b, e1, e2⟩ := h z List.mem_cons_self
          refine .cons ?_ (ih fun x hx => h x (List.mem_cons_of_mem _ hx))
          show Rp (tupB B10 H11) z.1 (ePl z.2)
          rw [e1]
          exact .tup (tupB_tup e10 e2) (.cons (.int _) (.cons (.int _) .nil))
      exact gen zs hz
    have ntT : NT (tupB B10 H11) := fun a ps z => by
      unfold tupB at z
      cases hb : B10 a with
      | some o => rw [hb] at z; simp only at z; rw [z] at hb; exact w10.nt a ps hb
      | none =>
        rw [hb] at z
        simp only at z
        cases hh : H11 a with
        | none => rw [hh] at z; cases z
        | some o => rw [hh] at z; cases o <;> simp at z
    have bgT : tupB B10 H11 g = none := by unfold tupB; rw [bg9]; simp only [c11]
    have eB13 : Ex (upd (tupB B10 H11) l (.lst (zs.map (·.1)))) (upd H11 l (.lst (zs.map (·.1)))) := (tupB_in e10).both
    have bb13 : Ex B10 (upd (tupB B10 H11) l (.lst (zs.map (·.1)))) := eT.trans (Ex.new bl)
    have hl13 : upd (tupB B10 H11) l (.lst (zs.map (·.1))) l = some (.lst (zs.map (·.1))) := upd_same
    have rz13 := rz.up (Ex.new (o := .lst (zs.map (·.1))) bl)
    have nt13 : NT (upd (tupB B10 H11) l (.lst (zs.map (·.1)))) := fun a ps z => by
      by_cases e : a = l
      · rw [e, upd_same] at z; cases z
      · rw [upd_ne e] at z; exact ntT a ps z
    have bg13 : upd (tupB B10 H11) l (.lst (zs.map (·.1))) g = none := by rw [upd_ne gl]; exact bgT
    have hg13 : upd H11 l (.lst (zs.map (·.1))) g = some (.dK []) := by rw [upd_ne gl]; exact c11
    have old13 : LamX.ExtN H8 (upd H11 l (.lst (zs.map (·.1)))) := w10.at'.trans (LamX.ExtN.of (x11.trans x12))
    have tb13 : LamX.Tabs T (upd H11 l (.lst (zs.map (·.1)))) := w10.tb.ext (x11.trans x12)
    generalize upd (tupB B10 H11) l (.lst (zs.map (·.1))) = B13 at eB13 bb13 hl13 rz13 nt13 bg13
    refine ⟨l, zs.map (·.1), rfl, upd_same, (platsOf m).map ePl, B13, eB13, drives_list hl13 rz13, ?_⟩
    generalize upd H11 l (.lst (zs.map (·.1))) = H13 at eB13 hg13 old13 tb13
    rw [← hlen]
    refine ⟨fun i σ' H' => ∃ (kvs : List (Key × V)) (w8 w9 w10 w11 w12 w13 : Option V) (B' : Hp), σ' = [some (.ref u), some (.int (lasts.length : Nat)), some vl, some vb, some vm, some (.int since), some (.int (mostSaved lasts (bs.map barOf) muster : Nat)), some (.ref g), w8, w9, w10, w11, w12, w13] ∧
      Ex B13 B' ∧ Ex B' H' ∧ B' g = none ∧ H' g = some (.dK kvs) ∧ GR B' ePls kvs (gpT lasts bs muster since i) ∧ NT B' ∧ LamX.ExtN H8 H' ∧ LamX.Tabs T H',
      ⟨[], _, _, _, _, _, _, B13, (by rw [hlen]; rfl), Ex.refl _, eB13, bg13, hg13, .nil, nt13, old13, tb13⟩, fun i d σ' H' hi ⟨kvs, y8, y9, y10, y11, y12, y13, B', e, n5', xh, bg', hg', gr, nt', at', tb'⟩ => ⟨B', n5', xh, fun v B6 H6 n6 rv => ?_⟩, fun i σ' H' ⟨_, _, _, _, _, _, _, _, _, n5', xh, _⟩ => n5'.trans xh, fun σ' H' ⟨kvs, y8, y9, y10, y11, y12, y13, B', e, n5', xh, bg', hg', gr, nt', at', tb'⟩ => ?_⟩
    · subst e
      rw [List.getElem?_map] at hi
      obtain ⟨p, hp, rfl⟩ := Option.map_eq_some_iff.mp hi
      have hpm : p ∈ platsOf lasts.length := List.mem_of_getElem? hp
      have c6 := n6.cell hg' bg'
      have x56 : Ex B10 B6 := bb13.trans (n5'.trans n6.bb)
      have lg : (gpT lasts bs muster since i).length ≤ 2 * lasts.length := gpT_len
      have l3 : lasts.length ≤ 3 := by omega
      refine wg_name C 8 ?_
      -- if own not in [its[0] for its in breaks]
      refine ws_if ((et_cmp (o_notInL C (fl_Pl p).flat (fl_list (ds := (bs.map (·.1)).map ePl) (n := 1) (fl_map fun x => fl_Pl x)).flat) (C.nm 8 rfl rv) (Ev.is (ev_lc C (xs := bs) (enc := eBrk) [("_law_its", 13)] (ei_tup C (C.nm 3 rfl (rb10.up x56))) (fun _ => true) (fun b => ePl b.1) (by omega) fun b hb B7 H7 v7 e1 e2 rv7 => ?_) ?_)).is (notIn_Pl p _)) n6.bh (fun hy H7 x7 => ?_) (fun hy H7 x7 => ws_nil (ws_nil ?_))
      · exact turn_name (C.blk _) 13 (by decide) es_nil fun _ => ev_ix (j := 0) ((C.blk _).nm 13 rfl rv7) ev_int rfl rfl rfl
      · rw [List.filter_eq_self.mpr fun _ _ => rfl, List.map_map]
        rfl
      · have hy' := of_decide_eq_true hy
        have n7 := Nw.exh n6 x7
        have c7 := n7.cell hg' bg'
        have VD2 := VD.more hpm hy' s0 s1
        -- less = most_here - saved(lasts, tuple(sorted(breaks + ((own, since),))), muster)
        refine ws_set C 9 (d := .int (costs lasts bs muster since p)) (Ev.is (ev_bin o_sub (C.nm 6 rfl (.int _)) (ev_saved C SI GS (by omega) rfl VD2 (C.nm 2 rfl (rl10.up x56)) (ev_callTy C (c_tuple C) (ea_cons (ev_callB C (c_sortedT C (ok_brk (bs ++ [(p, since)]) ?_)) (ea_cons (Ev.is (ev_bin (o_catT ?_) (C.nm 3 rfl (rb10.up x56)) (ev_tup (ea_cons (ev_tup (ea_cons (C.nm 8 rfl rv) (ea_cons (C.nm 5 rfl (.int since)) ea_nil))) ea_nil))) ?_) ea_nil) ms) ea_nil) mt) (C.nm 4 rfl (rm10.up x56)))) ?_) n7.bh fun vf Bx Hx nx rf => ?_
        · rw [List.length_append, List.length_singleton]; omega
        · rw [List.length_map, List.length_singleton]
          exact sz5 (by omega)
        · rw [List.map_append]
          rfl
        · rw [costs_law]
        cases rf
        have m8 := n7.trans nx
        have c8 := nx.cell c7.1 c7.2
        have gr8 := (gr.up n6.bb).up nx.bb
        -- fewer[less] = fewer.get(less, ()) + (own,)
        have sml := gpT_small (lasts := lasts) (bs := bs) (muster := muster) (since := since) (i := i) (costs lasts bs muster since p)
        have eg : Ex Bx (upd Bx g (.dK kvs)) := Ex.new c8.2
        refine ws_dput C 7 (n := costs lasts bs muster since p) (d := ePls ((gtA (gpT lasts bs muster since i) (costs lasts bs muster since p)).getD [] ++ [p])) (Ev.is (ev_bin (o_catT ?_) (ev_dget2 C 7 rfl upd_same (C.nm 9 rfl (.int _)) (ev_tup ea_nil) (d := ePls ((gtA (gpT lasts bs muster since i) (costs lasts bs muster since p)).getD [])) (fun v hv => ?_) fun hv => ?_)
          (ev_tup (ea_cons (C.nm 8 rfl ((rv.up nx.bb).up eg)) ea_nil))) ?_) (C.nm 9 rfl (.int _)) nx.bh rfl c8.1 c8.2 (by rw [gr.len]; omega) fun v9 Bz Hz nz bz hz rz => ws_nil (ws_nil ?_)
        · rw [List.length_map, List.length_singleton]
          exact sz5 (by omega)
        · rcases gr8.val (costs lasts bs muster since p) with ⟨h1, _⟩ | ⟨v', a, h1, h2, h3⟩
          · rw [hv] at h1; cases h1
          · rw [hv] at h1
            cases h1
            rw [h2]
            exact h3.up eg
        · rcases gr8.val (costs lasts bs muster since p) with ⟨_, h2⟩ | ⟨v', a, h1, _⟩
          · rw [h2]; rfl
          · rw [hv] at h1; cases h1
        · unfold ePls
          rw [List.map_append]
          rfl
        · have nn := m8.trans nz
          refine ⟨putK kvs (.inl (costs lasts bs muster since p)) v9, _, _, _, _, _, _, noT Bz, rfl, noT_sub nt13 (n5'.trans nn.bb), (noT_ex nn.bh).mut (noT_none bz), noT_none bz, upd_same, ?_, noT_nt _, extN_put (at'.trans (LamX.ExtN.of nn.hh)) hg8, ?_⟩
          · rw [gpT_in hp hy']
            exact ((gr8.up nz.bb).put _ rz).nt
          · exact (tb'.ext nn.hh).dput hz
      · have n7 := Nw.exh n6 x7
        have c7 := n7.cell hg' bg'
        refine ⟨kvs, _, _, _, _, _, _, noT B6, rfl, noT_sub nt13 (n5'.trans n6.bb), noT_ex n7.bh, noT_none c7.2, c7.1, ?_, noT_nt _, at'.trans (LamX.ExtN.of n7.hh), tb'.ext n7.hh⟩
        rw [gpT_out hp hy]
        exact (gr.up n6.bb).nt
    · subst e
      rw [List.length_map] at gr
      have e0 := gpT_end (lasts := lasts) (bs := bs) (muster := muster) (since := since)
      rw [List.length_map] at e0
      have lz : (worstD lasts bs muster since).2.length ≤ 10000 := by
        rw [← e0]
        have l3 : lasts.length ≤ 3 := by omega
        cases hG : gpT lasts bs muster since (platsOf lasts.length).length with
        | nil => exact Nat.zero_le _
        | cons a r =>
          obtain ⟨mx', ps, h1, h2, h3⟩ := worstT_max (l := a :: r) (by simp)
          rw [h3]
          have := gpT_small (lasts := lasts) (bs := bs) (muster := muster) (since := since) (i := (platsOf lasts.length).length) mx'
          rw [hG, h2] at this
          have this : ps.length ≤ 2 * lasts.length := this
          show ps.length ≤ 10000
          omega
      generalize hG : gpT lasts bs muster since (platsOf lasts.length).length = G at gr e0
      have eg : Ex B' (upd B' g (.dK kvs)) := Ex.new bg'
      have ea : Ex (upd B' g (.dK kvs)) H' := ex_take xh hg'
      -- due = (max(fewer), fewer[max(fewer)]) if fewer != {} else (0, ())
      refine ws_set C 10 (d := eWorst (worstD lasts bs muster since)) (ev_if (et_dne C 7 rfl upd_same) (fun hy => ?_) fun hy => ?_) ea fun vd Bd Hd nd rd => ?_
      · rw [gr.emp, Bool.not_eq_true', List.isEmpty_eq_false_iff] at hy
        obtain ⟨mx', ps, h1, h2, h3⟩ := worstT_max hy
        have h1' := List.max?_eq_some_iff.mp h1
        rw [← e0, h3]
        rcases gr.val mx' with ⟨_, h4⟩ | ⟨v', a, h4, h5, h6⟩
        · rw [h2] at h4; cases h4
        · rw [h2] at h5
          cases h5
          exact ev_tup (ea_cons (ev_maxD C 7 rfl upd_same gr.keys h1'.1 h1'.2 mma) (ea_cons (ev_dget C 7 rfl upd_same (ev_maxD C 7 rfl upd_same gr.keys h1'.1 h1'.2 mma) h4 (h6.up eg)) ea_nil))
      · rw [gr.emp, Bool.not_eq_false', List.isEmpty_iff] at hy
        rw [← e0, hy]
        exact ev_tup (ea_cons ev_int (ea_cons (ev_tup ea_nil) ea_nil))
      obtain ⟨n14, b14, _, _⟩ := nd.drop bg'
      have rd' := rd.drop b14
      have x14 : Ex B10 (hole Bd g) := bb13.trans (n5'.trans n14.bb)
      have at14 : LamX.ExtN H8 Hd := at'.trans (LamX.ExtN.of n14.hh)
      have tb14 : LamX.Tabs T Hd := tb'.ext n14.hh
      have e14 : Ex (hole Bd g) Hd := n14.bh
      have rl14 := rl10.up x14
      have rb14 := rb10.up x14
      have rm14 := rm10.up x14
      generalize hole Bd g = B14 at rd' e14 rl14 rb14 rm14
      have dL : ∀ {α : Type} {f : α → PyData} {n : Nat} (xs : List α), (∀ x, (f x).depth ≤ n) → n ≤ 3 → (PyData.tuple (xs.map f)).depth < 5 := fun xs h hn => Nat.lt_of_le_of_lt (depth_tup (dm h)) (by omega)
      -- soft = [lists(lasts), lists(breaks), lists(muster)]
      refine ws_set C 11 (ev_lst (ea_cons (ev_call C GLi (ea_cons (C.nm 2 rfl rl14) ea_nil) ⟨_, rfl, dL lasts dp_O (by decide), short_tup (by rw [List.length_map]; omega) (sm short_O), rfl⟩) (ea_cons (ev_call C GLi (ea_cons (C.nm 3 rfl rb14) ea_nil) ⟨_, rfl, dL bs dp_Brk (by decide), hard.ib.hs, rfl⟩) (ea_cons (ev_call C GLi (ea_cons (C.nm 4 rfl rm14) ea_nil) ⟨_, rfl, dL muster dp_Man (by decide), hard.i3.hs, rfl⟩) ea_nil)))) e14 fun vs15 B15 H15 n15 r15 => ?_
      have rl15 := rl14.up n15.bb
      have rb15 := rb14.up n15.bb
      have rm15 := rm14.up n15.bb
      have rd15 := rd'.up n15.bb
      have ow := two_same (ok_worst (worstD lasts bs muster since) lz)
      have sx : ∀ {B : Hp} {σ : L2.St} {p1 p2 p3 : Pos} {j : Nat} {k2 : Nat} {d : PyData}, Ex B15 B → σ[11]? = some (some vs15) → [lisOf (.tuple (lasts.map eO)), lisOf (.tuple (bs.map eBrk)), lisOf (.tuple (muster.map eMan))][j]? = some d → Ev X (.Subscript (.Name "_law_soft" p1) (.Constant (.int (j : Nat)) k2 p2) p3) σ B d := fun {B σ p1 p2 p3 j k2 d} e h11 hj => ev_ix (j := j) (C.nm 11 h11 (r15.up e)) ev_int rfl rfl hj
      -- if not same([worst(..), worst(..)], [due, due]): return False
      refine ws_ifN (et_not (et_val (ev_call C GSa (ea_cons (ev_lst (ea_cons (ev_call C GW (ea_cons (C.nm 2 rfl rl15) (ea_cons (C.nm 3 rfl rb15) (ea_cons (C.nm 4 rfl rm15) (ea_cons (C.nm 5 rfl (.int since)) ea_nil)))) ⟨_, _, _, lasts, bs, muster, since, rfl, hard.i3, hard.ib.ht, hard.ib.hd, hard.ib.hs, by omega, rfl⟩)
        (ea_cons (ev_call C GW (ea_cons (ev_ix (j := 0) (C.nm 11 rfl r15) ev_int rfl rfl rfl) (ea_cons (ev_ix (j := 1) (C.nm 11 rfl r15) ev_int rfl rfl rfl) (ea_cons (ev_ix (j := 2) (C.nm 11 rfl r15) ev_int rfl rfl rfl) (ea_cons (C.nm 5 rfl (.int since)) ea_nil)))) ⟨_, _, _, lasts, bs, muster, since, rfl, soft.i3, soft.ib.ht, soft.ib.hd, soft.ib.hs, by omega, rfl⟩) ea_nil)))
        (ea_cons (ev_lst (ea_cons (C.nm 10 rfl rd15) (ea_cons (C.nm 10 rfl rd15) ea_nil))) ea_nil)) ⟨_, rfl, ow.1, ow.2.1, ow.2.2, rfl⟩))) n15.bh (fun hy => by cases hy) fun _ H16 x16 => ?_
      have nt16 : NT (noT B15) := noT_nt _
      have e16 : Ex (noT B15) H16 := noT_ex (n15.bh.trans x16)
      have rl16 := rl15.nt
      have rb16 := rb15.nt
      have rm16 := rm15.nt
      have rs16 := r15.nt
      have at16 : LamX.ExtN H8 H16 := at14.trans (LamX.ExtN.of (n15.hh.trans x16))
      have tb16 : LamX.Tabs T H16 := tb14.ext (n15.hh.trans x16)
      generalize noT B15 = B16 at nt16 e16 rl16 rb16 rm16 rs16
      have pl := parts_len hb5
      -- parts_here = [own for own in parts(breaks) if saved(..) == len(muster)]
      refine ws_setRC C 12 (we_lcP C (xs := partsM bs) (enc := ePart) [("_law_own", 8)] (okPart lasts bs muster) ePart (by omega) (wi_list C (we_call C GP (by omega) (wa_cons (we_var C 3 rfl (wa_nil ⟨B16, bs, vb, rfl, e16, nt16, tb16, rb16, hb5, fun v17 B17 H17 w17 r17 => ?_⟩))))))
      cases r17 with
      | @lst l17 xs17 _ h17 g17 =>
      have b17 := w17.bb
      refine ⟨l17, xs17, rfl, w17.bh _ _ h17, B17, w17.bh, drives_list h17 g17, fun p hp B18 H18 v18 e1 e2 rv18 => ?_, fun v19 B19 H19 n19 r19 => ?_⟩
      · have flp : Flat (ePart p) := (fl_tup (n := 2) (fl_map fun b => fl_Brk b)).flat
        have VDp : Vd lasts (bs.filter fun b => decide (b ∉ p)) muster := VD.sub List.filter_sublist
        refine turn_name (C.blk _) 8 (by decide) (es_one (Et.is (et_cmp o_eqI (ev_saved (C.blk _) SI GS (by omega) rfl VDp ((C.blk _).nm 2 rfl ((rl16.up b17).up e1)) (ev_callTy (C.blk _) (c_tuple (C.blk _)) (ea_cons (ev_lc (C.blk _) (xs := bs) (enc := eBrk) [("_law_its", 13)] (ei_tup (C.blk _) ((C.blk _).nm 3 rfl ((rb16.up b17).up e1))) (fun b => decide (b ∉ p)) eBrk (by omega) fun b hb B20 H20 v20 e3 e4 rv20 => ?_) ea_nil) mt) ((C.blk _).nm 4 rfl ((rm16.up b17).up e1))) (ev_callB (C.blk _) (c_len (C.blk _) rfl) (ea_cons ((C.blk _).nm 4 rfl ((rm16.up b17).up e1)) ea_nil) ml)) ?_)) fun _ => (C.blk _).nm 8 rfl rv18
        · exact turn_name ((C.blk _).blk _) 13 (by decide) (es_one ((et_cmp (o_notInU ((C.blk _).blk _) (fl_Brk b).flat flp) (((C.blk _).blk _).nm 13 rfl rv20) (((C.blk _).blk _).nm 8 rfl (rv18.up e3))).is (notIn_Brk b p))) fun _ => ((C.blk _).blk _).nm 13 rfl rv20
        · unfold okPart
          rw [all_iff, most_perm (barsM_perm _), List.length_map]
          exact decide_eq_decide.mpr (by omega)
      · have n19' := NwT.of n19 w17.nt w17.tb
        have r19' := r19.nt
        have l19 : ((partsM bs).filter (okPart lasts bs muster)).length ≤ 100000 := by
          have := List.length_filter_le (okPart lasts bs muster) (partsM bs)
          omega
        have lF : (leastM lasts bs muster).length ≤ 10000 := by
          rw [least_due]
          have h1 := List.length_filter_le (okPart lasts bs muster) (partsM bs)
          have h2 : ∀ F : List (List Brk), (dueL F).length ≤ F.length := fun F => by
            cases F with
            | nil => exact Nat.le_refl _
            | cons q r => exact List.length_filter_le _ _
          have := h2 ((partsM bs).filter (okPart lasts bs muster))
          omega
        have pF : ∀ p ∈ leastM lasts bs muster, p.length ≤ 10000 := fun p hp => by
          rw [least_due] at hp
          have h2 : ∀ F : List (List Brk), ∀ p ∈ dueL F, p ∈ F := fun F p hp => by
            cases F with
            | nil => cases hp
            | cons q r => exact (List.mem_filter.mp hp).1
          have := (parts_mem (List.mem_filter.mp (h2 _ p hp)).1).length_le
          omega
        have oh := two_same (ok_heard _ lF pF)
        have hdD : heardD (leastM lasts bs muster) = (if (partsM bs).filter (okPart lasts bs muster) = [] then .list [.str "can not", .bool true] else .list ((dueL ((partsM bs).filter (okPart lasts bs muster))).map ePart)) := by
          unfold heardD
          rw [least_due]
          by_cases e : (partsM bs).filter (okPart lasts bs muster) = []
          · rw [if_pos e, if_pos (dueL_nil.mpr e)]
          · rw [if_neg e, if_neg fun z => e (dueL_nil.mp z)]
        have e19 : Ex (noT B19) H19 := n19'.bh
        have x19 : Ex B16 (noT B19) := b17.trans n19'.bb
        have at19 : LamX.ExtN H8 H19 := (at16.trans w17.at').trans n19'.at'
        have tb19 : LamX.Tabs T H19 := n19'.tb
        have nt19 : NT (noT B19) := noT_nt _
        generalize noT B19 = B20 at r19' e19 x19 nt19
        generalize hF : (partsM bs).filter (okPart lasts bs muster) = FF at r19' l19 hdD
        have flF : Flat (.list (FF.map ePart)) := (fl_list (n := 3) (fl_map fun p => fl_tup (n := 2) (fl_map fun b => fl_Brk b))).flat
        -- due
        refine ws_set C 10 (d := heardD (leastM lasts bs muster)) (ev_if (Et.is (y := !decide (FF = [])) (et_cmp (o_neD C flF (fl_list (n := 0) (by simp)).flat) (C.nm 12 rfl r19') (ev_lst ea_nil)) ?_) (fun hy => ?_) fun hy => ?_) e19 fun vd2 B21 H21 n21 r21 => ?_
        · cases FF with
          | nil => rfl
          | cons q r => rfl
        · rw [hdD]
          cases FF with
          | nil => cases hy
          | cons q r =>
            rw [if_neg (by simp)]
            refine Ev.is (ev_lc C (xs := q :: r) (enc := ePart) [("_law_own", 8)] (ei_list C (C.nm 12 rfl r19')) (fun p => decide (p.length = q.length)) ePart l19 fun p hp B22 H22 v22 e1 e2 rv22 => ?_) rfl
            refine turn_name (C.blk _) 8 (by decide) (es_one (Et.is (et_cmp o_eqI (ev_callB (C.blk _) (c_len (C.blk _) rfl) (ea_cons ((C.blk _).nm 8 rfl rv22) ea_nil) ml) (ev_callB (C.blk _) (c_len (C.blk _) rfl) (ea_cons (ev_ix (j := 0) ((C.blk _).nm 12 rfl (r19'.up e1)) ev_int rfl rfl rfl) ea_nil) ml)) ?_)) fun _ => (C.blk _).nm 8 rfl rv22
            rw [List.length_map, List.length_map]
            exact decide_eq_decide.mpr (by omega)
        · rw [hdD]
          cases FF with
          | nil =>
            rw [if_pos rfl]
            exact ev_lst (ea_cons ev_str (ea_cons ev_bl ea_nil))
          | cons q r => cases hy
        have n21' := NwT.of n21 nt19 tb19
        have r21' := r21.nt
        have nt21 : NT (noT B21) := noT_nt _
        have e21 := n21'.bh
        have x21 := x19.trans n21'.bb
        have at21 := at19.trans n21'.at'
        have tb21 := n21'.tb
        generalize noT B21 = B22 at r21' nt21 e21 x21
        -- return same([heard(..), heard(..)], [due, due])
        refine ws_retR (we_call C GSa (by omega) (wa_cons (we_lst (wa_cons (we_call C GH (by omega) (wa_cons (we_var C 2 rfl (wa_cons (we_var C 3 rfl (wa_cons (we_var C 4 rfl (wa_nil ⟨B22, _, _, _, lasts, bs, muster, e21, nt21, tb21, .cons (rl16.up x21) (.cons (rb16.up x21) (.cons (rm16.up x21) .nil)), hard.i3, hard.ib, fun v23 B23 H23 w23 r23 => ?_⟩))))))))))))
        refine wa_cons (we_call C GH (by omega) (wa_cons ((ev_ix (j := 0) (C.nm 11 rfl ((rs16.up x21).up w23.bb)) ev_int rfl rfl rfl).use w23.bh fun v24 B24 H24 n24 r24 => wa_cons ((ev_ix (j := 1) (C.nm 11 rfl (((rs16.up x21).up w23.bb).up n24.bb)) ev_int rfl rfl rfl).use n24.bh fun v25 B25 H25 n25 r25 => wa_cons ((ev_ix (j := 2) (C.nm 11 rfl ((((rs16.up x21).up w23.bb).up n24.bb).up n25.bb)) ev_int rfl rfl rfl).use n25.bh fun v26 B26 H26 n26 r26 =>
            wa_nil ?_)))))
        have n2 := (n24.trans n25).trans n26
        have w26 := NwT.of n2 w23.nt w23.tb
        refine ⟨noT B26, _, _, _, lasts, bs, muster, w26.bh, w26.nt, w26.tb, .cons ((r24.up n25.bb).up n26.bb).nt (.cons (r25.up n26.bb).nt (.cons r26.nt .nil)), soft.i3, soft.ib, fun v27 B27 H27 w27 r27 => wa_nil ⟨by show 2 ≤ sizeLine; decide, fun p1 hp1 => ?_⟩⟩
        refine wa_cons (we_lst (wa_cons (we_var C 10 rfl (wa_cons (we_var C 10 rfl (wa_nil ⟨by show 2 ≤ sizeLine; decide, fun p2 hp2 => wa_nil ?_⟩))))))
        have wA := (w23.trans w26).trans w27
        have b1 : B27 p1 = none := w27.bh.free hp1
        have ne12 : p1 ≠ p2 := fun z => by rw [z, upd_same] at hp2; cases hp2
        have hp2' : H27 p2 = none := by rw [upd_ne (fun z => ne12 z.symm)] at hp2; exact hp2
        have b2 : upd B27 p1 (.lst [v23, v27]) p2 = none := by rw [upd_ne (fun z => ne12 z.symm)]; exact w27.bh.free hp2'
        have xB : Ex B27 (upd (upd B27 p1 (.lst [v23, v27])) p2 (.lst [vd2, vd2])) := (Ex.new b1).trans (Ex.new b2)
        have xC : Ex H27 (upd (upd H27 p1 (.lst [v23, v27])) p2 (.lst [vd2, vd2])) := (Ex.new hp1).trans (Ex.new hp2)
        have rdd := ((r21'.up wA.bb).up xB)
        have r23' := (((r23.up w26.bb).up w27.bb).up xB)
        have r27' := r27.up xB
        refine ⟨upd (upd B27 p1 (.lst [v23, v27])) p2 (.lst [vd2, vd2]), [.list [heardD (leastM lasts bs muster), heardD (leastM lasts bs muster)], .list [heardD (leastM lasts bs muster), heardD (leastM lasts bs muster)]], .bool true, (w27.bh.both).both, .cons (.lst (by rw [upd_ne ne12]; exact upd_same) (.cons r23' (.cons r27' .nil))) (.cons (.lst upd_same (.cons rdd (.cons rdd .nil))) .nil), ⟨_, rfl, oh.1, oh.2.1, oh.2.2, rfl⟩, fun v B' H' n rv => ?_⟩
        cases rv
        have atZ := ((at21.trans wA.at').trans (LamX.ExtN.of xC)).trans (LamX.ExtN.of n.hh)
        exact q H' (fun a o h1 h2 h3 => atZ a o (old8 a o h1 h2) h3) ((wA.tb.ext xC).ext n.hh)
end
end Mr
end

section
set_option Elab.async false
set_option linter.all false
set_option maxRecDepth 100000
set_option maxHeartbeats 8000000
namespace Mr
open PySem L2 Lay Mn
theorem _root_.Lay.Ea.useA {ι : Type} {X : ι → Cx} {es : List Expr} {σ : L2.St} {B H : Hp} {ds : List PyData} {Q : List V → Hp → Prop} (h : Ea X es σ B ds) (hB : Ex B H) (q : ∀ vs B' H', Nw B H B' H' → RpAll B' vs ds → Q vs H') : Wa X es σ H Q := h H hB Q q
def costsC (lasts : Lasts) (bs : List Brk) (muster : List Man) (since : Int) (p : Plat) : Int := (mostSaved lasts (bs.map barOf) muster : Int) - (mostSaved lasts ((bs ++ [(p, since)]).map barOf) muster : Int)
def worstC (lasts : Lasts) (bs : List Brk) (muster : List Man) (since : Int) : Int × List Plat :=
  worstT (grpT (costsC lasts bs muster since) ((platsOf lasts.length).filter fun p => decide (p ∉ bs.map (·.1))))
theorem worst_C (lasts : Lasts) (bs : List Brk) (muster : List Man) (since : Int) : worstD lasts bs muster since = worstC lasts bs muster since := by
  have h : costs lasts bs muster since = costsC lasts bs muster since := by
    funext p
    unfold costs costsC
    rw [most_perm (barsM_perm bs), most_perm (barsM_perm (bs ++ [(p, since)]))]
  unfold worstD worstC
  rw [h]
def okC (lasts : Lasts) (bs : List Brk) (muster : List Man) (p : List Brk) : Bool := allSaved lasts ((bs.filter fun b => decide (b ∉ p)).map barOf) muster
theorem ok_C (lasts : Lasts) (bs : List Brk) (muster : List Man) : okPart lasts bs muster = okC lasts bs muster := by
  funext p
  exact all_perm (barsM_perm _) muster
theorem due_one {F G : List (List Brk)} {x : List Brk} (hp : F.Perm G) (hs : F.Pairwise fun p q => p.length ≤ q.length) (hG : (G.filter fun p => decide (p.length = x.length)) = [x]) (hm : ∀ p ∈ G, x.length ≤ p.length) : dueL F = [x] := by
  have hx : x ∈ F := hp.mem_iff.mpr (List.mem_filter.mp (by rw [hG]; exact List.mem_singleton.mpr rfl)).1
  cases F with
  | nil => cases hx
  | cons q r =>
    have h1 : x.length ≤ q.length := hm q (hp.mem_iff.mp List.mem_cons_self)
    have h2 : q.length ≤ x.length := by
      rcases List.mem_cons.mp hx with z | z
      · rw [z]; exact Nat.le_refl _
      · exact (List.pairwise_cons.mp hs).1 x z
    show ((q :: r).filter fun p => decide (p.length = q.length)) = [x]
    rw [show q.length = x.length by omega]
    have h3 := hp.filter fun p => decide (p.length = x.length)
    rw [hG] at h3
    exact List.perm_singleton.mp h3
theorem least_one {lasts : Lasts} {bs : List Brk} {muster : List Man} {x : List Brk} (hG : (((subs bs).filter (okC lasts bs muster)).filter fun p => decide (p.length = x.length)) = [x]) (hm : ∀ p ∈ (subs bs).filter (okC lasts bs muster), x.length ≤ p.length) : leastM lasts bs muster = [x] := by
  rw [least_due, ok_C]
  exact due_one ((srt_perm keyPart (subs bs)).filter _) ((parts_sorted bs).sublist List.filter_sublist) hG hm
theorem least_none {lasts : Lasts} {bs : List Brk} {muster : List Man} (h : (subs bs).filter (okC lasts bs muster) = []) : leastM lasts bs muster = [] := by
  rw [least_due, ok_C]
  have hp := (srt_perm keyPart (subs bs)).filter (okC lasts bs muster)
  rw [h] at hp
  rw [show (partsM bs).filter (okC lasts bs muster) = [] from List.perm_nil.mp hp]
  rfl
theorem hw0 : worstD [some 2, some 0] [] [(2, 0), (1, 0)] 0 = (1, [(0, 0), (1, 1), (1, 2)]) := by
  rw [worst_C]
  decide +kernel
theorem hw1 : worstD [some 2, some 0] [((1, 1), 0)] [(2, 0), (1, 0)] 0 = (1, [(0, 0)]) := by
  rw [worst_C]
  decide +kernel
theorem hw2 : worstD [some 5, some 5] [] [(1, 4)] 0 = (0, [(0, 0), (0, 1), (1, 1), (1, 2)]) := by
  rw [worst_C]
  decide +kernel
theorem hw3 : worstD [some 4, some 4] [] [(1, 0)] 9 = (0, [(0, 0), (0, 1), (1, 1), (1, 2)]) := by
  rw [worst_C]
  decide +kernel
theorem hh0 : leastM [some 2, some 0] [((0, 0), 0), ((1, 1), 0), ((1, 2), 0)] [(2, 0), (1, 0)] = [[((0, 0), 0), ((1, 1), 0), ((1, 2), 0)]] := least_one (by decide +kernel) (by decide +kernel)
theorem hh1 : leastM [some 2, some 0] [((0, 0), 3)] [(2, 0), (1, 0)] = [[]] := least_one (by decide +kernel) (by decide +kernel)
theorem hh2 : leastM [some 2, some 0] [((0, 1), 0)] [(2, 0), (2, 0)] = [] := least_none (by decide +kernel)
theorem iw0 : In3 (.tuple [.int 2, .int 0]) (.tuple [.tuple [.int 2, .int 0], .tuple [.int 1, .int 0]]) [some 2, some 0] [(2, 0), (1, 0)] := ⟨rfl, rfl, by simp [PyData.depth, PyData.depthAll], by simp [short, shortAll], by decide, by decide, by decide⟩
theorem iw1 : In3 (.tuple [.int 2, .int 0]) (.tuple [.tuple [.int 2, .int 0], .tuple [.int 1, .int 0]]) [some 2, some 0] [(2, 0), (1, 0)] := ⟨rfl, rfl, by simp [PyData.depth, PyData.depthAll], by simp [short, shortAll], by decide, by decide, by decide⟩
theorem iw2 : In3 (.tuple [.int 5, .int 5]) (.tuple [.tuple [.int 1, .int 4]]) [some 5, some 5] [(1, 4)] := ⟨rfl, rfl, by simp [PyData.depth, PyData.depthAll], by simp [short, shortAll], by decide, by decide, by decide⟩
theorem iw3 : In3 (.tuple [.int 4, .int 4]) (.tuple [.tuple [.int 1, .int 0]]) [some 4, some 4] [(1, 0)] := ⟨rfl, rfl, by simp [PyData.depth, PyData.depthAll], by simp [short, shortAll], by decide, by decide, by decide⟩
theorem ih0 : In3 (.tuple [.int 2, .int 0]) (.tuple [.tuple [.int 2, .int 0], .tuple [.int 1, .int 0]]) [some 2, some 0] [(2, 0), (1, 0)] := ⟨rfl, rfl, by simp [PyData.depth, PyData.depthAll], by simp [short, shortAll], by decide, by decide, by decide⟩
theorem jh0 : InB (.tuple [.tuple [.tuple [.int 0, .int 0], .int 0], .tuple [.tuple [.int 1, .int 1], .int 0], .tuple [.tuple [.int 1, .int 2], .int 0]]) [((0, 0), 0), ((1, 1), 0), ((1, 2), 0)] := ⟨rfl, by simp [PyData.depth, PyData.depthAll], by simp [short, shortAll], by decide⟩
theorem ih1 : In3 (.tuple [.int 2, .int 0]) (.tuple [.tuple [.int 2, .int 0], .tuple [.int 1, .int 0]]) [some 2, some 0] [(2, 0), (1, 0)] := ⟨rfl, rfl, by simp [PyData.depth, PyData.depthAll], by simp [short, shortAll], by decide, by decide, by decide⟩
theorem jh1 : InB (.tuple [.tuple [.tuple [.int 0, .int 0], .int 3]]) [((0, 0), 3)] := ⟨rfl, by simp [PyData.depth, PyData.depthAll], by simp [short, shortAll], by decide⟩
theorem ih2 : In3 (.tuple [.int 2, .int 0]) (.tuple [.tuple [.int 2, .int 0], .tuple [.int 2, .int 0]]) [some 2, some 0] [(2, 0), (2, 0)] := ⟨rfl, rfl, by simp [PyData.depth, PyData.depthAll], by simp [short, shortAll], by decide, by decide, by decide⟩
theorem jh2 : InB (.tuple [.tuple [.tuple [.int 0, .int 1], .int 0]]) [((0, 1), 0)] := ⟨rfl, by simp [PyData.depth, PyData.depthAll], by simp [short, shortAll], by decide⟩
abbrev dueW : List PyData := [.tuple [.int 1, .tuple [.tuple [.int 0, .int 0], .tuple [.int 1, .int 1], .tuple [.int 1, .int 2]]], .tuple [.int 1, .tuple [.tuple [.int 0, .int 0]]], .tuple [.int 0, .tuple [.tuple [.int 0, .int 0], .tuple [.int 0, .int 1], .tuple [.int 1, .int 1], .tuple [.int 1, .int 2]]], .tuple [.int 0, .tuple [.tuple [.int 0, .int 0], .tuple [.int 0, .int 1], .tuple [.int 1, .int 1], .tuple [.int 1, .int 2]]]]
abbrev dueH : List PyData := [.list [.tuple [.tuple [.tuple [.int 0, .int 0], .int 0], .tuple [.tuple [.int 1, .int 1], .int 0], .tuple [.tuple [.int 1, .int 2], .int 0]]], .list [.tuple []], .list [.str "can not", .bool true]]
theorem eh0 : heardD (leastM [some 2, some 0] [((0, 0), 0), ((1, 1), 0), ((1, 2), 0)] [(2, 0), (1, 0)]) = .list [.tuple [.tuple [.tuple [.int 0, .int 0], .int 0], .tuple [.tuple [.int 1, .int 1], .int 0], .tuple [.tuple [.int 1, .int 2], .int 0]]] := by
  rw [hh0]
  rfl
theorem eh1 : heardD (leastM [some 2, some 0] [((0, 0), 3)] [(2, 0), (1, 0)]) = .list [.tuple []] := by
  rw [hh1]
  rfl
theorem eh2 : heardD (leastM [some 2, some 0] [((0, 1), 0)] [(2, 0), (2, 0)]) = .list [.str "can not", .bool true] := by
  rw [hh2]
  rfl
def spBy (T : List (Addr × Str)) : Sp := fun vs H Q _ => vs = [] ∧ LamX.Tabs T H ∧ ∀ H', LamX.ExtN H H' → LamX.Tabs T H' → Q (.bl true) H'
section
variable {P : Program} {w : World} {K : PySem.W.Frag} {mg : Str → Option Value} {base : Heap}
theorem fn_by (k : Nat) (hk : 11 ≤ k) {T : List (Addr × Str)} (F : Df K mg "_law_by_hand_right" s__law_by_hand_right [])
    (GW : Fn P w K mg base "worst_platforms" 8 ["lasts", "breaks", "muster", "since"] (spD rWorst)) (GSa : Fn P w K mg base "_law_same" 11 ["_law_got", "_law_goal"] (spD (rSame 10))) (GH : Fn P w K mg base "_law_heard" 9 ["_law_lasts", "_law_breaks_here", "_law_muster_here"] (spHeard T)) :
    Fn P w K mg base "_law_by_hand_right" (k + 1) [] (spBy T) := by
  obtain ⟨f, fd, F, hm, hb⟩ := F
  refine fn_any F sc__law_by_hand_right hm hb (fun vs H Q E h => ?_) (fun X C vs H Q E h => ?_)
  · obtain ⟨rfl, _⟩ := h
    rfl
  · obtain ⟨rfl, hT, q⟩ := h
    have e0 : Ex (fun _ => none) H := fun a o h => by cases h
    have nt0 : NT (fun _ => none) := fun a ps h => by cases h
    refine ws_set C 0 (d := .list dueW) (Ev.is (ev_lst (ea_cons (ev_call C GW (ea_cons (ev_tup (ea_cons ev_int (ea_cons ev_int ea_nil))) (ea_cons (ev_tup ea_nil) (ea_cons (ev_tup (ea_cons (ev_tup (ea_cons ev_int (ea_cons ev_int ea_nil))) (ea_cons (ev_tup (ea_cons ev_int (ea_cons ev_int ea_nil))) ea_nil))) (ea_cons ev_int ea_nil)))) ⟨_, _, _, [some 2, some 0], [], [(2, 0), (1, 0)], 0, rfl, iw0, rfl, by simp [PyData.depth, PyData.depthAll], by simp [short, shortAll], by decide, rfl⟩) (ea_cons (ev_call C GW (ea_cons (ev_tup (ea_cons ev_int (ea_cons ev_int ea_nil))) (ea_cons (ev_tup (ea_cons (ev_tup (ea_cons (ev_tup (ea_cons ev_int (ea_cons ev_int ea_nil))) (ea_cons ev_int ea_nil))) ea_nil)) (ea_cons (ev_tup (ea_cons (ev_tup (ea_cons ev_int (ea_cons ev_int ea_nil))) (ea_cons (ev_tup (ea_cons ev_int (ea_cons ev_int ea_nil))) ea_nil))) (ea_cons ev_int ea_nil)))) ⟨_, _, _, [some 2, some 0], [((1, 1), 0)], [(2, 0), (1, 0)], 0, rfl, iw1, rfl, by simp [PyData.depth, PyData.depthAll], by simp [short, shortAll], by decide, rfl⟩) (ea_cons (ev_call C GW (ea_cons (ev_tup (ea_cons ev_int (ea_cons ev_int ea_nil))) (ea_cons (ev_tup ea_nil) (ea_cons (ev_tup (ea_cons (ev_tup (ea_cons ev_int (ea_cons ev_int ea_nil))) ea_nil)) (ea_cons ev_int ea_nil)))) ⟨_, _, _, [some 5, some 5], [], [(1, 4)], 0, rfl, iw2, rfl, by simp [PyData.depth, PyData.depthAll], by simp [short, shortAll], by decide, rfl⟩) (ea_cons (ev_call C GW (ea_cons (ev_tup (ea_cons ev_int (ea_cons ev_int ea_nil))) (ea_cons (ev_tup ea_nil) (ea_cons (ev_tup (ea_cons (ev_tup (ea_cons ev_int (ea_cons ev_int ea_nil))) ea_nil)) (ea_cons ev_int ea_nil)))) ⟨_, _, _, [some 4, some 4], [], [(1, 0)], 9, rfl, iw3, rfl, by simp [PyData.depth, PyData.depthAll], by simp [short, shortAll], by decide, rfl⟩) ea_nil))))) ?_) e0 fun v1 B1 H1 n1 r1 => ?_
    · rw [hw0, hw1, hw2, hw3]
      rfl
    refine ws_set C 1 (d := .list dueW) (ev_lst (ea_cons (ev_tup (ea_cons ev_int (ea_cons (ev_tup (ea_cons (ev_tup (ea_cons ev_int (ea_cons ev_int ea_nil))) (ea_cons (ev_tup (ea_cons ev_int (ea_cons ev_int ea_nil))) (ea_cons (ev_tup (ea_cons ev_int (ea_cons ev_int ea_nil))) ea_nil)))) ea_nil))) (ea_cons (ev_tup (ea_cons ev_int (ea_cons (ev_tup (ea_cons (ev_tup (ea_cons ev_int (ea_cons ev_int ea_nil))) ea_nil)) ea_nil))) (ea_cons (ev_tup (ea_cons ev_int (ea_cons (ev_tup (ea_cons (ev_tup (ea_cons ev_int (ea_cons ev_int ea_nil))) (ea_cons (ev_tup (ea_cons ev_int (ea_cons ev_int ea_nil))) (ea_cons (ev_tup (ea_cons ev_int (ea_cons ev_int ea_nil))) (ea_cons (ev_tup (ea_cons ev_int (ea_cons ev_int ea_nil))) ea_nil))))) ea_nil))) (ea_cons (ev_tup (ea_cons ev_int (ea_cons (ev_tup (ea_cons (ev_tup (ea_cons ev_int (ea_cons ev_int ea_nil))) (ea_cons (ev_tup (ea_cons ev_int (ea_cons ev_int ea_nil))) (ea_cons (ev_tup (ea_cons ev_int (ea_cons ev_int ea_nil))) (ea_cons (ev_tup (ea_cons ev_int (ea_cons ev_int ea_nil))) ea_nil))))) ea_nil))) ea_nil))))) n1.bh fun v2 B2 H2 n2 r2 => ?_
    have w2 := NwT.of (n1.trans n2) nt0 hT
    have r1' := (r1.up n2.bb).nt
    have r2' := r2.nt
    generalize noT B2 = B3 at w2 r1' r2'
    -- heard_here = heard_here + [heard(..), ..]
    refine ws_setR C 0 (we_opR (r := rCat) (fun _ => op_cat) (we_var C 0 rfl (we_lst (wa_cons (we_call C GH (by omega) (Ea.useA (ea_cons (ev_tup (ea_cons ev_int (ea_cons ev_int ea_nil))) (ea_cons (ev_tup (ea_cons (ev_tup (ea_cons (ev_tup (ea_cons ev_int (ea_cons ev_int ea_nil))) (ea_cons ev_int ea_nil))) (ea_cons (ev_tup (ea_cons (ev_tup (ea_cons ev_int (ea_cons ev_int ea_nil))) (ea_cons ev_int ea_nil))) (ea_cons (ev_tup (ea_cons (ev_tup (ea_cons ev_int (ea_cons ev_int ea_nil))) (ea_cons ev_int ea_nil))) ea_nil)))) (ea_cons (ev_tup (ea_cons (ev_tup (ea_cons ev_int (ea_cons ev_int ea_nil))) (ea_cons (ev_tup (ea_cons ev_int (ea_cons ev_int ea_nil))) ea_nil))) ea_nil))) w2.bh fun vs0 Bx0 Hx0 nx0 rx0 => ⟨noT Bx0, _, _, _, [some 2, some 0], [((0, 0), 0), ((1, 1), 0), ((1, 2), 0)], [(2, 0), (1, 0)], noT_ex nx0.bh, noT_nt _, w2.tb.ext nx0.hh, rx0.nt, ih0, jh0, fun y0 Bh0 Hh0 wh0 rh0 => ?_⟩))))))
    have w3 := (NwT.of nx0 w2.nt w2.tb).trans wh0
    rw [eh0] at rh0
    refine wa_cons (we_call C GH (by omega) (Ea.useA (ea_cons (ev_tup (ea_cons ev_int (ea_cons ev_int ea_nil))) (ea_cons (ev_tup (ea_cons (ev_tup (ea_cons (ev_tup (ea_cons ev_int (ea_cons ev_int ea_nil))) (ea_cons ev_int ea_nil))) ea_nil)) (ea_cons (ev_tup (ea_cons (ev_tup (ea_cons ev_int (ea_cons ev_int ea_nil))) (ea_cons (ev_tup (ea_cons ev_int (ea_cons ev_int ea_nil))) ea_nil))) ea_nil))) w3.bh fun vs1 Bx1 Hx1 nx1 rx1 => ⟨noT Bx1, _, _, _, [some 2, some 0], [((0, 0), 3)], [(2, 0), (1, 0)], noT_ex nx1.bh, noT_nt _, w3.tb.ext nx1.hh, rx1.nt, ih1, jh1, fun y1 Bh1 Hh1 wh1 rh1 => ?_⟩))
    have w4 := (NwT.of nx1 w3.nt w3.tb).trans wh1
    rw [eh1] at rh1
    refine wa_cons (we_call C GH (by omega) (Ea.useA (ea_cons (ev_tup (ea_cons ev_int (ea_cons ev_int ea_nil))) (ea_cons (ev_tup (ea_cons (ev_tup (ea_cons (ev_tup (ea_cons ev_int (ea_cons ev_int ea_nil))) (ea_cons ev_int ea_nil))) ea_nil)) (ea_cons (ev_tup (ea_cons (ev_tup (ea_cons ev_int (ea_cons ev_int ea_nil))) (ea_cons (ev_tup (ea_cons ev_int (ea_cons ev_int ea_nil))) ea_nil))) ea_nil))) w4.bh fun vs2 Bx2 Hx2 nx2 rx2 => ⟨noT Bx2, _, _, _, [some 2, some 0], [((0, 1), 0)], [(2, 0), (2, 0)], noT_ex nx2.bh, noT_nt _, w4.tb.ext nx2.hh, rx2.nt, ih2, jh2, fun y2 Bh2 Hh2 wh2 rh2 => ?_⟩))
    have w5 := (NwT.of nx2 w4.nt w4.tb).trans wh2
    rw [eh2] at rh2
    refine wa_nil ⟨by show 3 ≤ sizeLine; decide, fun p hp => ?_⟩
    have wA := (w3.trans w4).trans w5
    have bp : Bh2 p = none := w5.bh.free hp
    have x5 : Ex Bh2 (upd Bh2 p (.lst [y0, y1, y2])) := Ex.new bp
    have r1A := (r1'.up wA.bb).up x5
    have r2A := (r2'.up wA.bb).up x5
    have rl : Rp (upd Bh2 p (.lst [y0, y1, y2])) (.ref p) (.list dueH) := .lst upd_same (.cons (((rh0.up w4.bb).up w5.bb).up x5) (.cons ((rh1.up w5.bb).up x5) (.cons (rh2.up x5) .nil)))
    have e5 : Ex (upd Bh2 p (.lst [y0, y1, y2])) (upd Hh2 p (.lst [y0, y1, y2])) := w5.bh.both
    have at5 : LamX.ExtN H (upd Hh2 p (.lst [y0, y1, y2])) := (w2.at'.trans wA.at').trans (LamX.ExtN.of (Ex.new hp))
    have tb5 : LamX.Tabs T (upd Hh2 p (.lst [y0, y1, y2])) := w5.tb.ext (Ex.new hp)
    generalize upd Bh2 p (.lst [y0, y1, y2]) = B6 at r1A r2A rl e5
    generalize upd Hh2 p (.lst [y0, y1, y2]) = H6 at e5 at5 tb5
    cases r1A with
    | @lst p1 xs1 _ h1 a1 =>
    cases rl with
    | @lst p2 xs2 _ h2 a2 =>
    refine ⟨_, _, _, _, rfl, rfl, e5 _ _ h1, e5 _ _ h2, by rw [a1.length, a2.length]; decide, fun p3 hp3 => ?_⟩
    have nn := Nw.new (o := .lst (xs1 ++ xs2)) e5 hp3
    have r3 : Rp (upd B6 p3 (.lst (xs1 ++ xs2))) (.ref p3) (.list (dueW ++ dueH)) := .lst upd_same ((a1.append a2).up nn.bb)
    have r2B := r2A.up nn.bb
    -- return same(heard_here, due + [..])
    refine ws_ret (ev_call C GSa (ea_cons (C.nm 0 rfl r3) (ea_cons (ev_bin (o_catL (by decide)) (C.nm 1 rfl r2B) (ev_lst (ea_cons (ev_lst (ea_cons (ev_tup (ea_cons (ev_tup (ea_cons (ev_tup (ea_cons ev_int (ea_cons ev_int ea_nil))) (ea_cons ev_int ea_nil))) (ea_cons (ev_tup (ea_cons (ev_tup (ea_cons ev_int (ea_cons ev_int ea_nil))) (ea_cons ev_int ea_nil))) (ea_cons (ev_tup (ea_cons (ev_tup (ea_cons ev_int (ea_cons ev_int ea_nil))) (ea_cons ev_int ea_nil))) ea_nil)))) ea_nil)) (ea_cons (ev_lst (ea_cons (ev_tup ea_nil) ea_nil)) (ea_cons (ev_lst (ea_cons ev_str (ea_cons ev_bl ea_nil))) ea_nil))))) ea_nil)) ⟨.list (dueW ++ dueH), rfl, by decide +kernel, by decide +kernel, by decide +kernel, rfl⟩) nn.bh fun v B' H' n rv => ?_
    cases rv
    exact q _ ((at5.trans (LamX.ExtN.of nn.hh)).trans (LamX.ExtN.of n.hh)) ((tb5.ext nn.hh).ext n.hh)
end
end Mr
end

section
set_option Elab.async false
set_option linter.all false
set_option maxRecDepth 100000
set_option maxHeartbeats 8000000
namespace Mr
open PySem L2 Lay Mn
def spLaw (K : PySem.W.Frag) (T : List (Addr × Str)) : Sp := fun vs H Q _ => ∃ (a : Addr) (ns : List Int), vs = [.ref a] ∧ SqL K H a (ns.map V.int) ∧ ns.length ≤ 1000 ∧ LamX.Tabs T H ∧ ∀ H', Q (.bl true) H'
theorem sqL_noT {K : PySem.W.Frag} {H : Hp} {a : Addr} {xs : List V} (h : SqL K H a xs) : SqL K (noT H) a xs := by
  rcases h with h | h
  · rcases h with h | h
    · exact .inl (.inl (noT_some h (by intro _ z; cases z)))
    · obtain ⟨o, h⟩ := h
      exact .inl (.inr ⟨o, noT_some h (by intro _ z; cases z)⟩)
  · exact .inr h
theorem rng_get {n i : Nat} {d : PyData} (h : (rngD 0 n)[i]? = some d) : d = .int (i : Int) := by
  have hlt := rng_lt h
  unfold rngD at h
  rw [List.getElem?_map, List.getElem?_range hlt] at h
  cases h
  show PyData.int (0 + (i : Int)) = _
  rw [Int.zero_add]
section
variable {P : Program} {w : World} {K : PySem.W.Frag} {mg : Str → Option Value} {base : Heap}
theorem fn_anyO {N : List Str} {k : Nat} {x qual : Str} {st : Stmt} {f : Addr} {fd : FuncData} {ps : List Str} {sp : Sp} (F : Fun K x qual st f fd) (S : FnScope N ps (defScope st))
    (len : ∀ vs H Q E, sp vs H Q E → vs.length = ps.length)
    (body : ∀ (X : Unit → Cx), Fx X P w K mg base N (defScope st) (fun _ => true) k → ∀ (vs : List V) (H : Hp) (Q : VK) (E : XK), sp vs H Q E → Ws X (defBody st) { nx := fun _ H' => Q .non H', rt := Q } (start N vs) H) :
    FnOk P w K mg base CX0 (k + 1) f fd ps sp := by
  refine F.ok S len (fun cdv A outer s H vs Q E hr h => ?_)
  have FX : Fx (fun _ : Unit => (cxOf CX0 P w K mg base N qual (defScope st) f cdv A outer s H E).nox) P w K mg base N (defScope st) (fun _ => true) k :=
    ⟨fun _ => rfl, fun _ => rfl, fun _ => rfl, fun _ => rfl, fun _ => rfl, fun _ => rfl, S.nd, fun _ => rfl, fun _ => rfl, fun _ => hr, fun _ => .never, fun _ _ _ => rfl⟩
  obtain ⟨t, ht, hq⟩ := body _ FX vs H Q E h
  exact ⟨t, ht (), hq⟩
theorem fn_law (k : Nat) (hk : 108 ≤ k) {T : List (Addr × Str)} {f : Addr} {fd : FuncData} (F : Fun K "law" "law" s_law f fd) (GB : Fn P w K mg base "_law_by_hand_right" 12 [] (spBy T)) (GC : Fn P w K mg base "_law_cells" 1 ["_law_script", "_law_top"] (spCells K)) (GX : Fn P w K mg base "_law_box" 1 ["_law_script", "_law_k"] spBox)
    (GR : Fn P w K mg base "_law_right" 108 ["_law_urn"] (spRight T)) (ml : mg "len" = none) (mr : mg "range" = none) (ma : mg "all" = none) : FnOk P w K mg base CX0 (k + 1) f fd ["_law_script"] (spLaw K T) := by
  refine fn_anyO F sc_law (fun vs H Q E h => ?_) (fun X C vs H Q E h => ?_)
  · obtain ⟨_, _, rfl, _⟩ := h
    rfl
  · obtain ⟨a, ns, rfl, hs, hn, hT, q⟩ := h
    refine ws_ifR (wt_notR (wt_valR (we_call0 C GB (by omega) ⟨rfl, hT, fun H1 at1 tb1 => ⟨true, rfl, ?_⟩⟩)))
    rw [if_neg (by decide)]
    have e1 : Ex (noT H) H1 := (noT_nt H).exN (noT_ex (Ex.refl H)) at1
    refine ws_nil (ws_setR C 1 (we_call C GC (by omega) (wa_cons (we_var C 0 rfl (wa_cons (we_intR (wa_nil ⟨noT H, a, ns, rfl, e1, sqL_noT hs, hn, fun cs vc B2 H2 n2 rv c1 c2 => ?_⟩)))))))
    have w2 := NwT.of n2 (noT_nt H) tb1
    have r2 := rv.nt
    have tb2 := w2.tb
    have nt2 := w2.nt
    have e2 := w2.bh
    generalize noT B2 = B3 at r2 nt2 e2
    refine ws_retR (we_callBR C (id := "all") (r := rAll K) (fun y => by have h := L2.cr_all (X := X y) (C.calm y); rw [C.hK y] at h; exact h) (wa_cons (we_lcS C (ds := rngD 0 cs.length) [("_law_k", 2)] (wi_range1 C ((ev_callB C (c_len C rfl) (ea_cons (C.nm 1 rfl r2) ea_nil) ml).use e2 fun vl B4 H4 n4 r4 => ⟨(cs.length : Int), ?_, by omega, by omega, B3, n4.bb.trans n4.bh, drives_rng, fun Da hDa => ?_⟩) mr))) ma)
    · cases r4
      rw [List.length_map]
    · have e4 : Ex B3 H4 := n4.bb.trans n4.bh
      have tb4 := tb2.ext n4.hh
      have bD : B3 Da = none := e4.free hDa
      refine ⟨fun i H' => Ex B3 H' ∧ H' Da = some (.lst (List.replicate i (V.bl true))) ∧ LamX.Tabs T H', ⟨e4.mut bD, upd_same, tb4.ext (Ex.new hDa)⟩, fun i d H' hi ⟨x', hD', tb'⟩ => ⟨B3, Ex.refl _, x', fun v B5 H5 n5 rv5 => ?_⟩, fun i H' ⟨x', _⟩ => x', fun H' ⟨x', hD', tb'⟩ => wa_nil ⟨Da, List.replicate (rngD 0 cs.length).length true, rfl, SqL.of (by rw [List.map_replicate]; exact hD'), ?_⟩⟩
      · have hlt := rng_lt hi
        have hd := rng_get hi
        subst hd
        cases rv5
        have C' := C.blk
        refine wg_name (C' _) 2 ⟨rfl, wts_nil ?_⟩
        rw [if_pos rfl]
        have D5 : H5 Da = some _ := n5.hh _ _ hD'
        refine we_call (C' _) GR (by omega) (wa_cons (we_call (C' _) GX (by omega) (wa_cons (we_var (C' _) 1 rfl (wa_cons (we_var (C' _) 2 rfl (wa_nil ⟨B3, vc, cs, i, rfl, n5.bb.trans n5.bh, r2, by omega, fun u H6 x6 hu U => wa_nil ⟨u, rfl, U, (tb'.ext n5.hh).ext x6, fun H7 o7 tb7 => ?_⟩⟩)))))))
        have D7 : H7 Da = some (.lst (List.replicate i (V.bl true))) := o7 Da _ (ne_of_none D5 hu) (x6 _ _ D5) (by intro _ z; cases z)
        refine ⟨_, D7, ?_, ?_⟩
        · rw [List.length_replicate]
          exact Nat.lt_of_lt_of_le hlt (Nat.le_trans c2 (by decide))
        · have x7 : Ex B3 H7 := fun b o hb => o7 b o (ne_of_none ((n5.bb.trans n5.bh) _ _ hb) hu) (x6 _ _ ((n5.bb.trans n5.bh) _ _ hb)) (fun ps z => nt2 b ps (by rw [hb, z]))
          exact ⟨x7.mut bD, by rw [upd_same, List.replicate_succ'], tabs_put tb7 D7⟩
      · have : (List.replicate (rngD 0 cs.length).length true).all id = true := List.all_eq_true.mpr fun x hx => (List.mem_replicate.mp hx).2
        rw [this]
        exact q _
end
end Mr
end

section
set_option Elab.async false
set_option linter.all false
set_option maxRecDepth 100000
set_option maxHeartbeats 4000000
namespace Mr
open PySem L2 Lay Mn
def Up (lasts : Lasts) (bars : List Bar) (level slot : Int) : Prop := (∀ i : Nat, (i : Int) < level → ∀ l, lasts.getD i none = some l → slot ≤ l + (1 + (i : Int))) ∧ ∀ b ∈ bars, 0 ≤ b.1 → b.1 < level → b.2.1 = slot % 2 → slot ≤ b.2.2 + b.1
theorem up_iff {lasts : Lasts} {bars : List Bar} {level slot : Int} (h0 : 0 ≤ level) : (∀ r ∈ roofs lasts bars level (slot % 2), slot ≤ r) ↔ Up lasts bars level slot := by
  constructor
  · intro h
    refine ⟨fun i hi l hl => ?_, fun b hb h1 h2 h3 => ?_⟩
    · refine h _ (List.mem_append_left _ (List.mem_map.mpr ⟨i, List.mem_filter.mpr ⟨List.mem_range.mpr (by omega), by rw [hl]; rfl⟩, ?_⟩))
      rw [hl]
      rfl
    · exact h _ (List.mem_append_right _ (List.mem_map.mpr ⟨b, List.mem_filter.mpr ⟨hb, by simp [h1, h2, h3]⟩, rfl⟩))
  · intro ⟨h1, h2⟩ r hr
    rcases List.mem_append.mp hr with hr | hr
    · obtain ⟨i, hi, rfl⟩ := List.mem_map.mp hr
      rw [List.mem_filter, List.mem_range] at hi
      obtain ⟨l, hl⟩ := Option.isSome_iff_exists.mp hi.2
      have := h1 i (by omega) l hl
      rw [hl]
      exact this
    · obtain ⟨b, hb, rfl⟩ := List.mem_map.mp hr
      rw [List.mem_filter] at hb
      obtain ⟨hb, hc⟩ := hb
      simp only [Bool.and_eq_true, decide_eq_true_eq] at hc
      exact h2 b hb hc.1.1 hc.1.2 hc.2
theorem leads_iff {lasts : Lasts} {bars : List Bar} {level slot : Int} (h0 : 0 ≤ level) : leadsB lasts bars level slot = true ↔ level ≤ slot ∧ Up lasts bars level slot := by
  rw [← up_iff h0]
  unfold leadsB gSlot
  rw [Bool.and_eq_true, decide_eq_true_eq]
  refine and_congr_right fun hl => ?_
  cases e : (roofs lasts bars level (slot % 2)).min? with
  | none =>
    rw [List.min?_eq_none_iff] at e
    rw [e]
    exact ⟨fun _ r hr => absurd hr List.not_mem_nil, fun _ => rfl⟩
  | some t =>
    have h1 := List.min?_eq_some_iff.mp e
    simp only [decide_eq_true_eq]
    have h2 : (∀ r ∈ roofs lasts bars level (slot % 2), slot ≤ r) ↔ slot ≤ t := ⟨fun h => h t h1.1, fun h r hr => Int.le_trans h (h1.2 r hr)⟩
    rw [h2]
    split <;> omega
theorem Up.less {lasts : Lasts} {bars : List Bar} {l1 l2 slot : Int} (h : Up lasts bars l2 slot) (hl : l1 ≤ l2) : Up lasts bars l1 slot := ⟨fun i hi => h.1 i (by omega), fun b hb h1 h2 => h.2 b hb h1 (by omega)⟩
theorem Up.down {lasts : Lasts} {bars : List Bar} {level s t : Int} (h : Up lasts bars level t) (hs : s ≤ t) (hp : s % 2 = t % 2) : Up lasts bars level s := ⟨fun i hi l hl => Int.le_trans hs (h.1 i hi l hl), fun b hb h1 h2 h3 => Int.le_trans hs (h.2 b hb h1 h2 (by rw [h3, hp]))⟩
theorem needs_iff {deep : Int} {b : Brk} {level made : Int} (h : BrkOk deep b) : b.1 = needsM level made true ↔ b.1.2 - b.1.1 = level - 1 ∧ b.1.2 % 2 = (level + made) % 2 := by
  obtain ⟨⟨p, q⟩, t⟩ := b
  obtain ⟨h1, h2, h3, _⟩ := h
  unfold needsM
  simp only [if_true] at *
  split
  · rw [Prod.mk.injEq]
    omega
  · rw [Prod.mk.injEq]
    omega
theorem beg_cases {bs : List Brk} (nd : (bs.map (·.1)).Nodup) (p : Plat) : (begM bs p = [] ∧ ∀ b ∈ bs, b.1 ≠ p) ∨ ∃ t, begM bs p = [t] ∧ (p, t) ∈ bs ∧ ∀ b ∈ bs, b.1 = p → b.2 = t := by
  induction bs with
  | nil => exact .inl ⟨rfl, fun b hb => absurd hb List.not_mem_nil⟩
  | cons b bs ih =>
    rw [List.map_cons, List.nodup_cons] at nd
    have e : begM (b :: bs) p = if b.1 = p then b.2 :: begM bs p else begM bs p := by
      unfold begM
      rw [List.filter_cons]
      by_cases q : b.1 = p
      · rw [if_pos (by simpa using q), if_pos q]; rfl
      · rw [if_neg (by simpa using q), if_neg q]
    rw [e]
    by_cases q : b.1 = p
    · have hn : ∀ c ∈ bs, c.1 ≠ p := fun c hc z => nd.1 (List.mem_map.mpr ⟨c, hc, z.trans q.symm⟩)
      refine .inr ⟨b.2, ?_, ?_, fun c hc hp => ?_⟩
      · rw [if_pos q]
        have : begM bs p = [] := by
          unfold begM
          rw [List.map_eq_nil_iff, List.filter_eq_nil_iff]
          intro c hc
          simpa using hn c hc
        rw [this]
      · rw [← q]; exact List.mem_cons_self
      · rcases List.mem_cons.mp hc with z | z
        · rw [z]
        · exact absurd hp (hn c z)
    · rw [if_neg q]
      rcases ih nd.2 with ⟨h1, h2⟩ | ⟨t, h1, h2, h3⟩
      · refine .inl ⟨h1, fun c hc => ?_⟩
        rcases List.mem_cons.mp hc with z | z
        · rw [z]; exact q
        · exact h2 c z
      · refine .inr ⟨t, h1, List.mem_cons_of_mem _ h2, fun c hc hp => ?_⟩
        rcases List.mem_cons.mp hc with z | z
        · rw [z] at hp; exact absurd hp q
        · exact h3 c z hp
theorem walk_iff {deep : Int} {bs : List Brk} (nd : (bs.map (·.1)).Nodup) (ok : ∀ b ∈ bs, BrkOk deep b) : ∀ (n : Nat) (level made : Int), 0 ≤ made → (isNone (walkD bs n level made) = true ↔ ∀ b ∈ bs, level - (n : Int) ≤ b.1.2 - b.1.1 → b.1.2 - b.1.1 < level → b.1.2 % 2 = (level + made) % 2 → level + made ≤ mx (b.2 - 1) 0 + (b.1.2 - b.1.1)) := by
  intro n
  induction n with
  | zero =>
    intro level made _
    refine ⟨fun _ b hb h1 h2 => absurd h2 (by omega), fun _ => rfl⟩
  | succ n ih =>
    intro level made hm
    have ih := ih (level - 1) (made + 1) (by omega)
    unfold walkD
    rcases beg_cases nd (needsM level made true) with ⟨h1, h2⟩ | ⟨t, h1, h2, h3⟩
    · rw [h1]
      simp only [Bool.false_eq_true, if_false]
      rw [if_neg (by simp), ih]
      refine forall_congr' fun b => forall_congr' fun hb => ?_
      have hne := h2 b hb
      rw [ne_eq, needs_iff (ok b hb)] at hne
      rw [show level - 1 + (made + 1) = level + made by omega]
      constructor
      · intro h a1 a2 a3
        exact h (by omega) (by omega) a3
      · intro h a1 a2 a3
        exact h (by omega) (by omega) a3
    · rw [h1]
      have ob := (needs_iff (ok _ h2)).mp rfl
      simp only at ob
      by_cases q1 : t ≤ made
      · rw [if_pos (by simpa using q1)]
        constructor
        · intro h; cases h
        · intro h
          have := h _ h2 (by show level - ((n + 1 : Nat) : Int) ≤ _; simp only; omega) (by simp only; omega) ob.2
          simp only at this
          unfold mx at this
          split at this <;> omega
      · rw [if_neg (by simpa using q1)]
        by_cases q2 : t = made + 1
        · rw [if_pos (by rw [q2])]
          constructor
          · intro h; cases h
          · intro h
            have := h _ h2 (by show level - ((n + 1 : Nat) : Int) ≤ _; simp only; omega) (by simp only; omega) ob.2
            simp only at this
            unfold mx at this
            split at this <;> omega
        · rw [if_neg (by simpa using q2), ih]
          refine forall_congr' fun b => forall_congr' fun hb => ?_
          rw [show level - 1 + (made + 1) = level + made by omega]
          constructor
          · intro h a1 a2 a3
            by_cases q : b.1.2 - b.1.1 = level - 1
            · have e := h3 b hb ((needs_iff (ok b hb)).mpr ⟨q, a3⟩)
              rw [e]
              unfold mx
              split <;> omega
            · exact h (by omega) (by omega) a3
          · intro h a1 a2 a3
            exact h (by omega) (by omega) a3
theorem free_iff {deep : Int} {lasts : Lasts} {bs : List Brk} (nd : (bs.map (·.1)).Nodup) (ok : ∀ b ∈ bs, BrkOk deep b) {level board : Int} (h1 : 0 ≤ level) (h2 : 0 ≤ board) : freeM lasts bs level board = true ↔ Up lasts (bs.map barOf) level (board + level) := by
  unfold freeM Up
  rw [Bool.and_eq_true, walk_iff nd ok _ _ _ h2, List.isEmpty_iff]
  refine and_congr ?_ ?_
  · unfold wetM
    rw [List.filter_eq_nil_iff]
    constructor
    · intro h i hi l hl
      have := h i (List.mem_range.mpr (by omega))
      rw [hl] at this
      simp only [decide_eq_true_eq] at this
      omega
    · intro h i hi
      rw [List.mem_range] at hi
      cases e : lasts.getD i none with
      | none => simp
      | some l =>
        have := h i (by omega) l e
        simp only [decide_eq_true_eq]
        omega
  · constructor
    · intro h b hb g1 g2 g3
      obtain ⟨c, hc, rfl⟩ := List.mem_map.mp hb
      have := h c hc (by have : 0 ≤ c.1.2 - c.1.1 := g1; omega) g2 (by rw [show level + board = board + level by omega]; exact g3)
      show board + level ≤ mx (c.2 - 1) 0 + (c.1.2 - c.1.1)
      omega
    · intro h c hc g1 g2 g3
      have := h (barOf c) (List.mem_map_of_mem hc) (by show 0 ≤ c.1.2 - c.1.1; omega) g2 (by rw [show board + level = level + board by omega]; exact g3)
      have : board + level ≤ mx (c.2 - 1) 0 + (c.1.2 - c.1.1) := this
      omega
end Mr
end

section
set_option Elab.async false
set_option linter.all false
set_option maxRecDepth 100000
set_option maxHeartbeats 4000000
namespace Mr
open PySem L2 Lay Mn
section
variable {lasts : Lasts} {bars : List Bar} {muster : List Man}
/-- a slot that a man can use -/
def GG (lasts : Lasts) (bars : List Bar) (muster : List Man) (m : Nat) (s : Int) : Prop := (muster.getD m (0, 0)).1 + (muster.getD m (0, 0)).2 ≤ s ∧ Up lasts bars (muster.getD m (0, 0)).1 s
def MO (muster : List Man) : Prop := ∀ m : Nat, 0 ≤ (muster.getD m (0, 0)).1 ∧ (muster.getD m (0, 0)).1 ≤ 3 ∧ 0 ≤ (muster.getD m (0, 0)).2 ∧ (muster.getD m (0, 0)).2 ≤ 4
theorem MusterOk.mo {deep : Int} (h : MusterOk deep muster) (hd : deep ≤ 3) : MO muster := fun m => by
  rw [List.getD_eq_getElem?_getD]
  cases e : muster[m]? with
  | none => exact ⟨by decide, by decide, by decide, by decide⟩
  | some x =>
    obtain ⟨a, b, c, d⟩ := h.2 x (List.mem_of_getElem? e)
    exact ⟨by show 0 ≤ x.1; omega, by show x.1 ≤ 3; omega, c, d⟩
theorem mx_r (i j : Int) : i ≤ mx i j ∧ j ≤ mx i j ∧ (mx i j = i ∨ mx i j = j) := by unfold mx; split <;> omega
theorem slot_some {level first s : Int} (h0 : 0 ≤ level) (h : slotFrom lasts bars level first = some s) : level ≤ s ∧ first ≤ s ∧ s ≤ mx first level + 1 ∧ Up lasts bars level s ∧ ∀ t, mx first level ≤ t → Up lasts bars level t → s ≤ t := by
  have m := mx_r first level
  unfold slotFrom at h
  by_cases q : leadsB lasts bars level (mx first level) = true
  · rw [if_pos q] at h
    cases h
    have := (leads_iff h0).mp q
    exact ⟨by omega, by omega, by omega, this.2, fun t ht _ => ht⟩
  · rw [if_neg q] at h
    by_cases q2 : leadsB lasts bars level (mx first level + 1) = true
    · rw [if_pos q2] at h
      cases h
      have := (leads_iff h0).mp q2
      refine ⟨by omega, by omega, by omega, this.2, fun t ht hu => ?_⟩
      by_cases z : mx first level < t
      · omega
      · exact absurd ((leads_iff h0).mpr ⟨by omega, by rw [show mx first level = t by omega]; exact hu⟩) q
    · rw [if_neg q2] at h; cases h
theorem slot_none {level first : Int} (h0 : 0 ≤ level) (h : slotFrom lasts bars level first = none) : ∀ t, mx first level ≤ t → ¬ Up lasts bars level t := fun t ht hu => by
  have m := mx_r first level
  unfold slotFrom at h
  by_cases q : leadsB lasts bars level (mx first level) = true
  · rw [if_pos q] at h; cases h
  · rw [if_neg q] at h
    by_cases q2 : leadsB lasts bars level (mx first level + 1) = true
    · rw [if_pos q2] at h; cases h
    · by_cases p : (mx first level) % 2 = t % 2
      · exact q ((leads_iff h0).mpr ⟨by omega, hu.down ht p⟩)
      · exact q2 ((leads_iff h0).mpr ⟨by omega, hu.down (by omega) (by omega)⟩)
theorem wants (M : MO muster) : Wants (wantS lasts bars muster) (GG lasts bars muster) where
  yes := fun a m s h => by
    obtain ⟨a1, a2, a3, a4⟩ := M m
    unfold wantS at h
    obtain ⟨h1, h2, h3, h4, h5⟩ := slot_some a1 h
    have m1 := mx_r a ((muster.getD m (0, 0)).1 + (muster.getD m (0, 0)).2)
    have m2 := mx_r (mx a ((muster.getD m (0, 0)).1 + (muster.getD m (0, 0)).2)) (muster.getD m (0, 0)).1
    exact ⟨by omega, ⟨by omega, h4⟩, fun t ht ⟨g1, g2⟩ => h5 t (by omega) g2⟩
  no := fun a m h t ht ⟨g1, g2⟩ => by
    obtain ⟨a1, a2, a3, a4⟩ := M m
    unfold wantS at h
    have m1 := mx_r a ((muster.getD m (0, 0)).1 + (muster.getD m (0, 0)).2)
    have m2 := mx_r (mx a ((muster.getD m (0, 0)).1 + (muster.getD m (0, 0)).2)) (muster.getD m (0, 0)).1
    exact slot_none a1 h t (by omega) g2
theorem falls : Falls (levOf muster) (GG lasts bars muster) := fun m m' s t ⟨g1, _⟩ hst ⟨_, g2⟩ hl => ⟨Int.le_trans g1 hst, g2.less hl⟩
theorem wants_b (M : MO muster) : ∀ a m s, wantS lasts bars muster a m = some s → s ≤ max a 7 + 1 := fun a m s h => by
  obtain ⟨a1, a2, a3, a4⟩ := M m
  unfold wantS at h
  obtain ⟨h1, h2, h3, h4, h5⟩ := slot_some a1 h
  have m1 := mx_r a ((muster.getD m (0, 0)).1 + (muster.getD m (0, 0)).2)
  have m2 := mx_r (mx a ((muster.getD m (0, 0)).1 + (muster.getD m (0, 0)).2)) (muster.getD m (0, 0)).1
  omega
end
theorem goods_iff {lasts : Lasts} {bs : List Brk} {muster : List Man} (V : Vd lasts bs muster) {m : Nat} {s : Int} (hm : m < muster.length) : s ∈ gf (muster.map (goodsM lasts bs)) m ↔ GG lasts (bs.map barOf) muster m s ∧ s ≤ 13 := by
  have M := MusterOk.mo V.must (by have := V.deep; omega) m
  have e : gf (muster.map (goodsM lasts bs)) m = goodsM lasts bs (muster.getD m (0, 0)) := by
    unfold gf
    rw [List.getD_eq_getElem?_getD, List.getD_eq_getElem?_getD, List.getElem?_map, List.getElem?_eq_getElem hm]
    rfl
  rw [e]
  unfold GG
  generalize muster.getD m (0, 0) = x at M
  obtain ⟨a1, a2, a3, a4⟩ := M
  unfold goodsM
  rw [List.mem_map]
  constructor
  · rintro ⟨i, hi, rfl⟩
    rw [List.mem_filter, List.mem_range] at hi
    have := (free_iff V.nd V.brk a1 (by omega)).mp hi.2
    exact ⟨⟨by omega, this⟩, by omega⟩
  · rintro ⟨⟨h1, h2⟩, h3⟩
    refine ⟨(s - x.1 - x.2).toNat, List.mem_filter.mpr ⟨List.mem_range.mpr (by omega), ?_⟩, by omega⟩
    refine (free_iff V.nd V.brk a1 (by omega)).mpr ?_
    rw [show x.2 + ((s - x.1 - x.2).toNat : Int) + x.1 = s by omega]
    exact h2
theorem saved_is : SavedIs := fun lasts bs muster n V G => by
  have M := MusterOk.mo V.must (by have := V.deep; omega)
  obtain ⟨h, F, T, hn⟩ := G
  rw [List.length_map] at F T
  have gm : ∀ m s, s ∈ gf (muster.map (goodsM lasts bs)) m → m < muster.length := fun m s hs => by
    have := gf_lt hs
    rwa [List.length_map] at this
  have g0 : ∀ m, ∀ s ∈ gf (muster.map (goodsM lasts bs)) m, (0 : Int) ≤ s := fun m s hs => by
    have h1 := ((goods_iff V (gm m s hs)).mp hs).1.1
    have h2 := M m
    omega
  have D := loop_done (lev := levOf muster) (wants (lasts := lasts) (bars := bs.map barOf) M) (wants_b M) muster.length (List.range muster.length) (List.replicate muster.length none) 0 List.nodup_range (by rw [List.length_range]; exact Nat.le_refl _) (fun m hm => by
      rw [List.length_replicate]; exact List.mem_range.mp hm) (fun m hm => by
      unfold slotOf
      rw [List.getElem?_replicate, if_pos (List.mem_range.mp hm)]
      rfl)
  have em : mostSaved lasts (bs.map barOf) muster = picks (levOf muster) (wantS lasts (bs.map barOf) muster) muster.length (List.range muster.length) 0 := by
    unfold mostSaved
    rw [count_some, rescue_length]
    exact D.size
  have l3 := V.must.1
  subst hn
  apply Nat.le_antisymm
  · rw [em]
    refine Nat.le_trans F.size (picks_top (wants M) falls _ _ _ List.nodup_range (by rw [List.length_range]; exact Nat.le_refl _) (manSlot h) ?_)
    have I := F.isM g0
    exact ⟨fun m hm s e => ⟨(I.ok m hm s e).1, ((goods_iff V (List.mem_range.mp hm)).mp (I.ok m hm s e).2).1⟩, I.inj⟩
  · rw [em, ← D.size]
    refine T 0 _ g0 ⟨fun m hm s e => ⟨(D.isM.ok m hm s e).1, (goods_iff V (List.mem_range.mp hm)).mpr ⟨(D.isM.ok m hm s e).2, ?_⟩⟩, D.isM.inj⟩
    have := D.low m hm s e
    omega
end Mr
end

section
set_option Elab.async false
set_option linter.all false
set_option maxRecDepth 100000
set_option maxHeartbeats 8000000
namespace Mr
open PySem PySem.Spec PyProof.Rows L2 Lay Mn
def dOf (x : Str) (st : Stmt) : He.FnD := ⟨(x, none), x, x, defArgs st, defBody st, defScope st⟩
abbrev Bd (x : Str) (st : Stmt) (ps : List Str) : Prop := ∀ (kV doc pm : Value) (an : Option Addr) (cdv ct : Value) (us : List Value), us.length = ps.length → bindArgs (PySem.W.fnOf x x (defArgs st) (defBody st) (defScope st) .none kV doc pm an cdv ct) ⟨us, []⟩ = pure (ps.zip us)
def okOf (K : PySem.W.Frag) (x : Str) : Bool := (He.Fa.glo x).ok K && ((He.Fa.code (x, none) x).ok K && (He.Fa.keep x).ok K)
def cOf (K : PySem.W.Frag) (x : Str) : Addr := match K.lookup (He.ga K x) with
  | some ⟨_, _, .func fd, _⟩ => (match fd.code with | .ref c => c | _ => 0)
  | _ => 0
def isC (K : PySem.W.Frag) (x : Str) : Bool := match K.lookup (He.ga K x) with
  | some ⟨_, _, .func fd, _⟩ => (match fd.code with | .ref _ => true | _ => false)
  | _ => false
section
variable {K : PySem.W.Frag} {h : Heap} {mg : Str → Option Value}
theorem fun_ok {x : Str} {st : Stmt} (e : He.fnObs K (x, none) = (dOf x st).val) (c : okOf K x = true) : ∃ fd : FuncData, Fun K x x st (He.ga K x) fd ∧ ∃ (oc : Value) (od : Option Addr) (osl : Array (Option Value)), K.lookup (He.ga K x) = some ⟨oc, od, .func fd, osl⟩ := by
  obtain ⟨_, c⟩ := He.ba c
  obtain ⟨c2, c3⟩ := He.ba c
  obtain ⟨oc, od, osl, kV, doc, pm, an, cdv, ct, hl, hc⟩ := He.fn_ok (d := dOf x st) e c2
  exact ⟨_, fun_mk hl hc c3, oc, od, osl, hl⟩
theorem df_mk (X : K.In h) (G : h.Ns mainGlobals mg) {x : Str} {st : Stmt} {ps : List Str} (e : He.fnObs K (x, none) = (dOf x st).val) (c : okOf K x = true) (b : Bd x st ps) : Df K mg x st ps := by
  obtain ⟨fd, F, _⟩ := fun_ok e c
  exact ⟨_, _, F, He.glo_ok X G (He.ba c).1, F.binds b⟩
theorem dfL_mk (X : K.In h) (G : h.Ns mainGlobals mg) {x : Str} {st : Stmt} {ps : List Str} (e : He.fnObs K (x, none) = (dOf x st).val) (c : okOf K x = true) (ic : isC K x = true) (b : Bd x st ps) : DfL K mg x st ps (cOf K x) := by
  obtain ⟨fd, F, oc, od, osl, hl⟩ := fun_ok e c
  refine ⟨_, _, F, He.glo_ok X G (He.ba c).1, F.binds b, ?_⟩
  unfold isC at ic
  unfold cOf
  rw [hl] at ic ⊢
  simp only at ic ⊢
  cases q : fd.code with
  | ref c' => rfl
  | _ => rw [q] at ic; cases ic
end
theorem bd_tuple_of : Bd "tuple_of" s_tuple_of ["thing"] := fun _ _ _ _ _ _ us hl => match us, hl with | [_], _ => rfl
theorem bd_greatest_slot : Bd "greatest_slot" s_greatest_slot ["lasts", "bars", "level", "end", "colour"] := fun _ _ _ _ _ _ us hl => match us, hl with | [_, _, _, _, _], _ => rfl
theorem bd_leads : Bd "leads" s_leads ["lasts", "bars", "level", "end", "slot"] := fun _ _ _ _ _ _ us hl => match us, hl with | [_, _, _, _, _], _ => rfl
theorem bd_slot_from : Bd "slot_from" s_slot_from ["lasts", "bars", "level", "end", "first"] := fun _ _ _ _ _ _ us hl => match us, hl with | [_, _, _, _, _], _ => rfl
theorem bd_wanted_slots : Bd "wanted_slots" s_wanted_slots ["lasts", "bars", "muster", "men", "at"] := fun _ _ _ _ _ _ us hl => match us, hl with | [_, _, _, _, _], _ => rfl
theorem bd_rescue : Bd "rescue" s_rescue ["lasts", "bars", "muster"] := fun _ _ _ _ _ _ us hl => match us, hl with | [_, _, _], _ => rfl
theorem bd_most_saved : Bd "most_saved" s_most_saved ["lasts", "bars", "muster"] := fun _ _ _ _ _ _ us hl => match us, hl with | [_, _, _], _ => rfl
theorem bd_all_saved : Bd "all_saved" s_all_saved ["lasts", "bars", "muster"] := fun _ _ _ _ _ _ us hl => match us, hl with | [_, _, _], _ => rfl
theorem bd_stride_of : Bd "stride_of" s_stride_of ["platform"] := fun _ _ _ _ _ _ us hl => match us, hl with | [_], _ => rfl
theorem bd_bars_of : Bd "bars_of" s_bars_of ["breaks"] := fun _ _ _ _ _ _ us hl => match us, hl with | [_], _ => rfl
theorem bd_worst_platforms : Bd "worst_platforms" s_worst_platforms ["lasts", "breaks", "muster", "since"] := fun _ _ _ _ _ _ us hl => match us, hl with | [_, _, _, _], _ => rfl
theorem bd_parts_of : Bd "parts_of" s_parts_of ["breaks"] := fun _ _ _ _ _ _ us hl => match us, hl with | [_], _ => rfl
theorem bd_least_mends : Bd "least_mends" s_least_mends ["lasts", "breaks", "muster"] := fun _ _ _ _ _ _ us hl => match us, hl with | [_, _, _], _ => rfl
theorem bd__law_box : Bd "_law_box" s__law_box ["_law_script", "_law_k"] := fun _ _ _ _ _ _ us hl => match us, hl with | [_, _], _ => rfl
theorem bd__law_take : Bd "_law_take" s__law_take ["_law_urn", "_law_low_so"] := fun _ _ _ _ _ _ us hl => match us, hl with | [_, _], _ => rfl
theorem bd__law_cells : Bd "_law_cells" s__law_cells ["_law_script", "_law_top"] := fun _ _ _ _ _ _ us hl => match us, hl with | [_, _], _ => rfl
theorem bd__law_same : Bd "_law_same" s__law_same ["_law_got", "_law_goal"] := fun _ _ _ _ _ _ us hl => match us, hl with | [_, _], _ => rfl
theorem bd__law_lists : Bd "_law_lists" s__law_lists ["_law_matter"] := fun _ _ _ _ _ _ us hl => match us, hl with | [_], _ => rfl
theorem bd__law_of : Bd "_law_of" s__law_of ["_law_urn", "_law_goods_so"] := fun _ _ _ _ _ _ us hl => match us, hl with | [_, _], _ => rfl
theorem bd__law_roofs : Bd "_law_roofs" s__law_roofs ["_law_urn", "_law_deep"] := fun _ _ _ _ _ _ us hl => match us, hl with | [_, _], _ => rfl
theorem bd__law_muster : Bd "_law_muster" s__law_muster ["_law_urn", "_law_deep", "_law_most_here"] := fun _ _ _ _ _ _ us hl => match us, hl with | [_, _, _], _ => rfl
theorem bd__law_tries : Bd "_law_tries" s__law_tries ["_law_man", "_law_goods_so", "_law_held_so", "_law_seen_so"] := fun _ _ _ _ _ _ us hl => match us, hl with | [_, _, _, _], _ => rfl
theorem bd__law_most : Bd "_law_most" s__law_most ["_law_goods_so"] := fun _ _ _ _ _ _ us hl => match us, hl with | [_], _ => rfl
theorem bd__law_spots : Bd "_law_spots" s__law_spots ["_law_deep", "_law_made"] := fun _ _ _ _ _ _ us hl => match us, hl with | [_, _], _ => rfl
theorem bd__law_needs : Bd "_law_needs" s__law_needs ["_law_deep", "_law_level", "_law_made", "_law_rises"] := fun _ _ _ _ _ _ us hl => match us, hl with | [_, _, _, _], _ => rfl
theorem bd__law_walked : Bd "_law_walked" s__law_walked ["_law_deep", "_law_breaks_here", "_law_ride", "_law_board"] := fun _ _ _ _ _ _ us hl => match us, hl with | [_, _, _, _], _ => rfl
theorem bd__law_breaks : Bd "_law_breaks" s__law_breaks ["_law_urn", "_law_deep", "_law_most_here"] := fun _ _ _ _ _ _ us hl => match us, hl with | [_, _, _], _ => rfl
theorem bd__law_heard : Bd "_law_heard" s__law_heard ["_law_lasts", "_law_breaks_here", "_law_muster_here"] := fun _ _ _ _ _ _ us hl => match us, hl with | [_, _, _], _ => rfl
theorem bd__law_by_hand_right : Bd "_law_by_hand_right" s__law_by_hand_right [] := fun _ _ _ _ _ _ us hl => match us, hl with | [], _ => rfl
theorem bd__law_saved : Bd "_law_saved" s__law_saved ["_law_lasts", "_law_breaks_here", "_law_muster_here"] := fun _ _ _ _ _ _ us hl => match us, hl with | [_, _, _], _ => rfl
theorem bd__law_parts : Bd "_law_parts" s__law_parts ["_law_breaks_here"] := fun _ _ _ _ _ _ us hl => match us, hl with | [_], _ => rfl
theorem bd__law_right : Bd "_law_right" s__law_right ["_law_urn"] := fun _ _ _ _ _ _ us hl => match us, hl with | [_], _ => rfl
theorem bd_law : Bd "law" s_law ["_law_script"] := fun _ _ _ _ _ _ us hl => match us, hl with | [_], _ => rfl
def dsA : List (Str × Stmt) := [(("tuple_of" : Str), s_tuple_of), (("greatest_slot" : Str), s_greatest_slot), (("leads" : Str), s_leads), (("slot_from" : Str), s_slot_from), (("wanted_slots" : Str), s_wanted_slots), (("rescue" : Str), s_rescue), (("most_saved" : Str), s_most_saved), (("all_saved" : Str), s_all_saved), (("stride_of" : Str), s_stride_of), (("bars_of" : Str), s_bars_of), (("worst_platforms" : Str), s_worst_platforms), (("parts_of" : Str), s_parts_of), (("least_mends" : Str), s_least_mends), (("_law_box" : Str), s__law_box), (("_law_take" : Str), s__law_take), (("_law_cells" : Str), s__law_cells), (("_law_same" : Str), s__law_same), (("_law_lists" : Str), s__law_lists), (("_law_of" : Str), s__law_of), (("_law_roofs" : Str), s__law_roofs), (("_law_muster" : Str), s__law_muster), (("_law_tries" : Str), s__law_tries), (("_law_most" : Str), s__law_most), (("_law_spots" : Str), s__law_spots), (("_law_needs" : Str), s__law_needs), (("_law_walked" : Str), s__law_walked), (("_law_breaks" : Str), s__law_breaks), (("_law_heard" : Str), s__law_heard), (("_law_by_hand_right" : Str), s__law_by_hand_right), (("_law_saved" : Str), s__law_saved), (("_law_parts" : Str), s__law_parts), (("_law_right" : Str), s__law_right), (("law" : Str), s_law)]
def frA : List Str := [("range" : Str), ("min" : Str), ("max" : Str), ("isinstance" : Str), ("list" : Str), ("tuple" : Str), ("len" : Str), ("sorted" : Str), ("int" : Str), ("bool" : Str), ("str" : Str), ("all" : Str), ("zip" : Str), ("enumerate" : Str), ("abs" : Str), ("ValueError" : Str)]
structure Says (K : PySem.W.Frag) : Prop where
  e : dsA.map (fun p => He.fnObs K (p.1, none)) = dsA.map (fun p => (dOf p.1 p.2).val)
  c : dsA.all (fun p => okOf K p.1) = true
  z : frA.all (fun x => (He.Fa.free x).ok K) = true
  x1 : (He.Fa.exc "CanNot").ok K = true
  x2 : He.eqO (PySem.W.nsIn K mainGlobals "CanNot") (some (some (.ref (He.ga K "CanNot")))) = true
  x3 : PySem.W.exmOne K (.ref (He.ga K "CanNot")) (.ref (He.ga K "CanNot")) = some true
  x4 : PySem.W.kitOne K (.ref (He.ga K "CanNot")) (.type "ValueError") = some true
  x5 : ExcC K (He.ga K "CanNot")
  l1 : isC K "parts_of" = true
  l2 : isC K "_law_parts" = true
  t1 : PySem.W.codeHdIn K (cOf K "parts_of") 92 = true
  t2 : PySem.W.codeHdIn K (cOf K "_law_parts") 207 = true
  n1 : K.lookup 92 = none
  n2 : K.lookup 207 = none
section
variable {K : PySem.W.Frag} {h : Heap} {mg : Str → Option Value}
theorem Says.at (S : Says K) {i : Nat} {x : Str} {st : Stmt} (hi : dsA[i]? = some (x, st)) : He.fnObs K (x, none) = (dOf x st).val ∧ okOf K x = true :=
  ⟨List.map_inj_left.mp S.e (x, st) (List.mem_of_getElem? hi), List.all_eq_true.mp S.c (x, st) (List.mem_of_getElem? hi)⟩
theorem Says.df (S : Says K) (X : K.In h) (G : h.Ns mainGlobals mg) (i : Nat) {x : Str} {st : Stmt} {ps : List Str} (hi : dsA[i]? = some (x, st)) (b : Bd x st ps) : Df K mg x st ps := df_mk X G (S.at hi).1 (S.at hi).2 b
theorem Says.no (S : Says K) (X : K.In h) (G : h.Ns mainGlobals mg) {x : Str} (hx : x ∈ frA) : mg x = none := He.free_ok X G (List.all_eq_true.mp S.z x hx)
theorem Says.exc (S : Says K) (X : K.In h) (G : h.Ns mainGlobals mg) : ExcOk K mg (He.ga K "CanNot") := by
  obtain ⟨a, b, c, d⟩ := He.exc_ok S.x1
  exact ⟨PySem.W.mg_of X G (He.eqO_ok S.x2), a, b, c, d, S.x3, S.x5, S.x4⟩
abbrev TT (K : PySem.W.Frag) : List (Addr × Str) := [(92, ("parts_of" ++ ".<locals>." : Str) ++ "<lambda>"), (207, ("_law_parts" ++ ".<locals>." : Str) ++ "<lambda>")]
theorem law_ok {P : Program} {w : World} {base : Heap} (S : Says K) (X : K.In h) (G : h.Ns mainGlobals mg) (TB1 : LamX.TabB base mg (cOf K "parts_of") 92) (TB2 : LamX.TabB base mg (cOf K "_law_parts") 207) {f : Addr} {fd : FuncData} (FL : Fun K "law" "law" s_law f fd) : FnOk P w K mg base CX0 120 f fd ["_law_script"] (spLaw K (TT K)) := by
  have no : ∀ {x : Str}, x ∈ frA → mg x = none := fun hx => S.no X G hx
  have XC := S.exc X G
  have u1 : ∀ p ∈ TT K, p.1 = 92 → p.2 = ("parts_of" ++ ".<locals>." : Str) ++ "<lambda>" := fun p hp e => by
    simp only [List.mem_cons, List.not_mem_nil, or_false] at hp
    rcases hp with rfl | rfl
    · rfl
    · cases e
  have u2 : ∀ p ∈ TT K, p.1 = 207 → p.2 = ("_law_parts" ++ ".<locals>." : Str) ++ "<lambda>" := fun p hp e => by
    simp only [List.mem_cons, List.not_mem_nil, or_false] at hp
    rcases hp with rfl | rfl
    · cases e
    · rfl
  have f_stride : Fn P w K mg base "stride_of" 1 _ _ := fn_stride 0 (S.df X G 8 rfl bd_stride_of)
  have f_gr : Fn P w K mg base "greatest_slot" 1 _ _ := fn_greatest 0 (S.df X G 1 rfl bd_greatest_slot) (no (by decide)) (no (by decide))
  have f_leads : Fn P w K mg base "leads" 2 _ _ := fn_leads 1 (S.df X G 2 rfl bd_leads) f_gr
  have f_sf : Fn P w K mg base "slot_from" 3 _ _ := fn_slotFrom 2 (S.df X G 3 rfl bd_slot_from) f_leads (no (by decide))
  have f_wa : Fn P w K mg base "wanted_slots" 4 _ _ := fn_wanted 3 (S.df X G 4 rfl bd_wanted_slots) f_sf (no (by decide))
  have f_tup : Fn P w K mg base "tuple_of" 4 _ _ := fn_tupleOf (S.df X G 0 rfl bd_tuple_of) (no (by decide)) (no (by decide)) (no (by decide)) 3
  have f_re : Fn P w K mg base "rescue" 5 _ _ := fn_rescue 4 (by decide) (S.df X G 5 rfl bd_rescue) f_tup f_wa (no (by decide)) (no (by decide)) (no (by decide)) (no (by decide)) (no (by decide)) (no (by decide)) (no (by decide))
  have f_most : Fn P w K mg base "most_saved" 6 _ _ := fn_most 5 (S.df X G 6 rfl bd_most_saved) f_re (no (by decide))
  have f_all : Fn P w K mg base "all_saved" 6 _ _ := fn_allSaved 5 (S.df X G 7 rfl bd_all_saved) f_re
  have f_bars : Fn P w K mg base "bars_of" 6 _ _ := fn_bars 5 (by decide) (S.df X G 9 rfl bd_bars_of) f_stride (no (by decide)) (no (by decide)) (no (by decide))
  have f_worst : Fn P w K mg base "worst_platforms" 7 _ _ := fn_worst 6 (by decide) (S.df X G 10 rfl bd_worst_platforms) f_tup f_most f_bars (no (by decide)) (no (by decide)) (no (by decide))
  have f_needs : Fn P w K mg base "_law_needs" 1 _ _ := fn_needs 0 (S.df X G 24 rfl bd__law_needs) (no (by decide))
  have f_walk : Fn P w K mg base "_law_walked" 2 _ _ := fn_walked 1 (by decide) (S.df X G 25 rfl bd__law_walked) f_needs (no (by decide)) (no (by decide))
  have f_tries : Fn P w K mg base "_law_tries" 102 _ _ := fn_tries (S.df X G 21 rfl bd__law_tries) 101
  have f_lmost : Fn P w K mg base "_law_most" 103 _ _ := fn_mostS 102 (by decide) (S.df X G 22 rfl bd__law_most) f_tries (no (by decide)) (no (by decide))
  have f_saved : Fn P w K mg base "_law_saved" 104 _ _ := fn_saved 103 (by decide) (S.df X G 29 rfl bd__law_saved) f_lmost f_walk (no (by decide)) (no (by decide))
  have f_lists : Fn P w K mg base "_law_lists" 6 _ _ := fn_lists (S.df X G 17 rfl bd__law_lists) (no (by decide)) (no (by decide)) (no (by decide)) 5
  have f_same : Fn P w K mg base "_law_same" 11 _ _ := fn_same (S.df X G 16 rfl bd__law_same) (no (by decide)) (no (by decide)) (no (by decide)) (no (by decide)) (no (by decide)) (no (by decide)) (no (by decide)) (no (by decide)) (no (by decide)) 10
  have f_take : Fn P w K mg base "_law_take" 1 _ _ := fn_take 0 (S.df X G 14 rfl bd__law_take) (no (by decide))
  have f_of : Fn P w K mg base "_law_of" 2 _ _ := fn_of 1 (by decide) (S.df X G 18 rfl bd__law_of) f_take (no (by decide))
  have f_box : Fn P w K mg base "_law_box" 1 _ _ := fn_box 0 (S.df X G 13 rfl bd__law_box) (no (by decide)) (no (by decide)) (no (by decide))
  have f_cells : Fn P w K mg base "_law_cells" 1 _ _ := fn_cells 0 (S.df X G 15 rfl bd__law_cells) (no (by decide)) (no (by decide)) (no (by decide))
  have f_roofs : Fn P w K mg base "_law_roofs" 3 _ _ := fn_roofs 2 (by decide) (S.df X G 19 rfl bd__law_roofs) f_take f_of (no (by decide)) (no (by decide)) (no (by decide)) (no (by decide))
  have f_muster : Fn P w K mg base "_law_muster" 3 _ _ := fn_muster 2 (by decide) (S.df X G 20 rfl bd__law_muster) f_take f_of (no (by decide)) (no (by decide))
  have f_breaks : Fn P w K mg base "_law_breaks" 3 _ _ := fn_breaks 2 (by decide) (S.df X G 26 rfl bd__law_breaks) f_take f_of (no (by decide)) (no (by decide)) (no (by decide))
  have f_spots : Fn P w K mg base "_law_spots" 1 _ _ := fn_spots 0 (S.df X G 23 rfl bd__law_spots) (no (by decide))
  have f_parts : Fn P w K mg base "parts_of" 6 _ _ := fn_parts 5 (by decide) (T := TT K) (dfL_mk X G (S.at (i := 11) rfl).1 (S.at (i := 11) rfl).2 S.l1 bd_parts_of) TB1 List.mem_cons_self u1 (no (by decide)) (no (by decide))
  have f_lparts : Fn P w K mg base "_law_parts" 3 _ _ := fn_lawParts 2 (by decide) (T := TT K) (dfL_mk X G (S.at (i := 30) rfl).1 (S.at (i := 30) rfl).2 S.l2 bd__law_parts) TB2 (List.mem_cons_of_mem _ List.mem_cons_self) u2 (no (by decide)) (no (by decide))
  have f_least : FnX P w K mg base "least_mends" 7 _ (spLeast (TT K) _) := fn_least 6 (by decide) XC (S.df X G 12 rfl bd_least_mends) f_tup f_parts f_all f_bars (no (by decide)) (no (by decide))
  have f_heard : Fn P w K mg base "_law_heard" 8 _ (spHeard (TT K)) := fn_heard 7 XC (S.df X G 27 rfl bd__law_heard) f_least (no (by decide)) (no (by decide))
  have f_right : Fn P w K mg base "_law_right" 108 _ (spRight (TT K)) := fn_right (C := He.ga K "CanNot") 107 (by decide) saved_is (S.df X G 31 rfl bd__law_right) f_take f_of f_roofs f_breaks f_muster f_saved f_spots f_lists (Fn.mono f_worst (by decide)) f_same f_lparts (Fn.mono f_heard (by decide)) (no (by decide)) (no (by decide)) (no (by decide)) (no (by decide))
  have f_by : Fn P w K mg base "_law_by_hand_right" 12 _ (spBy (TT K)) := fn_by 11 (by decide) (S.df X G 28 rfl bd__law_by_hand_right) (Fn.mono f_worst (by decide)) f_same (Fn.mono f_heard (by decide))
  exact fn_law 119 (by decide) FL f_by f_cells f_box f_right (no (by decide)) (no (by decide)) (no (by decide))
theorem law_at {l : PySem.W.OpenLaw} {w : World} {fa : Addr} (S : Says K) (tb : ∀ P ∈ [207, 92], h.get? P = some (PySem.W.tabObj #[])) (X : K.In h) (G : h.Ns mainGlobals mg) (hfa : mg "law" = some (.ref fa)) : LamX.LawAtS l w K CX0 120 63 "_law_script" mg fa h := by
  obtain ⟨fd, FL, _⟩ := fun_ok (S.at (i := 32) rfl).1 (S.at (i := 32) (x := "law") (st := s_law) rfl).2
  have e := hfa.symm.trans (He.glo_ok X G (He.ba (S.at (i := 32) (x := "law") (st := s_law) rfl).2).1)
  cases e
  refine ⟨fd, [(cOf K "parts_of", 92), (cOf K "_law_parts", 207)], spLaw K (TT K), fun p hp => ?_, fun p hp => ?_, fun p hp => ?_, ?_, fun H a ns hn _ hT hS => ⟨a, ns, rfl, hS, by omega, fun p hp => ?_, fun _ => rfl⟩, fun base _ _ TB => ?_⟩
  · simp only [List.mem_cons, List.not_mem_nil, or_false] at hp
    rcases hp with rfl | rfl
    · exact tb 92 (by decide)
    · exact tb 207 (by decide)
  · simp only [List.mem_cons, List.not_mem_nil, or_false] at hp
    rcases hp with rfl | rfl
    · exact S.n1
    · exact S.n2
  · simp only [List.mem_cons, List.not_mem_nil, or_false] at hp
    rcases hp with rfl | rfl
    · exact PySem.W.codeHd_of_K X S.t1
    · exact PySem.W.codeHd_of_K X S.t2
  · obtain ⟨oc, od, kV, doc, pm, an, cdv, ct, osl, rfl, lk, hcd⟩ := FL.ex
    exact fun s u => .of_eq (bd_law kV doc pm an cdv ct [u] rfl)
  · have h1 : H 92 = some (.tbl #[]) := hT (cOf K "parts_of", 92) List.mem_cons_self
    have h2 : H 207 = some (.tbl #[]) := hT (cOf K "_law_parts", 207) (List.mem_cons_of_mem _ List.mem_cons_self)
    simp only [List.mem_cons, List.not_mem_nil, or_false] at hp
    rcases hp with rfl | rfl
    · exact ⟨#[], h1, by trivial, fun pos cv hc => by cases hc⟩
    · exact ⟨#[], h2, by trivial, fun pos cv hc => by cases hc⟩
  · exact law_ok S X G (TB _ List.mem_cons_self) (TB _ (List.mem_cons_of_mem _ List.mem_cons_self)) FL
end
end Mr
end

section
set_option Elab.async false
open PySem PySem.W PyProof.Rows
set_option maxRecDepth 100000 in
set_option maxHeartbeats 0 in
theorem PySem.Challenge.cw_manrods_k68_whole_platforms_that_lose_mo_holds : PySem.Challenge.rw_manrods_k68_whole_platforms_that_lose_mo.Holds := by
  w_on; o_law; k_head; (case hw => w_witness2)
  k_fill
  refine LamX.walk_ofTs (l := PySem.Challenge.rw_manrods_k68_whole_platforms_that_lose_mo) (n := 63) (k := 120) (x := "_law_script") (CX := fun _ => L2.CX0) rfl (by decide) rfl ⟨rfl, by decide, by decide⟩ (fun w h Y => PySem.W.km_in_of Y) ?F (fun _ _ _ _ _ z => z)
  intro w mg fa h Y X G hmg
  refine Mr.law_at ⟨?e, ?c, ?z, ?x1, ?x2, ?x3, ?x4, ⟨?y1, ?y2, ?y3, ?y4, ?y5, ?y6, ?y7, ?y8⟩, ?l1, ?l2, ?t1, ?t2, ?n1, ?n2⟩ (PySem.W.km_tabs_of Y) X G hmg
  (case e => kernel_rfl)
  (case c => kernel_rfl)
  (case z => kernel_rfl)
  (case x1 => kernel_rfl)
  (case x2 => kernel_rfl)
  (case x3 => kernel_rfl)
  (case x4 => kernel_rfl)
  (case y1 => kernel_rfl)
  (case y2 => kernel_rfl)
  (case y3 => kernel_rfl)
  (case y4 => kernel_rfl)
  (case y5 => kernel_rfl)
  (case y6 => kernel_rfl)
  (case y7 => kernel_rfl)
  (case y8 => kernel_rfl)
  (case l1 => kernel_rfl)
  (case l2 => kernel_rfl)
  (case t1 => kernel_rfl)
  (case t2 => kernel_rfl)
  (case n1 => kernel_rfl)
  (case n2 => kernel_rfl)
end
