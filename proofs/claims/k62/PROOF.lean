import PyProof.Rows.All
import Wide.All
import OpenK.AllK
import Wide.FinOn
import HandS.ForMost
import HandS.Strs
import HandS.SetFor
import HandS.SetKeys
import HandS.Style
import HandS.TupMul
import HandS.TupLen
import HandS.Conv
import HandS.Zip
import HandS.Walk
import HandS.More
import HandS.Codes
import KE.KDictKeyed
import KE.GoesEnum
import PySem.Challenge.RW_ringchief_k62_whole_no_comparing_log_bel
set_option linter.all false
namespace K62

/-! ### sorted sets of ints -/
def ins (x : Int) : List Int → List Int
  | [] => [x]
  | y :: r => if x < y then x :: y :: r else if x = y then y :: r else y :: ins x r
def sset (xs : List Int) : List Int := xs.foldr ins []
theorem mem_ins (x z : Int) : ∀ l : List Int, z ∈ ins x l ↔ z = x ∨ z ∈ l
  | [] => by simp [ins]
  | y :: r => by
    unfold ins
    by_cases h1 : x < y
    · rw [if_pos h1]; simp
    · rw [if_neg h1]
      by_cases h2 : x = y
      · rw [if_pos h2]; subst h2; simp
      · rw [if_neg h2]
        simp only [List.mem_cons, mem_ins x z r]
        constructor
        · rintro (h | h | h) <;> simp [h]
        · rintro (h | h | h) <;> simp [h]
theorem ins_sorted (x : Int) : ∀ l : List Int, l.Pairwise (· < ·) → (ins x l).Pairwise (· < ·)
  | [], _ => by simp [ins]
  | y :: r, h => by
    unfold ins
    obtain ⟨h1, h2⟩ := List.pairwise_cons.mp h
    by_cases c1 : x < y
    · rw [if_pos c1]
      refine List.pairwise_cons.mpr ⟨fun z hz => ?_, h⟩
      rcases List.mem_cons.mp hz with e | e
      · rw [e]; exact c1
      · exact Int.lt_trans c1 (h1 z e)
    · rw [if_neg c1]
      by_cases c2 : x = y
      · rw [if_pos c2]; exact h
      · rw [if_neg c2]
        refine List.pairwise_cons.mpr ⟨fun z hz => ?_, ins_sorted x r h2⟩
        rcases (mem_ins x z r).mp hz with e | e
        · rw [e]; omega
        · exact h1 z e
theorem mem_sset (z : Int) : ∀ xs : List Int, z ∈ sset xs ↔ z ∈ xs
  | [] => by simp [sset]
  | x :: r => by
    have ih := mem_sset z r
    show z ∈ ins x (sset r) ↔ _
    rw [mem_ins, ih]; simp
theorem sset_sorted : ∀ xs : List Int, (sset xs).Pairwise (· < ·)
  | [] => List.Pairwise.nil
  | x :: r => ins_sorted x _ (sset_sorted r)
theorem sorted_unique : ∀ {l m : List Int}, l.Pairwise (· < ·) → m.Pairwise (· < ·) → (∀ z, z ∈ l ↔ z ∈ m) → l = m
  | [], [], _, _, _ => rfl
  | [], y :: m, _, _, h => by have := (h y).mpr (by simp); simp at this
  | x :: l, [], _, _, h => by have := (h x).mp (by simp); simp at this
  | x :: l, y :: m, hl, hm, h => by
    obtain ⟨h1, h2⟩ := List.pairwise_cons.mp hl
    obtain ⟨g1, g2⟩ := List.pairwise_cons.mp hm
    have e : x = y := by
      have a := (h x).mp (by simp)
      have b := (h y).mpr (by simp)
      rcases List.mem_cons.mp a with a | a
      · exact a
      · rcases List.mem_cons.mp b with b | b
        · exact b.symm
        · have := g1 x a; have := h1 y b; omega
    subst e
    refine congrArg _ (sorted_unique h2 g2 fun z => ?_)
    constructor
    · intro hz
      rcases List.mem_cons.mp ((h z).mp (List.mem_cons_of_mem _ hz)) with e | e
      · subst e; exact absurd (h1 z hz) (Int.lt_irrefl _)
      · exact e
    · intro hz
      rcases List.mem_cons.mp ((h z).mpr (List.mem_cons_of_mem _ hz)) with e | e
      · subst e; exact absurd (g1 z hz) (Int.lt_irrefl _)
      · exact e
theorem sset_nodup (xs : List Int) : (sset xs).Nodup := (sset_sorted xs).imp fun h => by omega
theorem sset_of {us xs : List Int} (h : us.Pairwise (· < ·)) (m : ∀ z, z ∈ us ↔ z ∈ xs) : us = sset xs :=
  sorted_unique h (sset_sorted xs) fun z => (m z).trans (mem_sset z xs).symm

/-! ### the order of names -/
def ordOf (xs : List Int) : List Int := xs.map fun x => (((sset xs).idxOf x : Nat) : Int)
theorem ordOf_length (xs : List Int) : (ordOf xs).length = xs.length := by simp [ordOf]
theorem ordOf_get (xs : List Int) (i : Nat) (h : i < xs.length) : (ordOf xs)[i]? = some (((sset xs).idxOf (xs[i]) : Nat) : Int) := by
  simp [ordOf, List.getElem?_eq_getElem h]
/-- the names stand in one order -/
def Alike (xs ys : List Int) : Prop := xs.length = ys.length ∧ ∀ i j (hi : i < xs.length) (hj : j < xs.length) (hi' : i < ys.length) (hj' : j < ys.length), xs[i] < xs[j] ↔ ys[i] < ys[j]
theorem idx_lt {us : List Int} (h : us.Pairwise (· < ·)) {x y : Int} (hx : x ∈ us) (hy : y ∈ us) : x < y ↔ us.idxOf x < us.idxOf y := by
  have ix := List.idxOf_lt_length_of_mem hx
  have iy := List.idxOf_lt_length_of_mem hy
  have gx : us[us.idxOf x] = x := List.getElem_idxOf ix
  have gy : us[us.idxOf y] = y := List.getElem_idxOf iy
  have hp := List.pairwise_iff_getElem.mp h
  constructor
  · intro hxy
    rcases Nat.lt_trichotomy (us.idxOf x) (us.idxOf y) with c | c | c
    · exact c
    · exfalso
      have : x = y := by rw [← gx, ← gy]; simp only [c]
      omega
    · have := hp _ _ iy ix c
      rw [gx, gy] at this; omega
  · intro c
    have := hp _ _ ix iy c
    rw [gx, gy] at this; exact this
theorem alike_of_ord {xs ys : List Int} (h : ordOf xs = ordOf ys) : Alike xs ys := by
  have hl : xs.length = ys.length := by rw [← ordOf_length xs, h, ordOf_length]
  refine ⟨hl, fun i j hi hj hi' hj' => ?_⟩
  have a := ordOf_get xs i hi
  have b := ordOf_get xs j hj
  rw [h, ordOf_get ys i hi'] at a
  rw [h, ordOf_get ys j hj'] at b
  have a' : (sset ys).idxOf ys[i] = (sset xs).idxOf xs[i] := by have := Option.some.inj a; omega
  have b' : (sset ys).idxOf ys[j] = (sset xs).idxOf xs[j] := by have := Option.some.inj b; omega
  rw [idx_lt (sset_sorted xs) ((mem_sset _ _).mpr (List.getElem_mem hi)) ((mem_sset _ _).mpr (List.getElem_mem hj)),
    idx_lt (sset_sorted ys) ((mem_sset _ _).mpr (List.getElem_mem hi')) ((mem_sset _ _).mpr (List.getElem_mem hj')), a', b']
theorem ord_of_alike {xs ys : List Int} (h : Alike xs ys) : ordOf xs = ordOf ys := by
  obtain ⟨hl, hp⟩ := h
  have heq : ∀ i j (hi : i < xs.length) (hj : j < xs.length) (hi' : i < ys.length) (hj' : j < ys.length), xs[i] = xs[j] → ys[i] = ys[j] := fun i j hi hj hi' hj' e => by
    have a := hp i j hi hj hi' hj'
    have b := hp j i hj hi hj' hi'
    have : ¬ xs[i] < xs[j] := by omega
    have : ¬ xs[j] < xs[i] := by omega
    have : ¬ ys[i] < ys[j] := fun q => by have := a.mpr q; omega
    have : ¬ ys[j] < ys[i] := fun q => by have := b.mpr q; omega
    omega
  let f : Int → Int := fun u => ys.getD (xs.idxOf u) 0
  have hf : ∀ i (hi : i < xs.length) (hi' : i < ys.length), f xs[i] = ys[i] := fun i hi hi' => by
    have hm : xs[i] ∈ xs := List.getElem_mem hi
    have hx := List.idxOf_lt_length_of_mem hm
    have hx' : xs.idxOf xs[i] < ys.length := by omega
    show ys.getD (xs.idxOf xs[i]) 0 = ys[i]
    rw [List.getD_eq_getElem?_getD, List.getElem?_eq_getElem hx']
    exact heq _ _ hx hi hx' hi' (List.getElem_idxOf hx)
  have hmem : ∀ u, u ∈ sset xs → ∃ i, ∃ (hi : i < xs.length), xs[i] = u := fun u hu => List.getElem_of_mem ((mem_sset u xs).mp hu)
  have hs : (sset xs).map f = sset ys := by
    refine sset_of ?_ fun z => ?_
    · rw [List.pairwise_map]
      refine (List.Pairwise.and_mem.mp (sset_sorted xs)).imp fun {u v} ⟨hu, hv, huv⟩ => ?_
      obtain ⟨i, hi, rfl⟩ := hmem u hu
      obtain ⟨j, hj, rfl⟩ := hmem v hv
      rw [hf i hi (by omega), hf j hj (by omega)]
      exact (hp i j hi hj (by omega) (by omega)).mp huv
    · constructor
      · intro hz
        obtain ⟨u, hu, rfl⟩ := List.mem_map.mp hz
        obtain ⟨i, hi, rfl⟩ := hmem u hu
        rw [hf i hi (by omega)]
        exact List.getElem_mem _
      · intro hz
        obtain ⟨i, hi, rfl⟩ := List.getElem_of_mem hz
        exact List.mem_map.mpr ⟨xs[i]'(by omega), (mem_sset _ _).mpr (List.getElem_mem _), hf i (by omega) hi⟩
  refine List.ext_getElem (by rw [ordOf_length, ordOf_length, hl]) fun i h1 h2 => ?_
  have hi : i < xs.length := by rw [ordOf_length] at h1; exact h1
  have hi' : i < ys.length := by omega
  simp only [ordOf, List.getElem_map]
  have hm : xs[i] ∈ sset xs := (mem_sset _ _).mpr (List.getElem_mem hi)
  have hx := List.idxOf_lt_length_of_mem hm
  have e : (sset ys).idxOf ys[i] = (sset xs).idxOf xs[i] := by
    have hx2 : (sset xs).idxOf xs[i] < (sset ys).length := by rw [← hs, List.length_map]; exact hx
    have g : (sset ys)[(sset xs).idxOf xs[i]] = ys[i] := by
      simp only [← hs, List.getElem_map]
      rw [List.getElem_idxOf hx, hf i hi hi']
    rw [← g]
    exact List.Nodup.idxOf_getElem (sset_nodup ys) _ hx2
  rw [e]
end K62
namespace K62
/-! ### numbering -/
section
variable {κ : Type} [DecidableEq κ]
def fd (ks : List κ) : List κ := ks.foldl (fun acc k => if k ∈ acc then acc else acc ++ [k]) []
def num (ks : List κ) : List Int := ks.map fun k => (((fd ks).idxOf k : Nat) : Int)
theorem fd_snoc (ks : List κ) (k : κ) : fd (ks ++ [k]) = if k ∈ fd ks then fd ks else fd ks ++ [k] := by
  unfold fd
  rw [List.foldl_append]
  rfl
theorem snoc_ind {P : List κ → Prop} (h0 : P []) (h1 : ∀ l x, P l → P (l ++ [x])) (l : List κ) : P l := by
  rw [← List.reverse_reverse l]
  induction l.reverse with
  | nil => exact h0
  | cons x r ih => rw [List.reverse_cons]; exact h1 _ _ ih
theorem mem_fd (ks : List κ) (x : κ) : x ∈ fd ks ↔ x ∈ ks := by
  refine snoc_ind (P := fun ks => x ∈ fd ks ↔ x ∈ ks) (by simp [fd]) (fun l y ih => ?_) ks
  rw [fd_snoc]
  by_cases h : y ∈ fd l
  · rw [if_pos h, ih, List.mem_append, List.mem_singleton]
    constructor
    · exact .inl
    · rintro (q | q)
      · exact q
      · rw [q]; rw [q] at ih; exact ih.mp (q ▸ h)
  · rw [if_neg h, List.mem_append, List.mem_append, ih]
theorem fd_nodup (ks : List κ) : (fd ks).Nodup := by
  refine snoc_ind (P := fun ks => (fd ks).Nodup) (by simp [fd]) (fun l y ih => ?_) ks
  rw [fd_snoc]
  by_cases h : y ∈ fd l
  · rw [if_pos h]; exact ih
  · rw [if_neg h]
    refine List.nodup_append.mpr ⟨ih, by simp, fun a ha b hb => ?_⟩
    rw [List.mem_singleton] at hb
    rintro rfl
    exact h (hb ▸ ha)
theorem idx_keep (ks : List κ) (k x : κ) (h : x ∈ ks) : (fd (ks ++ [k])).idxOf x = (fd ks).idxOf x := by
  rw [fd_snoc]
  by_cases c : k ∈ fd ks
  · rw [if_pos c]
  · rw [if_neg c, List.idxOf_append, if_pos ((mem_fd ks x).mpr h)]
theorem idx_new (ks : List κ) (k : κ) : (fd (ks ++ [k])).idxOf k = (fd ks).idxOf k := by
  rw [fd_snoc]
  by_cases c : k ∈ fd ks
  · rw [if_pos c]
  · rw [if_neg c, List.idxOf_append, if_neg c]
    rw [List.idxOf_eq_length c]; simp
theorem num_snoc (ks : List κ) (k : κ) : num (ks ++ [k]) = num ks ++ [(((fd ks).idxOf k : Nat) : Int)] := by
  unfold num
  rw [List.map_append, List.map_singleton, idx_new]
  refine congrArg (· ++ _) (List.map_congr_left fun x hx => ?_)
  rw [idx_keep ks k x hx]
theorem num_length (ks : List κ) : (num ks).length = ks.length := by simp [num]
theorem num_get (ks : List κ) (i : Nat) (h : i < ks.length) : (num ks)[i]? = some (((fd ks).idxOf ks[i] : Nat) : Int) := by
  simp [num, List.getElem?_eq_getElem h]
theorem idx_inj {l : List κ} {x y : κ} (hx : x ∈ l) (h : l.idxOf x = l.idxOf y) : x = y := by
  have hy : l.idxOf y < l.length := by rw [← h]; exact List.idxOf_lt_length_of_mem hx
  have h1 := List.getElem_idxOf (List.idxOf_lt_length_of_mem hx)
  have h2 := List.getElem_idxOf hy
  rw [← h1, ← h2]; simp only [h]
theorem num_eq_iff (ks : List κ) (i j : Nat) (hi : i < ks.length) (hj : j < ks.length) : (num ks)[i]? = (num ks)[j]? ↔ ks[i] = ks[j] := by
  rw [num_get ks i hi, num_get ks j hj]
  constructor
  · intro h
    have h : (fd ks).idxOf ks[i] = (fd ks).idxOf ks[j] := by have := Option.some.inj h; omega
    exact idx_inj ((mem_fd ks _).mpr (List.getElem_mem hi)) h
  · intro h; rw [h]
theorem num_lt (ks : List κ) : ∀ v ∈ num ks, v < (fd ks).length := fun v hv => by
  obtain ⟨k, hk, rfl⟩ := List.mem_map.mp hv
  have := List.idxOf_lt_length_of_mem ((mem_fd ks k).mpr hk)
  omega
theorem num_hit (ks : List κ) (h : 0 < (fd ks).length) : (((fd ks).length : Nat) : Int) - 1 ∈ num ks := by
  have hl : (fd ks).length - 1 < (fd ks).length := by omega
  have hm : (fd ks)[(fd ks).length - 1] ∈ ks := (mem_fd ks _).mp (List.getElem_mem hl)
  refine List.mem_map.mpr ⟨_, hm, ?_⟩
  rw [List.Nodup.idxOf_getElem (fd_nodup ks)]
  omega
/-- the law's way to the next number -/
theorem pick {ks : List κ} {h : Nat} (hh : h < ks.length) {m : Int} (hm : m ∈ num (ks.take h) ++ [-1]) (hle : ∀ y ∈ num (ks.take h) ++ [-1], y ≤ m) :
    ((((List.range h).filter fun o => decide (ks[o]? = ks[h]?)).map fun o => (num (ks.take h)).getD o 0) ++ [m + 1])[0]? = some (((fd (ks.take h)).idxOf ks[h] : Nat) : Int) := by
  have hlen : (ks.take h).length = h := by rw [List.length_take]; omega
  by_cases c : ks[h] ∈ ks.take h
  · -- one ahead is like it
    have all : ∀ v ∈ ((List.range h).filter fun o => decide (ks[o]? = ks[h]?)).map fun o => (num (ks.take h)).getD o 0, v = (((fd (ks.take h)).idxOf ks[h] : Nat) : Int) := by
      intro v hv
      obtain ⟨o, ho, rfl⟩ := List.mem_map.mp hv
      obtain ⟨h1, h2⟩ := List.mem_filter.mp ho
      have h1 := List.mem_range.mp h1
      have h2 := of_decide_eq_true h2
      have ho' : o < (ks.take h).length := by omega
      have e : (ks.take h)[o] = ks[h] := by
        rw [List.getElem_take]
        rw [List.getElem?_eq_getElem (by omega), List.getElem?_eq_getElem hh] at h2
        exact Option.some.inj h2
      rw [List.getD_eq_getElem?_getD, num_get _ o ho', e]
      rfl
    obtain ⟨o, ho, e⟩ := List.getElem_of_mem c
    have ho' : o < h := by omega
    have hin : o ∈ (List.range h).filter fun o => decide (ks[o]? = ks[h]?) := by
      refine List.mem_filter.mpr ⟨List.mem_range.mpr ho', decide_eq_true ?_⟩
      rw [List.getElem_take] at e
      rw [List.getElem?_eq_getElem (by omega), List.getElem?_eq_getElem hh, e]
    generalize hL : ((List.range h).filter fun o => decide (ks[o]? = ks[h]?)).map (fun o => (num (ks.take h)).getD o 0) = L at all
    have hne : L ≠ [] := by
      rintro rfl
      rw [List.map_eq_nil_iff] at hL
      rw [hL] at hin
      simp at hin
    cases L with
    | nil => exact absurd rfl hne
    | cons v r =>
      show some v = _
      rw [all v (by simp)]
  · have hnil : ((List.range h).filter fun o => decide (ks[o]? = ks[h]?)) = [] := by
      refine List.filter_eq_nil_iff.mpr fun o ho => ?_
      have ho := List.mem_range.mp ho
      intro q
      have q := of_decide_eq_true q
      rw [List.getElem?_eq_getElem (by omega), List.getElem?_eq_getElem hh] at q
      refine c ?_
      rw [← Option.some.inj q]
      have : (ks.take h)[o]'(by omega) = ks[o] := List.getElem_take ..
      rw [← this]
      exact List.getElem_mem _
    rw [hnil, List.idxOf_eq_length (fun q => c ((mem_fd _ _).mp q))]
    show some (m + 1) = _
    have hlt := num_lt (ks.take h)
    rcases Nat.eq_zero_or_pos (fd (ks.take h)).length with z | z
    · have e : m = -1 := by
        rcases List.mem_append.mp hm with q | q
        · have q1 := hlt m q
          obtain ⟨k, _, q2⟩ := List.mem_map.mp q
          omega
        · simpa using q
      rw [e, z]; rfl
    · have h1 := hle _ (List.mem_append_left _ (num_hit (ks.take h) z))
      have h2 : m < (fd (ks.take h)).length := by
        rcases List.mem_append.mp hm with q | q
        · exact hlt m q
        · have : m = -1 := by simpa using q
          omega
      congr 1
      omega
end
end K62
namespace K62
/-! ### the ring, the turns -/
def nm (ring : List Int) (z : Int) : Int := ring.getD (z % (ring.length : Int)).toNat 0
def namesAt (ring : List Int) (h l r : Int) : List Int := (List.range (r + 1 + l).toNat).map fun (i : Nat) => nm ring (h + (-l + (i : Int)))
abbrev Tr := List (Int × Int × Int)
def tl (t : Tr) (h s : Int) : Int := ((t.filter fun e => decide (e.1 = h ∧ e.2.1 = s)).map (·.2.2)).sum
def letters (t : Tr) : Int := (t.map (·.2.2)).sum
def gI (row : List Int) (z : Int) : Int := row.getD z.toNat 0
def gS (st : List (Int × Int)) (z : Int) : Int × Int := st.getD z.toNat (0, 0)
def prv (n h : Int) : Int := (h - 1) % n
def nxt (n h : Int) : Int := (h + 1) % n
def mx (i j : Int) : Int := if j > i then j else i
def sightAt (sights : List (Int × Int)) (t : Tr) (h : Int) : Int × Int :=
  (if 0 < tl t (prv sights.length h) 1 then mx (gS sights h).1 ((gS sights (prv sights.length h)).1 + 1) else (gS sights h).1,
   if 0 < tl t (nxt sights.length h) (-1) then mx (gS sights h).2 ((gS sights (nxt sights.length h)).2 + 1) else (gS sights h).2)
def sightsB (sights : List (Int × Int)) (t : Tr) : List (Int × Int) := (List.range sights.length).map fun (h : Nat) => sightAt sights t (h : Int)
def heard (row : List Int) (t : Tr) (teller side : Int) : Int × Int := if 0 < tl t teller side then (tl t teller side, gI row teller) else (0, 0)
abbrev Ky := Int × ((Int × Int) × (Int × Int)) × (Int × Int) × List Int
def keyAt (ring row : List Int) (t : Tr) (sights : List (Int × Int)) (h : Int) : Ky :=
  (gI row h, (heard row t (prv ring.length h) 1, heard row t (nxt ring.length h) (-1)), gS sights h, ordOf (namesAt ring h (gS sights h).1 (gS sights h).2))
def keysB (ring row : List Int) (t : Tr) (sights : List (Int × Int)) : List Ky := (List.range ring.length).map fun (h : Nat) => keyAt ring row t sights (h : Int)
def rowB (ring row : List Int) (t : Tr) (sights : List (Int × Int)) : List Int := num (keysB ring row t sights)
abbrev Stt := List Int × List (Int × Int)
def stp (ring : List Int) (st : Stt) (t : Tr) : Stt := (rowB ring st.1 t (sightsB st.2 t), sightsB st.2 t)
def ini (n : Nat) : Stt := (List.replicate n 0, List.replicate n (0, 0))
def stOf (ring : List Int) (log : List Tr) : Stt := log.foldl (stp ring) (ini ring.length)
def kindKeys (ring : List Int) (k : Int) : List (List Int) := (List.range ring.length).map fun (h : Nat) => ordOf (namesAt ring (h : Int) k k)
def kindRow (ring : List Int) (k : Int) : List Int := num (kindKeys ring k)
def counts (row : List Int) : List Int := row.map fun x => ((row.count x : Nat) : Int)
/-- the least of the counts -/
def few (row : List Int) : Int := ((counts row).min?).getD 0
def TurnOk (n : Nat) (t : Tr) : Prop := (t.map fun e => (e.1, e.2.1)).Nodup ∧ ∀ e ∈ t, 0 ≤ e.1 ∧ e.1 < n ∧ (e.2.1 = -1 ∨ e.2.1 = 1) ∧ 0 < e.2.2
def Tells (n : Nat) (row : List Int) (t : Tr) : Prop := ∀ a b : Int, 0 ≤ a → a < n → 0 ≤ b → b < n → gI row a = gI row b → tl t a (-1) = tl t b (-1) ∧ tl t a 1 = tl t b 1
def CompLog (ring : List Int) (log : List Tr) : Prop := ∀ k t, log[k]? = some t → TurnOk ring.length t ∧ Tells ring.length (stOf ring (log.take k)).1 t
def gone (log : List Tr) : Nat := (log.filter fun t => decide (t ≠ [])).length
def total (log : List Tr) : Int := (log.map letters).sum
def IsFl (ring : List Int) (m : Nat) : Prop := (∀ k : Nat, k < m → 1 < few (kindRow ring k)) ∧ few (kindRow ring m) ≤ 1

theorem stOf_snoc (ring : List Int) (log : List Tr) (t : Tr) : stOf ring (log ++ [t]) = stp ring (stOf ring log) t := by
  unfold stOf
  rw [List.foldl_append]
  rfl
theorem gone_snoc (log : List Tr) (t : Tr) : gone (log ++ [t]) = gone log + if t = [] then 0 else 1 := by
  unfold gone
  rw [List.filter_append, List.length_append]
  by_cases h : t = []
  · simp [h]
  · simp [h]
theorem total_snoc (log : List Tr) (t : Tr) : total (log ++ [t]) = total log + letters t := by
  unfold total
  rw [List.map_append, List.sum_append]
  simp
theorem prv_lt {n : Nat} (hn : 0 < n) (h : Int) : 0 ≤ prv n h ∧ prv n h < n := ⟨Int.emod_nonneg _ (by omega), Int.emod_lt_of_pos _ (by omega)⟩
theorem nxt_lt {n : Nat} (hn : 0 < n) (h : Int) : 0 ≤ nxt n h ∧ nxt n h < n := ⟨Int.emod_nonneg _ (by omega), Int.emod_lt_of_pos _ (by omega)⟩
theorem sightsB_length (s : List (Int × Int)) (t : Tr) : (sightsB s t).length = s.length := by simp [sightsB]
theorem gS_sightsB (s : List (Int × Int)) (t : Tr) (h : Int) (h0 : 0 ≤ h) (h1 : h < s.length) : gS (sightsB s t) h = sightAt s t h := by
  have e : h = ((h.toNat : Nat) : Int) := by omega
  have hl : h.toNat < s.length := by omega
  unfold gS sightsB
  rw [List.getD_eq_getElem?_getD, List.getElem?_map, List.getElem?_range hl]
  show sightAt s t ((h.toNat : Nat) : Int) = _
  rw [← e]
theorem rowB_length (ring row : List Int) (t : Tr) (s : List (Int × Int)) : (rowB ring row t s).length = ring.length := by
  unfold rowB keysB; rw [num_length]; simp
theorem gI_num_eq {κ : Type} [DecidableEq κ] (ks : List κ) (a b : Int) (a0 : 0 ≤ a) (a1 : a < ks.length) (b0 : 0 ≤ b) (b1 : b < ks.length) :
    gI (num ks) a = gI (num ks) b ↔ ks[a.toNat]? = ks[b.toNat]? := by
  have ha : a.toNat < ks.length := by omega
  have hb : b.toNat < ks.length := by omega
  have q := num_eq_iff ks a.toNat b.toNat ha hb
  unfold gI
  rw [List.getD_eq_getElem?_getD, List.getD_eq_getElem?_getD, List.getElem?_eq_getElem ha, List.getElem?_eq_getElem hb]
  constructor
  · intro h
    refine congrArg some (q.mp ?_)
    rw [num_get ks _ ha, num_get ks _ hb] at h ⊢
    exact congrArg some h
  · intro h
    rw [q.mpr (Option.some.inj h)]
theorem keysB_get (ring row : List Int) (t : Tr) (s : List (Int × Int)) (h : Int) (h0 : 0 ≤ h) (h1 : h < ring.length) : (keysB ring row t s)[h.toNat]? = some (keyAt ring row t s h) := by
  have e : h = ((h.toNat : Nat) : Int) := by omega
  have hl : h.toNat < ring.length := by omega
  unfold keysB
  rw [List.getElem?_map, List.getElem?_range hl]
  show some (keyAt ring row t s ((h.toNat : Nat) : Int)) = _
  rw [← e]
theorem gI_rowB (ring row : List Int) (t : Tr) (s : List (Int × Int)) (a b : Int) (a0 : 0 ≤ a) (a1 : a < ring.length) (b0 : 0 ≤ b) (b1 : b < ring.length) :
    gI (rowB ring row t s) a = gI (rowB ring row t s) b ↔ keyAt ring row t s a = keyAt ring row t s b := by
  have hl : (keysB ring row t s).length = ring.length := by simp [keysB]
  unfold rowB
  rw [gI_num_eq _ _ _ a0 (by omega) b0 (by omega), keysB_get _ _ _ _ _ a0 a1, keysB_get _ _ _ _ _ b0 b1]
  exact ⟨Option.some.inj, congrArg some⟩
theorem kindKeys_get (ring : List Int) (k h : Int) (h0 : 0 ≤ h) (h1 : h < ring.length) : (kindKeys ring k)[h.toNat]? = some (ordOf (namesAt ring h k k)) := by
  have e : h = ((h.toNat : Nat) : Int) := by omega
  have hl : h.toNat < ring.length := by omega
  unfold kindKeys
  rw [List.getElem?_map, List.getElem?_range hl]
  show some (ordOf (namesAt ring ((h.toNat : Nat) : Int) k k)) = _
  rw [← e]
theorem gI_kindRow (ring : List Int) (k a b : Int) (a0 : 0 ≤ a) (a1 : a < ring.length) (b0 : 0 ≤ b) (b1 : b < ring.length) :
    gI (kindRow ring k) a = gI (kindRow ring k) b ↔ ordOf (namesAt ring a k k) = ordOf (namesAt ring b k k) := by
  have hl : (kindKeys ring k).length = ring.length := by simp [kindKeys]
  unfold kindRow
  rw [gI_num_eq _ _ _ a0 (by omega) b0 (by omega), kindKeys_get _ _ _ a0 a1, kindKeys_get _ _ _ b0 b1]
  exact ⟨Option.some.inj, congrArg some⟩

/-! ### patterns -/
def Pat (ring : List Int) (g a b : Int) : Prop := ∀ i j : Int, -g ≤ i → i ≤ g → -g ≤ j → j ≤ g → (nm ring (a + i) < nm ring (a + j) ↔ nm ring (b + i) < nm ring (b + j))
theorem nm_mod (ring : List Int) (z i : Int) : nm ring (z % (ring.length : Int) + i) = nm ring (z + i) := by
  unfold nm
  rw [Int.emod_add_emod]
theorem namesAt_length (ring : List Int) (h l r : Int) : (namesAt ring h l r).length = (r + 1 + l).toNat := by simp [namesAt]
theorem namesAt_get (ring : List Int) (h l r : Int) (i : Nat) (hi : i < (namesAt ring h l r).length) : (namesAt ring h l r)[i] = nm ring (h + (-l + (i : Int))) := by
  simp [namesAt]
theorem alike_names {ring : List Int} {g a b l r : Int} (p : Pat ring g a b) (l0 : 0 ≤ l) (l1 : l ≤ g) (r0 : 0 ≤ r) (r1 : r ≤ g) : Alike (namesAt ring a l r) (namesAt ring b l r) := by
  refine ⟨by rw [namesAt_length, namesAt_length], fun i j hi hj hi' hj' => ?_⟩
  rw [namesAt_get, namesAt_get, namesAt_get, namesAt_get]
  rw [namesAt_length] at hi hj
  exact p _ _ (by omega) (by omega) (by omega) (by omega)
theorem pat_of_alike {ring : List Int} {g a b : Int} (h : Alike (namesAt ring a g g) (namesAt ring b g g)) : Pat ring g a b := by
  obtain ⟨_, q⟩ := h
  intro i j i0 i1 j0 j1
  have hi : (i + g).toNat < (namesAt ring a g g).length := by rw [namesAt_length]; omega
  have hj : (j + g).toNat < (namesAt ring a g g).length := by rw [namesAt_length]; omega
  have hi' : (i + g).toNat < (namesAt ring b g g).length := by rw [namesAt_length]; omega
  have hj' : (j + g).toNat < (namesAt ring b g g).length := by rw [namesAt_length]; omega
  have z := q _ _ hi hj hi' hj'
  rw [namesAt_get, namesAt_get, namesAt_get, namesAt_get] at z
  have e1 : (-g + (((i + g).toNat : Nat) : Int)) = i := by omega
  have e2 : (-g + (((j + g).toNat : Nat) : Int)) = j := by omega
  rw [e1, e2] at z
  exact z
theorem Pat.mono {ring : List Int} {g g' a b : Int} (p : Pat ring g a b) (h : g' ≤ g) : Pat ring g' a b := fun i j a1 a2 a3 a4 => p i j (by omega) (by omega) (by omega) (by omega)
theorem Pat.prev {ring : List Int} {g a b : Int} (p : Pat ring (g + 1) a b) : Pat ring g (prv ring.length a) (prv ring.length b) := fun i j a1 a2 a3 a4 => by
  have q := p (-1 + i) (-1 + j) (by omega) (by omega) (by omega) (by omega)
  unfold prv
  rw [nm_mod, nm_mod, nm_mod, nm_mod]
  have e1 : a - 1 + i = a + (-1 + i) := by omega
  have e2 : a - 1 + j = a + (-1 + j) := by omega
  have e3 : b - 1 + i = b + (-1 + i) := by omega
  have e4 : b - 1 + j = b + (-1 + j) := by omega
  rw [e1, e2, e3, e4]; exact q
theorem Pat.next {ring : List Int} {g a b : Int} (p : Pat ring (g + 1) a b) : Pat ring g (nxt ring.length a) (nxt ring.length b) := fun i j a1 a2 a3 a4 => by
  have q := p (1 + i) (1 + j) (by omega) (by omega) (by omega) (by omega)
  unfold nxt
  rw [nm_mod, nm_mod, nm_mod, nm_mod]
  have e1 : a + 1 + i = a + (1 + i) := by omega
  have e2 : a + 1 + j = a + (1 + j) := by omega
  have e3 : b + 1 + i = b + (1 + i) := by omega
  have e4 : b + 1 + j = b + (1 + j) := by omega
  rw [e1, e2, e3, e4]; exact q

/-! ### what is alike stays alike -/
structure Sim (ring : List Int) (g : Nat) (st : Stt) : Prop where
  len1 : st.1.length = ring.length
  len2 : st.2.length = ring.length
  see : ∀ a : Int, 0 ≤ a → a < ring.length → 0 ≤ (gS st.2 a).1 ∧ (gS st.2 a).1 ≤ g ∧ 0 ≤ (gS st.2 a).2 ∧ (gS st.2 a).2 ≤ g
  pat : ∀ a b : Int, 0 ≤ a → a < ring.length → 0 ≤ b → b < ring.length → Pat ring g a b → gI st.1 a = gI st.1 b ∧ gS st.2 a = gS st.2 b
theorem gI_rep (n : Nat) (a : Int) (h0 : 0 ≤ a) (h1 : a < n) : gI (List.replicate n 0) a = 0 := by
  unfold gI
  rw [List.getD_eq_getElem?_getD, List.getElem?_replicate]
  split <;> rfl
theorem gS_rep (n : Nat) (a : Int) (h0 : 0 ≤ a) (h1 : a < n) : gS (List.replicate n (0, 0)) a = (0, 0) := by
  unfold gS
  rw [List.getD_eq_getElem?_getD, List.getElem?_replicate]
  split <;> rfl
theorem sim_ini (ring : List Int) : Sim ring 0 (ini ring.length) := by
  refine ⟨by simp [ini], by simp [ini], fun a a0 a1 => ?_, fun a b a0 a1 b0 b1 _ => ?_⟩
  · show 0 ≤ (gS (List.replicate ring.length (0, 0)) a).1 ∧ _
    rw [show gS (ini ring.length).2 a = (0, 0) from gS_rep _ _ a0 a1, gS_rep _ _ a0 a1]
    simp
  · rw [show gI (ini ring.length).1 a = 0 from gI_rep _ _ a0 a1, show gI (ini ring.length).1 b = 0 from gI_rep _ _ b0 b1,
      show gS (ini ring.length).2 a = (0, 0) from gS_rep _ _ a0 a1, show gS (ini ring.length).2 b = (0, 0) from gS_rep _ _ b0 b1]
    exact ⟨rfl, rfl⟩
theorem tl_nil (h s : Int) : tl [] h s = 0 := by simp [tl]
theorem sightAt_nil (s : List (Int × Int)) (h : Int) : sightAt s [] h = gS s h := by
  unfold sightAt
  rw [tl_nil, tl_nil]
  simp
theorem heard_nil (row : List Int) (h s : Int) : heard row [] h s = (0, 0) := by
  unfold heard
  rw [tl_nil]
  simp
theorem mx_le {i j k : Int} (h1 : i ≤ k) (h2 : j ≤ k) : mx i j ≤ k := by unfold mx; split <;> omega
theorem mx_ge {i j k : Int} (h1 : k ≤ i) : k ≤ mx i j := by unfold mx; split <;> omega
theorem sim_stp {ring : List Int} {g : Nat} {st : Stt} {t : Tr} (S : Sim ring g st) (T : Tells ring.length st.1 t) : Sim ring (g + if t = [] then 0 else 1) (stp ring st t) := by
  by_cases ht : t = []
  · subst ht
    simp only [if_true]
    have es : ∀ a : Int, 0 ≤ a → a < ring.length → gS (sightsB st.2 []) a = gS st.2 a := fun a a0 a1 => by
      rw [gS_sightsB _ _ _ a0 (by rw [S.len2]; exact a1), sightAt_nil]
    refine ⟨by show (rowB _ _ _ _).length = _; rw [rowB_length], by show (sightsB _ _).length = _; rw [sightsB_length, S.len2], fun a a0 a1 => ?_, fun a b a0 a1 b0 b1 p => ?_⟩
    · show 0 ≤ (gS (sightsB st.2 []) a).1 ∧ _ ∧ _ ∧ (gS (sightsB st.2 []) a).2 ≤ _
      have q := S.see a a0 a1
      show 0 ≤ (gS (sightsB st.2 []) a).1 ∧ (gS (sightsB st.2 []) a).1 ≤ _ ∧ 0 ≤ (gS (sightsB st.2 []) a).2 ∧ (gS (sightsB st.2 []) a).2 ≤ _
      rw [es a a0 a1]
      exact q
    · obtain ⟨e1, e2⟩ := S.pat a b a0 a1 b0 b1 p
      have es' : gS (sightsB st.2 []) a = gS (sightsB st.2 []) b := by rw [es a a0 a1, es b b0 b1, e2]
      refine ⟨?_, es'⟩
      show gI (rowB ring st.1 [] (sightsB st.2 [])) a = gI (rowB ring st.1 [] (sightsB st.2 [])) b
      rw [gI_rowB _ _ _ _ _ _ a0 a1 b0 b1]
      unfold keyAt
      rw [heard_nil, heard_nil, heard_nil, heard_nil, e1, es']
      have q := S.see b b0 b1
      rw [← es b b0 b1] at q
      rw [ord_of_alike (alike_names p q.1 q.2.1 q.2.2.1 q.2.2.2)]
  · simp only [if_neg ht]
    have hn : ∀ a : Int, 0 ≤ a → a < ring.length → 0 < ring.length := fun a a0 a1 => by omega
    have gs : ∀ a : Int, 0 ≤ a → a < ring.length → gS (sightsB st.2 t) a = sightAt st.2 t a := fun a a0 a1 => gS_sightsB _ _ _ a0 (by rw [S.len2]; exact a1)
    have see : ∀ a : Int, 0 ≤ a → a < ring.length → 0 ≤ (gS (sightsB st.2 t) a).1 ∧ (gS (sightsB st.2 t) a).1 ≤ ((g + 1 : Nat) : Int) ∧ 0 ≤ (gS (sightsB st.2 t) a).2 ∧ (gS (sightsB st.2 t) a).2 ≤ ((g + 1 : Nat) : Int) := fun a a0 a1 => by
      rw [gs a a0 a1]
      have q := S.see a a0 a1
      have hp := prv_lt (hn a a0 a1) a
      have hx := nxt_lt (hn a a0 a1) a
      have qp := S.see _ hp.1 hp.2
      have qx := S.see _ hx.1 hx.2
      unfold sightAt
      rw [S.len2]
      refine ⟨?_, ?_, ?_, ?_⟩
      · show 0 ≤ ite _ _ _
        split
        · exact mx_ge q.1
        · exact q.1
      · show ite _ _ _ ≤ _
        split
        · exact mx_le (by omega) (by omega)
        · omega
      · show 0 ≤ ite _ _ _
        split
        · exact mx_ge q.2.2.1
        · exact q.2.2.1
      · show ite _ _ _ ≤ _
        split
        · exact mx_le (by omega) (by omega)
        · omega
    refine ⟨by show (rowB _ _ _ _).length = _; rw [rowB_length], by show (sightsB _ _).length = _; rw [sightsB_length, S.len2], see, fun a b a0 a1 b0 b1 p => ?_⟩
    have p : Pat ring ((g : Int) + 1) a b := by
      have e : ((g + 1 : Nat) : Int) = (g : Int) + 1 := by omega
      rw [e] at p; exact p
    have pa := prv_lt (hn a a0 a1) a
    have na := nxt_lt (hn a a0 a1) a
    have pb := prv_lt (hn b b0 b1) b
    have nb := nxt_lt (hn b b0 b1) b
    obtain ⟨e1, e2⟩ := S.pat a b a0 a1 b0 b1 (p.mono (by omega))
    obtain ⟨p1, p2⟩ := S.pat _ _ pa.1 pa.2 pb.1 pb.2 p.prev
    obtain ⟨x1, x2⟩ := S.pat _ _ na.1 na.2 nb.1 nb.2 p.next
    obtain ⟨_, tp⟩ := T _ _ pa.1 pa.2 pb.1 pb.2 p1
    obtain ⟨tx, _⟩ := T _ _ na.1 na.2 nb.1 nb.2 x1
    have es' : gS (sightsB st.2 t) a = gS (sightsB st.2 t) b := by
      rw [gs a a0 a1, gs b b0 b1]
      unfold sightAt
      rw [S.len2, tp, tx, e2, p2, x2]
    refine ⟨?_, es'⟩
    show gI (rowB ring st.1 t (sightsB st.2 t)) a = gI (rowB ring st.1 t (sightsB st.2 t)) b
    rw [gI_rowB _ _ _ _ _ _ a0 a1 b0 b1]
    unfold keyAt heard
    rw [tp, tx, p1, x1, e1, es']
    have q := see b b0 b1
    have e : ((g + 1 : Nat) : Int) = (g : Int) + 1 := by omega
    rw [e] at q
    rw [ord_of_alike (alike_names p q.1 q.2.1 q.2.2.1 q.2.2.2)]
theorem CompLog.front {ring : List Int} {log : List Tr} {t : Tr} (C : CompLog ring (log ++ [t])) : CompLog ring log := fun k u h => by
  have hk : k < log.length := (List.getElem?_eq_some_iff.mp h).1
  have q := C k u (by rw [List.getElem?_append_left hk]; exact h)
  rw [List.take_append_of_le_length (Nat.le_of_lt hk)] at q
  exact q
theorem CompLog.last {ring : List Int} {log : List Tr} {t : Tr} (C : CompLog ring (log ++ [t])) : TurnOk ring.length t ∧ Tells ring.length (stOf ring log).1 t := by
  have q := C log.length t (by simp)
  rw [List.take_left] at q
  exact q
theorem CompLog.snoc {ring : List Int} {log : List Tr} {t : Tr} (C : CompLog ring log) (h1 : TurnOk ring.length t) (h2 : Tells ring.length (stOf ring log).1 t) : CompLog ring (log ++ [t]) := fun k u h => by
  by_cases hk : k < log.length
  · rw [List.getElem?_append_left hk] at h
    rw [List.take_append_of_le_length (Nat.le_of_lt hk)]
    exact C k u h
  · have hl := (List.getElem?_eq_some_iff.mp h).1
    rw [List.length_append, List.length_singleton] at hl
    have e : k = log.length := by omega
    subst e
    rw [List.getElem?_append_right (Nat.le_refl _)] at h
    simp at h
    subst h
    rw [List.take_left]
    exact ⟨h1, h2⟩
theorem CompLog.nil (ring : List Int) : CompLog ring [] := fun k t h => by simp at h
theorem sim_log (ring : List Int) (log : List Tr) : CompLog ring log → Sim ring (gone log) (stOf ring log) := by
  refine snoc_ind (P := fun log => CompLog ring log → Sim ring (gone log) (stOf ring log)) (fun _ => ?_) (fun l t ih C => ?_) log
  · exact sim_ini ring
  · rw [stOf_snoc, gone_snoc]
    exact sim_stp (ih C.front) C.last.2
end K62
namespace K62
/-! ### sums over a turn -/
theorem tl_cons (e : Int × Int × Int) (t : Tr) (h s : Int) : tl (e :: t) h s = (if e.1 = h ∧ e.2.1 = s then e.2.2 else 0) + tl t h s := by
  unfold tl
  rw [List.filter_cons]
  by_cases c : e.1 = h ∧ e.2.1 = s
  · rw [if_pos (decide_eq_true c), if_pos c]
    simp
  · rw [if_neg (by simpa using c), if_neg c]
    omega
theorem letters_cons (e : Int × Int × Int) (t : Tr) : letters (e :: t) = e.2.2 + letters t := by
  unfold letters
  simp
theorem tl_nonneg : ∀ (t : Tr), (∀ e ∈ t, 0 < e.2.2) → ∀ h s, 0 ≤ tl t h s
  | [], _, h, s => by rw [tl_nil]; omega
  | e :: t, p, h, s => by
    rw [tl_cons]
    have ih := tl_nonneg t (fun x hx => p x (List.mem_cons_of_mem _ hx)) h s
    have := p e (by simp)
    split <;> omega
theorem letters_nonneg : ∀ (t : Tr), (∀ e ∈ t, 0 < e.2.2) → 0 ≤ letters t
  | [], _ => by simp [letters]
  | e :: t, p => by
    rw [letters_cons]
    have ih := letters_nonneg t (fun x hx => p x (List.mem_cons_of_mem _ hx))
    have := p e (by simp)
    omega
theorem one_of (e : Int × Int × Int) (s : Int) (he : 0 ≤ e.2.2) : ∀ S : List Int, S.Nodup → (S.map fun b => if e.1 = b ∧ e.2.1 = s then e.2.2 else 0).sum ≤ e.2.2
  | [], _ => by simpa using he
  | b :: S, nd => by
    obtain ⟨h1, h2⟩ := List.nodup_cons.mp nd
    rw [List.map_cons, List.sum_cons]
    by_cases c : e.1 = b ∧ e.2.1 = s
    · rw [if_pos c]
      have z : (S.map fun b => if e.1 = b ∧ e.2.1 = s then e.2.2 else 0).sum = 0 := by
        have : (S.map fun b => if e.1 = b ∧ e.2.1 = s then e.2.2 else 0) = S.map fun _ => (0 : Int) := List.map_congr_left fun x hx => by
          rw [if_neg]
          rintro ⟨q, _⟩
          exact h1 (by rw [← c.1, q]; exact hx)
        rw [this]
        clear this
        induction S with
        | nil => rfl
        | cons x r ih =>
          rw [List.map_cons, List.sum_cons, ih (List.nodup_cons.mpr ⟨fun q => h1 (List.mem_cons_of_mem _ q), (List.nodup_cons.mp h2).2⟩) (fun q => h1 (List.mem_cons_of_mem _ q)) (List.nodup_cons.mp h2).2]
          rfl
      rw [z]; omega
    · rw [if_neg c]
      have := one_of e s he S h2
      omega
theorem sum_add (f g : Int → Int) : ∀ S : List Int, (S.map fun b => f b + g b).sum = (S.map f).sum + (S.map g).sum
  | [] => rfl
  | b :: S => by
    rw [List.map_cons, List.map_cons, List.map_cons, List.sum_cons, List.sum_cons, List.sum_cons, sum_add f g S]
    omega
theorem tl_sum_le (s : Int) (S : List Int) (nd : S.Nodup) : ∀ t : Tr, (∀ e ∈ t, 0 < e.2.2) → (S.map fun b => tl t b s).sum ≤ letters t
  | [], _ => by
    have : (S.map fun b => tl [] b s) = S.map fun _ => (0 : Int) := List.map_congr_left fun x _ => tl_nil x s
    rw [this]
    clear this nd
    induction S with
    | nil => simp [letters]
    | cons x r ih => rw [List.map_cons, List.sum_cons]; simpa using ih
  | e :: t, p => by
    have ih := tl_sum_le s S nd t (fun x hx => p x (List.mem_cons_of_mem _ hx))
    have he := p e (by simp)
    have : (S.map fun b => tl (e :: t) b s) = S.map fun b => (if e.1 = b ∧ e.2.1 = s then e.2.2 else 0) + tl t b s := List.map_congr_left fun x _ => tl_cons e t x s
    rw [this, sum_add, letters_cons]
    have := one_of e s (by omega) S nd
    omega
theorem sum_ge_len : ∀ (S : List Int) (f : Int → Int), (∀ b ∈ S, 1 ≤ f b) → (S.length : Int) ≤ (S.map f).sum
  | [], _, _ => by simp
  | b :: S, f, h => by
    have ih := sum_ge_len S f fun x hx => h x (List.mem_cons_of_mem _ hx)
    have := h b (by simp)
    rw [List.map_cons, List.sum_cons, List.length_cons]
    omega
/-- who tells -/
theorem tl_pos_of_mem {t : Tr} (p : ∀ e ∈ t, 0 < e.2.2) : ∀ e ∈ t, 0 < tl t e.1 e.2.1 := by
  induction t with
  | nil => intro e he; simp at he
  | cons x t ih =>
    have p' : ∀ e ∈ t, 0 < e.2.2 := fun y hy => p y (List.mem_cons_of_mem _ hy)
    intro e he
    rw [tl_cons]
    rcases List.mem_cons.mp he with c | c
    · subst c
      rw [if_pos ⟨rfl, rfl⟩]
      have := p e (by simp)
      have := tl_nonneg t p' e.1 e.2.1
      omega
    · have := ih p' e c
      have := p x (by simp)
      split <;> omega

/-! ### the least of the counts -/
theorem min?_le : ∀ (l : List Int) (m : Int), l.min? = some m → (∀ y ∈ l, m ≤ y) ∧ m ∈ l := fun l m h => by
  have := List.min?_eq_some_iff.mp h
  exact ⟨this.2, this.1⟩
theorem min?_of {l : List Int} {m : Int} (h1 : m ∈ l) (h2 : ∀ y ∈ l, m ≤ y) : l.min? = some m := List.min?_eq_some_iff.mpr ⟨h1, h2⟩
theorem few_eq {row : List Int} {m : Int} (h1 : m ∈ counts row) (h2 : ∀ y ∈ counts row, m ≤ y) : few row = m := by
  unfold few
  rw [min?_of h1 h2]
  rfl
theorem few_le (row : List Int) (x : Int) (hx : x ∈ row) : few row ≤ ((row.count x : Nat) : Int) := by
  unfold few
  cases e : (counts row).min? with
  | none =>
    rw [List.min?_eq_none_iff] at e
    unfold counts at e
    rw [List.map_eq_nil_iff] at e
    rw [e] at hx
    simp at hx
  | some m => exact (min?_le _ _ e).1 _ (List.mem_map.mpr ⟨x, hx, rfl⟩)
theorem IsFl.uniq {ring : List Int} {m k : Nat} (h : IsFl ring m) (g : IsFl ring k) : m = k := by
  rcases Nat.lt_trichotomy m k with c | c | c
  · have := g.1 m c
    have := h.2
    omega
  · exact c
  · have := h.1 k c
    have := g.2
    omega

/-! ### how many houses are of a kind -/
theorem count_filter (row : List Int) (x : Int) : ((List.range row.length).filter fun (h : Nat) => decide (gI row (h : Int) = x)).length = row.count x := by
  refine snoc_ind (P := fun row => ((List.range row.length).filter fun (h : Nat) => decide (gI row (h : Int) = x)).length = row.count x) (by simp) (fun l y ih => ?_) row
  rw [List.length_append, List.length_singleton, List.range_succ, List.filter_append, List.length_append, List.count_append, ← ih]
  congr 1
  · congr 1
    refine List.filter_congr fun h hh => ?_
    have hh := List.mem_range.mp hh
    have : gI (l ++ [y]) (h : Int) = gI l (h : Int) := by
      unfold gI
      rw [List.getD_eq_getElem?_getD, List.getD_eq_getElem?_getD, List.getElem?_append_left (by omega)]
    rw [this]
  · have : gI (l ++ [y]) (l.length : Int) = y := by
      unfold gI
      rw [List.getD_eq_getElem?_getD, List.getElem?_append_right (by omega)]
      simp
    by_cases c : y = x
    · subst c; simp [List.filter_cons, this]
    · simp [List.filter_cons, this, c]
theorem gI_mem {row : List Int} {h : Int} (h0 : 0 ≤ h) (h1 : h < row.length) : gI row h ∈ row := by
  unfold gI
  rw [List.getD_eq_getElem?_getD, List.getElem?_eq_getElem (by omega : h.toNat < row.length)]
  exact List.getElem_mem _
theorem kindRow_length (ring : List Int) (k : Int) : (kindRow ring k).length = ring.length := by
  unfold kindRow kindKeys; rw [num_length]; simp

/-- a turn with letters -/
theorem turn_bound {ring : List Int} {g : Nat} {st : Stt} {t : Tr} (S : Sim ring g st) (K : TurnOk ring.length t) (T : Tells ring.length st.1 t) (ht : t ≠ []) : few (kindRow ring g) ≤ letters t := by
  obtain ⟨nd, ok⟩ := K
  have pos : ∀ e ∈ t, 0 < e.2.2 := fun e he => (ok e he).2.2.2
  cases t with
  | nil => exact absurd rfl ht
  | cons e r =>
    obtain ⟨e0, e1, e2, e3⟩ := ok e (by simp)
    have he := tl_pos_of_mem pos e (by simp)
    have hl := kindRow_length ring g
    have hc := few_le (kindRow ring g) (gI (kindRow ring g) e.1) (gI_mem e0 (by omega))
    rw [← count_filter] at hc
    generalize hS : (List.range (kindRow ring g).length).filter (fun (h : Nat) => decide (gI (kindRow ring g) (h : Int) = gI (kindRow ring g) e.1)) = L at hc
    have ndL : L.Nodup := by rw [← hS]; exact List.Pairwise.filter _ List.nodup_range
    have nd2 : (L.map fun (h : Nat) => (h : Int)).Nodup := by
      rw [List.nodup_iff_pairwise_ne, List.pairwise_map]
      exact (List.nodup_iff_pairwise_ne.mp ndL).imp fun q z => q (by omega)
    have s1 := tl_sum_le e.2.1 (L.map fun (h : Nat) => (h : Int)) nd2 (e :: r) pos
    have s2 := sum_ge_len (L.map fun (h : Nat) => (h : Int)) (fun b => tl (e :: r) b e.2.1) fun b hb => by
      obtain ⟨h, hh, rfl⟩ := List.mem_map.mp hb
      rw [← hS] at hh
      obtain ⟨q1, q2⟩ := List.mem_filter.mp hh
      have q1 := List.mem_range.mp q1
      have q2 := of_decide_eq_true q2
      have b1 : (h : Int) < ring.length := by omega
      have q3 := (gI_kindRow ring g _ _ (by omega) b1 e0 (by omega)).mp q2
      have q4 := (S.pat _ _ (by omega) b1 e0 (by omega) (pat_of_alike (alike_of_ord q3))).1
      have q5 := T _ _ (by omega) b1 e0 (by omega) q4
      rcases e2 with z | z
      · rw [z] at he ⊢; rw [q5.1]; omega
      · rw [z] at he ⊢; rw [q5.2]; omega
    rw [List.length_map] at s2
    omega
/-- none is alone ahead of the floor -/
theorem no_alone {ring : List Int} {g : Nat} {st : Stt} (S : Sim ring g st) (hf : 1 < few (kindRow ring g)) (h : Int) (h0 : 0 ≤ h) (h1 : h < ring.length) : 1 < st.1.count (gI st.1 h) := by
  have hl := kindRow_length ring g
  have hc := few_le (kindRow ring g) (gI (kindRow ring g) h) (gI_mem h0 (by omega))
  have hc2 : 1 < (kindRow ring g).count (gI (kindRow ring g) h) := by omega
  rw [← count_filter] at hc2 ⊢
  refine Nat.lt_of_lt_of_le hc2 ?_
  rw [hl, S.len1]
  rw [← List.countP_eq_length_filter, ← List.countP_eq_length_filter]
  refine List.countP_mono_left fun x hx q => ?_
  have hx := List.mem_range.mp hx
  have q := of_decide_eq_true q
  have b1 : (x : Int) < ring.length := by omega
  exact decide_eq_true (S.pat _ _ (by omega) b1 h0 h1 (pat_of_alike (alike_of_ord ((gI_kindRow ring g _ _ (by omega) b1 h0 h1).mp q)))).1
/-- all letters so far against the floor's rows so far -/
def flo (ring : List Int) (m : Nat) : Int := ((List.range m).map fun (k : Nat) => few (kindRow ring (k : Int))).sum
theorem flo_succ (ring : List Int) (m : Nat) : flo ring (m + 1) = flo ring m + few (kindRow ring m) := by
  unfold flo
  rw [List.range_succ, List.map_append, List.sum_append]
  simp
theorem total_bound {ring : List Int} {m : Nat} (log : List Tr) : CompLog ring log → flo ring (min (gone log) m) ≤ total log := by
  refine snoc_ind (P := fun log => CompLog ring log → flo ring (min (gone log) m) ≤ total log) (fun _ => ?_) (fun l t ih C => ?_) log
  · simp [gone, total, flo]
  · have ih := ih C.front
    rw [gone_snoc, total_snoc]
    have pos := letters_nonneg t fun e he => (C.last.1.2 e he).2.2.2
    by_cases ht : t = []
    · rw [if_pos ht]
      show flo ring (min (gone l) m) ≤ _
      omega
    · rw [if_neg ht]
      by_cases c : gone l < m
      · have e1 : min (gone l + 1) m = gone l + 1 := by omega
        have e2 : min (gone l) m = gone l := by omega
        rw [e1, flo_succ]
        rw [e2] at ih
        have := turn_bound (sim_log ring l C.front) C.last.1 C.last.2 ht
        omega
      · have e1 : min (gone l + 1) m = min (gone l) m := by omega
        rw [e1]
        omega
/-- where some house is alone, no fewer letters than the floor -/
theorem alone_bound {ring : List Int} {m : Nat} {log : List Tr} (C : CompLog ring log) (F : IsFl ring m) (h : Int) (h0 : 0 ≤ h) (h1 : h < ring.length)
    (ha : (stOf ring log).1.count (gI (stOf ring log).1 h) = 1) : flo ring m ≤ total log := by
  have hg : m ≤ gone log := by
    refine Nat.le_of_not_lt fun c => ?_
    have := no_alone (sim_log ring log C) (F.1 _ c) h h0 h1
    omega
  have := total_bound (m := m) log C
  have e : min (gone log) m = m := by omega
  rw [e] at this
  exact this

/-! ### the floor's end -/
theorem exists_max : ∀ l : List Int, l ≠ [] → ∃ x ∈ l, ∀ y ∈ l, y ≤ x
  | [], h => absurd rfl h
  | [x], _ => ⟨x, by simp, fun y hy => by rw [List.mem_singleton] at hy; omega⟩
  | x :: z :: r, _ => by
    obtain ⟨w, hw, q⟩ := exists_max (z :: r) (by simp)
    by_cases c : w ≤ x
    · refine ⟨x, by simp, fun y hy => ?_⟩
      rcases List.mem_cons.mp hy with e | e
      · omega
      · have := q y e; omega
    · refine ⟨w, List.mem_cons_of_mem _ hw, fun y hy => ?_⟩
      rcases List.mem_cons.mp hy with e | e
      · omega
      · exact q y e
theorem nm_mem {ring : List Int} (hr : ring ≠ []) (z : Int) : nm ring z ∈ ring := by
  have hl : 0 < ring.length := List.length_pos_iff.mpr hr
  have h1 : (z % (ring.length : Int)).toNat < ring.length := by
    have a := Int.emod_nonneg z (b := (ring.length : Int)) (by omega)
    have b := Int.emod_lt_of_pos z (b := (ring.length : Int)) (by omega)
    omega
  unfold nm
  rw [List.getD_eq_getElem?_getD, List.getElem?_eq_getElem h1]
  exact List.getElem_mem _
theorem nm_at {ring : List Int} {i : Nat} (h : i < ring.length) : nm ring (i : Int) = ring[i] := by
  unfold nm
  have e : ((i : Int) % (ring.length : Int)).toNat = i := by
    rw [Int.emod_eq_of_lt (by omega) (by omega)]; omega
  rw [e, List.getD_eq_getElem?_getD, List.getElem?_eq_getElem h]
  rfl
theorem nm_shift {ring : List Int} (z : Int) : nm ring (z - ring.length) = nm ring z := by
  unfold nm
  have e : (z - (ring.length : Int)) % (ring.length : Int) = z % (ring.length : Int) := by
    rw [Int.sub_emod_right]
  rw [e]
theorem nm_shift' {ring : List Int} (z : Int) : nm ring (z + ring.length) = nm ring z := by
  unfold nm
  have e : (z + (ring.length : Int)) % (ring.length : Int) = z % (ring.length : Int) := by
    rw [Int.add_emod_right]
  rw [e]
theorem few_end {ring : List Int} (hr : ring ≠ []) (nd : ring.Nodup) {k : Nat} (hk : ring.length ≤ 2 * k + 1) : few (kindRow ring k) ≤ 1 := by
  obtain ⟨x, hx, q⟩ := exists_max ring hr
  obtain ⟨i, hi, rfl⟩ := List.getElem_of_mem hx
  have hl := kindRow_length ring k
  have hc := few_le (kindRow ring k) (gI (kindRow ring k) (i : Int)) (gI_mem (by omega) (by omega))
  suffices (kindRow ring k).count (gI (kindRow ring k) (i : Int)) ≤ 1 by omega
  rw [← count_filter, hl]
  have all : ∀ b ∈ (List.range ring.length).filter fun (h : Nat) => decide (gI (kindRow ring k) (h : Int) = gI (kindRow ring k) (i : Int)), b = i := fun b hb => by
    obtain ⟨h1, h2⟩ := List.mem_filter.mp hb
    have h1 := List.mem_range.mp h1
    have h2 := of_decide_eq_true h2
    have p := pat_of_alike (alike_of_ord ((gI_kindRow ring k _ _ (by omega) (by omega) (by omega) (by omega)).mp h2))
    -- no name in b's sight is greater than b's
    have top : ∀ j : Int, -(k : Int) ≤ j → j ≤ k → nm ring ((b : Int) + j) ≤ ring[b] := fun j j0 j1 => by
      have := p 0 j (by omega) (by omega) j0 j1
      rw [Int.add_zero, Int.add_zero, nm_at h1, nm_at hi] at this
      have le := q _ (nm_mem hr ((i : Int) + j))
      have : ¬ ring[b] < nm ring ((b : Int) + j) := fun c => by have := this.mp c; omega
      omega
    -- i is in b's sight
    have hib : ring[i] ≤ ring[b] := by
      by_cases c1 : (i : Int) - b > k
      · have := top ((i : Int) - b - ring.length) (by omega) (by omega)
        rw [show (b : Int) + ((i : Int) - b - ring.length) = (i : Int) - ring.length by omega, nm_shift, nm_at hi] at this
        exact this
      · by_cases c2 : (i : Int) - b < -k
        · have := top ((i : Int) - b + ring.length) (by omega) (by omega)
          rw [show (b : Int) + ((i : Int) - b + ring.length) = (i : Int) + ring.length by omega, nm_shift', nm_at hi] at this
          exact this
        · have := top ((i : Int) - b) (by omega) (by omega)
          rw [show (b : Int) + ((i : Int) - b) = (i : Int) by omega, nm_at hi] at this
          exact this
    have hbi := q _ (List.getElem_mem h1)
    have e : ring[b] = ring[i] := by omega
    exact (List.getElem_inj nd).mp e
  have nd2 : ((List.range ring.length).filter fun (h : Nat) => decide (gI (kindRow ring k) (h : Int) = gI (kindRow ring k) (i : Int))).Nodup := List.Pairwise.filter _ List.nodup_range
  generalize (List.range ring.length).filter (fun (h : Nat) => decide (gI (kindRow ring k) (h : Int) = gI (kindRow ring k) (i : Int))) = L at all nd2
  match L, all, nd2 with
  | [], _, _ => simp
  | [_], _, _ => simp
  | a :: b :: r, all, nd2 =>
    exfalso
    have e1 := all a (by simp)
    have e2 := all b (by simp)
    have := (List.nodup_cons.mp nd2).1
    rw [e1, e2] at this
    simp at this
end K62

set_option Elab.async false
set_option linter.all false
set_option maxRecDepth 100000
set_option maxHeartbeats 4000000
/-! rules over the hand layer that this claim needs -/
namespace L2
open PySem PySem.Spec PyProof.Rows

/-! ### tuples that are known to the object: their methods -/
/-- at a stands a tuple of xs, plain -/
def TupF (H : Hp) (a : Addr) (xs : List V) : Prop := ∃ o, H a = some (.frz o (.tup xs)) ∧ o.cls = .type "tuple" ∧ o.dict = none
theorem TupF.sq {K : PySem.W.Frag} {H : Hp} {a : Addr} {xs : List V} (h : TupF H a xs) : SqT K H a xs := let ⟨o, e, _⟩ := h; .inl (.inr ⟨o, e⟩)
theorem TupF.same {H H' : Hp} {a : Addr} {xs : List V} (s : Same H H') (h : TupF H a xs) : TupF H' a xs := let ⟨o, e, r⟩ := h; ⟨o, s _ _ e, r⟩
section
variable {X : Cx}
/-- tuple(list), the new tuple known -/
theorem call_tupleF : CallR X (.type "tuple") (fun xs H Q => ∃ p ys, xs = [.ref p] ∧ SqL X.K H p ys ∧ ∀ l o, H l = none → o.cls = .type "tuple" → o.dict = none → Q (.ref l) (upd H l (.frz o (.tup ys)))) := by
  intro pins s σ H xs us Q I r h
  obtain ⟨p, ys, rfl, hq, q⟩ := h
  obtain ⟨u, rfl, rx⟩ := vals1 r
  cases rx
  obtain ⟨its, r', pl, hz⟩ := I.list hq
  have hlen := r'.length
  refine call_tuple_list pl.isList (fun h' kp => ?_) (by simp only [List.size_toArray] <;> omega)
  have I1 : Inv X pins σ H { s with heap := h' } := I.kept (t' := s.toks) kp
  have I2 : Inv X pins σ (upd H h'.objs.size (.frz { cls := .type "tuple", data := .seq its.toArray } (.tup ys))) { s with heap := h'.push { cls := .type "tuple", data := .seq its.toArray } } :=
    I1.laid (t' := s.toks) (fun b o e => Heap.get?_push_of_some _ e) (Nat.le_refl _) (show ObjOk X.prog X.w _ _ _ (.frz _ (.tup ys)) from ⟨Heap.get?_push_size _ rfl, hz, its, r', IsTup.new _ _⟩)
  exact ⟨.ref h'.objs.size, _, I2, rfl, q _ _ (I1.hok.fresh (Nat.le_refl _)) rfl rfl⟩
/-- row.count(k), ints -/
def tTCnt (to ta : TE) : TE := fun σ H Q => to σ H fun x H1 => ∃ (a : Addr) (ns : List Int), x = .ref a ∧ TupF H1 a (ns.map V.int) ∧ ta σ H1 fun y H2 => ∃ k : Int, y = .int k ∧ TupF H2 a (ns.map V.int) ∧ Q (.int (ns.count k : Nat)) H2
variable {o e : Expr} {to ta : TE} {apos cpos : Pos}
theorem pe_tcount (ho : PE X o to) (he : PE X e ta) (hbase : attributeBase o "count" X.env (eval o X.env) = eval o X.env := by rfl)
    (hfew : ((backTo cpos (starEach [e] X.env)).all (fun x => !x.1) && (backToKw cpos (keywordEach [] X.env)).all (fun x => x.1.isSome)
      && decide (([e] : List Expr).length + ([] : List Keyword).length + (if ([] : List Keyword).isEmpty then 0 else 1) < 30)) = true := by rfl)
    (hline : (apos.endLine == cpos.line) = true := by rfl) (hs : backTo cpos (starEach [e] X.env) = [(false, eval e X.env)] := by rfl) :
    PE X (.Call (.Attribute o "count" apos) [e] [] cpos) (tTCnt to ta) := by
  refine ⟨fun pins s σ H Q I h => ?_⟩
  refine wpAny_Call_method_late hbase hfew hline rfl (thn (ho.run pins s σ H _ I h) fun v s1 ⟨x, H1, I1, r1, a, ns, ex, ⟨ob, hf, hc, hd⟩, q1⟩ => ?_)
  subst ex
  cases r1
  obtain ⟨hob, _⟩ := I1.hok a _ hf
  refine ⟨"tuple", "tuple.count", PySem.F.plainAttrs_tuple, PySem.F.slot_tuple_count, PySem.F.type_tuple_count, ⟨ob, hob, hc⟩, fun b eb => by cases eb; exact ⟨ob, hob, hd⟩, ?_⟩
  rw [hs]
  refine Calls.callWith_builtin rfl (Calls.evalArgs_plain (Calls.spliced_cons (thn (he.run pins s1 σ H1 _ I1 q1) fun iv s2 ⟨y, H2, I2, ry, k, ey, ⟨ob2, hf2, hc2, hd2⟩, q2⟩ => Calls.spliced_nil ?_)))
  subst ey
  obtain ⟨t, rfl⟩ := ry
  obtain ⟨hob2, hz, its, rv, ⟨⟨cls, dd, data, sl⟩, ho2, hcc, n, hdat⟩⟩ := I2.hok a _ hf2
  simp only at hcc hdat
  subst hcc hdat
  have hi := ints_of_vals rv
  refine call_meets PySem.F.slot_tuple_count ⟨_, ho2, rfl⟩ PySem.F.entry_tuple_count (PySem.F.args_tuple_count_2 _ _)
    (SeqAt.tuple_countAt a its.toArray n dd sl (.int k t) (eqk k)) ⟨ho2, fun y hy => (eqk_gives hi y (by simpa using hy)).at _ _, ?_⟩
  have ec : its.toArray.toList.countP (eqk k) = ns.count k := eqk_count hi
  refine ⟨.int (ns.count k : Nat), H2, I2.tok _, ⟨s2.toks, ?_⟩, q2⟩
  show Value.int ((its.toArray.toList.countP (eqk k) : Nat) : Int) s2.toks = Value.int ((ns.count k : Nat) : Int) s2.toks
  rw [ec]
end

/-! ### set(..) of ints: a list's, a tuple's -/
section
variable {P : Program} {w : World} {A : Around} {E : Value → Shared → Prop} {s : Shared}
set_option maxRecDepth 100000 in
set_option maxHeartbeats 3200000 in
theorem call_set_lstI {l : Addr} {items : Array Value} (ns : List Int) {Q : Value → Shared → Prop} (hh : A.handled = none) (hl : s.heap.IsList l items) (hit : IntsAre items.toList ns) (hb : ns.length + 1 < scanBound)
    (h : ∀ (h' : Heap) (tk c : Nat), SetR w h' s.heap.objs.size (fun j => decide (j ∈ ns)) c → c ≤ ns.length → (∀ b o, s.heap.get? b = some o → h'.get? b = some o) → Q (.ref s.heap.objs.size) { s with heap := h', toks := tk }) :
    wpAny (model P w) A (call (.type "set") [.ref l]) Q E s := by
  have hisz : items.size = ns.length := by
    have q := IntsAre.length hit
    rw [Array.length_toList] at q
    exact q
  obtain ⟨c, tl, hmro⟩ := F.called_set.mro
  have hmade := F.called_set.made
  have hsub := F.called_set.sub
  refine wpAny_call (codeAny_of_tree ?_)
  show wpAny _ _ (callAny (.type "set") _) _ _ _
  refine wpAny_pure ⟨Code.quiet_builtin _ (by decide +kernel), codeAny_builtin F.entry_type_call ?_⟩
  rw [Around.under_plain (weight_type_call_type "set" [.ref l] []) rfl]
  have h1 := F.called_set.notType
  have h2 := F.called_set.canCreate
  have hct := F.typeCall_set_1 (.ref l)
  repeat (any_goals (first | assumption | wp_step))
  refine codeAny_mono (code_set_led1 (.ref l) (E := E) (Q₁ := fun obj s₁ => obj = .ref s.heap.objs.size ∧ s₁ = { s with heap := s.heap.push { cls := .type "set", dict := none, data := .set #[] 0 (.fresh 0 0 (!w.params.followText "set-order")) } }) ⟨rfl, rfl⟩) fun r s₁ hr => ?_
  cases r with
  | error e => exact hr
  | ok fl =>
    cases fl with
    | ret obj =>
      obtain ⟨rfl, rfl⟩ := hr
      have hS : (s.heap.push { cls := .type "set", dict := none, data := .set #[] 0 (.fresh 0 0 (!w.params.followText "set-order")) }).get? s.heap.objs.size = some { cls := .type "set", dict := none, data := .set #[] 0 (.fresh 0 0 (!w.params.followText "set-order")) } := Heap.get?_push_size _ rfl
      have hT : Shared.TypeIs { s with heap := s.heap.push { cls := .type "set", dict := none, data := .set #[] 0 (.fresh 0 0 (!w.params.followText "set-order")) } } (.ref s.heap.objs.size) "set" := ⟨_, hS, rfl⟩
      have hli := F.called_set.init.lookup
      have hbi := F.called_set.init.bind (.ref s.heap.objs.size)
      repeat (any_goals (first | assumption | wp_step))
      refine codeAny_mono (codeAny_call_builtin (R := wants (fun r s₂ => r = .none ∧ ∃ h' tk c, s₂ = { s with heap := h', toks := tk } ∧ SetR w h' s.heap.objs.size (fun j => decide (j ∈ ns)) c ∧ c ≤ ns.length ∧
          (∀ b o, s.heap.get? b = some o → h'.get? b = some o)) E) F.called_set.init.plain F.entry_set_init (check_set_init_1 hT ?_)) fun r₂ s₂ hr₂ => ?_
      · obtain ⟨ol, hol, hcl, nl, hdl⟩ := hl
        obtain ⟨ocls, odict, odata, oslots⟩ := ol
        simp only at hcl hdl
        subst hcl; subst hdl
        have hol' : (s.heap.push { cls := .type "set", dict := none, data := .set #[] 0 (.fresh 0 0 (!w.params.followText "set-order")) }).get? l = some { cls := .type "list", dict := odict, data := .seq items nl, slots := oslots } := Heap.get?_push_of_some _ hol
        have hsls := F.sub_list_set
        have hslf := F.sub_list_frozenset
        have hne : (Value.type "list" == Value.type "dict") = false := by decide
        have hl1 : (s.heap.push { cls := .type "set", dict := none, data := .set #[] 0 (.fresh 0 0 (!w.params.followText "set-order")) }).IsList l items := ⟨_, hol', rfl, nl, rfl⟩
        unfold Builtin.«set.__init__» noKeywords Builtin.Frozenset.updateFrom
        generalize hPI : pyIter = PI
        wp_walk
        subst hPI
        refine wpAny_pyIter_list hl1 ?_
        refine wpAny_bind (wpAny_runValue ?_)
        have hlS : l < s.heap.objs.size := Heap.lt_size hol
        have hh3 : A.in1.in1.in1.handled = none := by simp [hh]
        have hneI : l ≠ (s.heap.push { cls := .type "set", dict := none, data := .set #[] 0 (.fresh 0 0 (!w.params.followText "set-order")) }).objs.size := by
          rw [Heap.size_push]; exact Nat.ne_of_lt (Nat.lt_succ_of_lt hlS)
        have hSf : s.heap.objs.size ∉ [(s.heap.push { cls := .type "set", dict := none, data := .set #[] 0 (.fresh 0 0 (!w.params.followText "set-order")) }).objs.size, l] := by
          rw [Heap.size_push]; simp only [List.mem_cons, List.mem_singleton, List.not_mem_nil, or_false, not_or]
          exact ⟨Nat.ne_of_lt (Nat.lt_succ_self _), Nat.ne_of_gt hlS⟩
        have hval : ∀ (i : Nat) (v : Value), items[i]? = some v → ∃ k t, ns[i]? = some k ∧ v = .int k t := fun i v hv => by
          have hi : i < ns.length := by rw [← hisz]; exact (Array.getElem?_eq_some_iff.mp hv).1
          obtain ⟨t, e⟩ := PyProof.Rows.IntsAre.int_at hit i v (by rw [Array.getElem?_toList]; exact hv)
          refine ⟨ns[i], t, List.getElem?_eq_getElem hi, ?_⟩
          rw [e, List.getD_eq_getElem?_getD, List.getElem?_eq_getElem hi] <;> rfl
        refine set_update_ints ((Walks.list hh3 _ l hneI items).toS) s.heap.objs.size
          hSf ns hisz hb hval (items.size - 0) 0 _ (by omega) (Nat.zero_le _)
          ⟨⟨_, Heap.get?_push_size _ rfl, rfl, rfl⟩, (hl1.push _)⟩ ?hS0 ?hR
        case hS0 =>
          have hget : ((s.heap.push { cls := .type "set", dict := none, data := .set #[] 0 (.fresh 0 0 (!w.params.followText "set-order")) }).push { cls := .type "list_iterator", data := .fields #[.ref l, .int 0 0] }).get? s.heap.objs.size
              = some { cls := .type "set", dict := none, data := .set #[] 0 (.fresh 0 0 (!w.params.followText "set-order")) } := Heap.get?_push_of_some _ hS
          exact ⟨0, Nat.le_refl 0, setR_new_at hget⟩
        case hR =>
          intro s' c' hm hc' hS'
          obtain ⟨h', g2, d', tk', os'⟩ := s'
          have eg : g2 = s.gens := hm.gens
          have ed : d' = s.drawn := hm.drawn
          have eo : os' = s.os := hm.os
          subst eg; subst ed; subst eo
          show wpAny _ _ _ _ _ _
          refine wpAny_pure ?_
          show wpAny _ _ (ret Value.none) _ _ _
          rw [hisz] at hc'
          refine wpAny_pure ⟨rfl, h', tk', c', rfl, hS', hc', fun b o e => ?_⟩
          have hb0 : b < s.heap.objs.size := Heap.lt_size e
          have hb1 : b ≠ s.heap.objs.size := Nat.ne_of_lt hb0
          have hb2 : b ≠ (s.heap.push { cls := .type "set", dict := none, data := .set #[] 0 (.fresh 0 0 (!w.params.followText "set-order")) }).objs.size := by
            rw [Heap.size_push]; exact Nat.ne_of_lt (Nat.lt_succ_of_lt hb0)
          exact hm.heap b o (by simp only [List.mem_cons, List.mem_singleton, List.not_mem_nil, or_false, not_or]; exact ⟨hb1, hb2⟩) (Heap.get?_push_of_some _ (Heap.get?_push_of_some _ e))
      · cases r₂ with
        | error e => exact hr₂
        | ok fl₂ =>
          cases fl₂ with
          | ret r =>
            obtain ⟨rfl, h', tk, c', rfl, hS', hc', hk'⟩ := hr₂
            repeat (any_goals (first | assumption | wp_step))
            exact h _ _ _ hS' hc' hk'
          | _ => exact hr₂.elim
    | _ => exact hr.elim
end
section
variable {X : Cx}
/-- set(ints), a list or a tuple -/
theorem cr_setI (hc : X.calm = true) : CallR X (.type "set") (fun xs H Q => ∃ (p : Addr) (ns : List Int), xs = [.ref p] ∧ (SqL X.K H p (ns.map V.int) ∨ SqT X.K H p (ns.map V.int)) ∧ ns.length ≤ 1000 ∧
    ∀ l c, H l = none → c ≤ ns.length → Q (.ref l) (upd H l (SetO X.w l (fun j => decide (j ∈ ns)) c))) := by
  intro pins s σ H xs us Q I r h
  obtain ⟨p, ns, rfl, hq, hlen, q⟩ := h
  obtain ⟨u, rfl, rx⟩ := vals1 r
  cases rx
  have hb : ns.length + 1 < scanBound := by
    have : (1002 : Nat) < scanBound := by decide +kernel
    omega
  have fin : ∀ (h' : Heap) (tk c : Nat), SetR X.w h' s.heap.objs.size (fun j => decide (j ∈ ns)) c → c ≤ ns.length → (∀ b o, s.heap.get? b = some o → h'.get? b = some o) → EP X pins σ Q (.ref s.heap.objs.size) { s with heap := h', toks := tk } := fun h' tk c R hc' kp =>
    ⟨.ref s.heap.objs.size, _, I.laid (t' := tk) kp (Nat.le_refl _) (setO_new R), rfl, q _ c (I.hok.fresh (Nat.le_refl _)) hc'⟩
  rcases hq with hq | hq
  · obtain ⟨its, r', pl, hz⟩ := I.list hq
    exact call_set_lstI ns (I.ok.hd hc) pl.isList (by simpa using ints_of_vals r') hb fin
  · obtain ⟨its, r', pl, hz⟩ := I.tuple hq
    exact call_set_tupI ns (I.ok.hd hc) (show s.heap.IsTuple p its.toArray from pl) (by simpa using ints_of_vals r') hb fin
end
end L2

set_option Elab.async false
set_option linter.all false
set_option maxRecDepth 100000
set_option maxHeartbeats 4000000
namespace L2
open PySem PySem.Spec PyProof.Rows

/-! ### keys that are nested tuples -/
mutual
/-- over H the value v is the key k -/
inductive NK (H : Hp) : V → NestedKey → Prop
  | num (i : Int) : NK H (.int i) (.num i)
  | tup {a : Addr} {xs : List V} {ks : List NestedKey} : Rd H a (.tup xs) → NKs H xs ks → NK H (.ref a) (.tup ks)
inductive NKs (H : Hp) : List V → List NestedKey → Prop
  | nil : NKs H [] []
  | cons {v : V} {vs : List V} {k : NestedKey} {ks : List NestedKey} : NK H v k → NKs H vs ks → NKs H (v :: vs) (k :: ks)
end
/-- the tuples stand -/
def TSame (H H' : Hp) : Prop := ∀ a xs, Rd H a (.tup xs) → Rd H' a (.tup xs)
theorem Same.t {H H' : Hp} (s : Same H H') : TSame H H' := fun a xs h => by
  rcases h with h | ⟨o, h⟩
  · exact .inl (s _ _ h)
  · exact .inr ⟨o, s _ _ h⟩
theorem TSame.refl (H : Hp) : TSame H H := fun _ _ h => h
theorem TSame.trans {H H1 H2 : Hp} (a : TSame H H1) (b : TSame H1 H2) : TSame H H2 := fun p xs h => b p xs (a p xs h)
theorem TSame.upd {H : Hp} {p : Addr} {o u : HO} (h : H p = some u) (h1 : ∀ xs, u ≠ .tup xs) (h2 : ∀ ob xs, u ≠ .frz ob (.tup xs)) : TSame H (upd H p o) := fun a xs q => by
  rcases q with q | ⟨ob, q⟩
  · have : a ≠ p := fun e => by subst e; rw [h] at q; exact h1 xs (Option.some.inj q)
    exact .inl (by rw [upd_ne this]; exact q)
  · have : a ≠ p := fun e => by subst e; rw [h] at q; exact h2 ob xs (Option.some.inj q)
    exact .inr ⟨ob, by rw [upd_ne this]; exact q⟩
mutual
theorem NK.mono {H H' : Hp} (s : TSame H H') : ∀ {v : V} {k : NestedKey}, NK H v k → NK H' v k
  | _, _, .num i => .num i
  | _, _, .tup h t => .tup (s _ _ h) (NKs.mono s t)
theorem NKs.mono {H H' : Hp} (s : TSame H H') : ∀ {vs : List V} {ks : List NestedKey}, NKs H vs ks → NKs H' vs ks
  | _, _, .nil => .nil
  | _, _, .cons h t => .cons (NK.mono s h) (NKs.mono s t)
end
section
variable {P : Program} {w : World} {H : Hp} {h : Heap}
mutual
theorem NK.is (ok : HOk P w H h) : ∀ {v : V} {k : NestedKey} {u : Value}, NK H v k → RelV v u → NestedIs h k u
  | _, _, _, .num i, r => by
    obtain ⟨t, rfl⟩ := r
    exact .int i t
  | _, _, _, .tup hr ht, r => by
    cases r
    obtain ⟨_, its, rv, ⟨o, ho, hc, n, hd⟩⟩ := hr.ok ok
    exact .tup ho hc hd (NKs.is ok ht (by simpa using rv))
theorem NKs.is (ok : HOk P w H h) : ∀ {vs : List V} {ks : List NestedKey} {us : List Value}, NKs H vs ks → Vals vs us → NestedAll h ks us
  | _, _, _, .nil, r => by cases r; exact .nil
  | _, _, _, .cons h1 h2, r => by
    cases r with
    | cons r1 r2 => exact .cons (NK.is ok h1 r1) (NKs.is ok h2 r2)
end
theorem NK.key (ok : HOk P w H h) {a : Addr} {k : NestedKey} (n : NK H (.ref a) k) (d : k.depth ≤ 8) : (nestedKind P w).is h k a := ⟨n.is ok rfl, d⟩
end

/-! ### dicts with such keys -/
abbrev NEs := List (NestedKey × Addr × V)
abbrev NER (p : NestedKey × Addr × V) (q : NestedKey × Addr × Value) : Prop := p.1 = q.1 ∧ p.2.1 = q.2.1 ∧ RelV p.2.2 q.2.2
/-- the dict's own object -/
def NObj (P : Program) (w : World) (d : Addr) (xs : NEs) (h : Heap) : Prop :=
  xs.length ≤ sizeLine ∧ (d == sysModules) = false ∧ ∃ ys : List (NestedKey × Addr × Value), Paired NER xs ys ∧
    ∃ o es ep, h.get? d = some o ∧ o.ExactDict ∧ o.data = .dict es ep ∧ es.toList = ys.map (entryOfKey (nestedKind P w)) ∧ (ys.map (·.1)).Nodup
def dN (P : Program) (w : World) (d : Addr) (xs : NEs) : HO := .ext (NObj P w d xs)
/-- at d a dict with nested keys, in their order -/
def DN (P : Program) (w : World) (H : Hp) (d : Addr) (kvs : List (NestedKey × V)) : Prop :=
  ∃ xs : NEs, H d = some (dN P w d xs) ∧ (∀ x ∈ xs, NK H (.ref x.2.1) x.1 ∧ x.1.depth ≤ 8) ∧ xs.map (fun x => (x.1, x.2.2)) = kvs
theorem NObj.ok {P : Program} {w : World} {H : Hp} {h : Heap} {d : Addr} {xs : NEs} (x : NObj P w d xs h) : ObjOk P w H h d (dN P w d xs) := by
  refine ⟨x, ?_, fun h1 h2 p k => ?_⟩
  · obtain ⟨_, _, _, _, o, _, _, e, _⟩ := x
    exact ⟨o, e⟩
  · obtain ⟨z, hd, ys, r, o, es, ep, e, q⟩ := p
    exact ⟨z, hd, ys, r, o, es, ep, k o e, q⟩
theorem DN.mono {P : Program} {w : World} {H H' : Hp} {d : Addr} {kvs : List (NestedKey × V)} (x : DN P w H d kvs) (s : TSame H H') (hd : H' d = H d) : DN P w H' d kvs := by
  obtain ⟨xs, e, k, q⟩ := x
  exact ⟨xs, by rw [hd]; exact e, fun y hy => ⟨(k y hy).1.mono s, (k y hy).2⟩, q⟩
theorem DN.same {P : Program} {w : World} {H H' : Hp} {d : Addr} {kvs : List (NestedKey × V)} (x : DN P w H d kvs) (s : Same H H') : DN P w H' d kvs := by
  obtain ⟨xs, e, k, q⟩ := x
  exact ⟨xs, s _ _ e, fun y hy => ⟨(k y hy).1.mono s.t, (k y hy).2⟩, q⟩
section
variable {X : Cx} {pins : List (Addr × Obj)} {σ : St} {H : Hp} {s : Shared} {d a : Addr} {kvs : List (NestedKey × V)} {k : NestedKey} {A : Around} {E : Value → Shared → Prop}
theorem ner_val {xs : NEs} {ys : List (NestedKey × Addr × Value)} (r : Paired NER xs ys) (k : NestedKey) : RelO (valV (xs.map fun x => (x.1, x.2.2)) k) ((atKey ys k).map (·.2)) := by
  induction r with
  | nil => exact True.intro
  | @cons p q ps qs h t ih =>
    obtain ⟨h1, h2, h3⟩ := h
    by_cases e : p.1 = k
    · have e' : q.1 = k := by rw [← h1]; exact e
      rw [List.map_cons, valV_pos (p := (p.1, p.2.2)) e]
      have : atKey (q :: qs) k = some q.2 := by simp [atKey, e']
      rw [this]
      exact h3
    · have e' : ¬ q.1 = k := by rw [← h1]; exact e
      rw [List.map_cons, valV_neg (p := (p.1, p.2.2)) e]
      have : atKey (q :: qs) k = atKey qs k := by simp [atKey, e']
      rw [this]
      exact ih
theorem DN.at (I : Inv X pins σ H s) (x : DN X.prog X.w H d kvs) : ∃ (xs : NEs) (ys : List (NestedKey × Addr × Value)), H d = some (dN X.prog X.w d xs) ∧ xs.map (fun x => (x.1, x.2.2)) = kvs ∧ kvs.length ≤ sizeLine ∧ (d == sysModules) = false ∧ Paired NER xs ys ∧
    s.heap.DictOfH (nestedKind X.prog X.w) d ys ∧ (∀ x ∈ xs, NK H (.ref x.2.1) x.1 ∧ x.1.depth ≤ 8) := by
  obtain ⟨xs, e, kk, q⟩ := x
  obtain ⟨⟨z, hd, ys, r, o, es, ep, ho, hex, hdat, hes, hn⟩, _⟩ := I.hok d _ e
  refine ⟨xs, ys, e, q, by rw [← q, List.length_map]; exact z, hd, r, ⟨o, es, ep, ho, hex, hdat, hes, fun y hy => ?_, hn⟩, kk⟩
  obtain ⟨i, hi, rfl⟩ := List.getElem_of_mem hy
  have hl := Paired.length r
  have hx : xs[i]? = some xs[i] := List.getElem?_eq_getElem (by omega)
  obtain ⟨b, hb, h1, h2, h3⟩ := paired_get r hx
  rw [List.getElem?_eq_getElem hi] at hb
  cases hb
  have n := kk xs[i] (List.getElem_mem _)
  rw [← h1, ← h2]
  exact n.1.key I.hok n.2
theorem DN.typeIs (I : Inv X pins σ H s) (x : DN X.prog X.w H d kvs) : s.TypeIs (.ref d) "dict" ∧ ∀ b, Value.ref d = .ref b → ∃ ob, s.heap.get? b = some ob ∧ ob.dict = none := by
  obtain ⟨xs, ys, _, _, _, _, _, dd, _⟩ := x.at I
  refine ⟨dd.typeIs, fun b e => ?_⟩
  cases e
  obtain ⟨o, _, _, ho, hex, _⟩ := dd
  exact ⟨o, ho, hex.2.1⟩
theorem room8 {A : Around} (hu : A.units + 64 < cLine) : (nestedKind X.prog X.w).room A.in1 := by
  show A.units + 1 + 8 < cLine
  omega
/-- d[k] -/
theorem n_getItem {v : V} {Q : Value → Shared → Prop} (hu : A.units + 64 < cLine) (I : Inv X pins σ H s) (x : DN X.prog X.w H d kvs) (n : NK H (.ref a) k) (dp : k.depth ≤ 8) (l : valV kvs k = some v)
    (h : ∀ w' s', Inv X pins σ H s' → RelV v w' → Q w' s') : wpAny (model X.prog X.w) A (getItem (.ref d) (.ref a)) Q E s := by
  obtain ⟨xs, ys, e, q, z, hd, r, dd, kk⟩ := x.at I
  obtain ⟨w', hw, rw'⟩ := RelO.some_of (v := v) (o := (atKey ys k).map (·.2)) (by rw [← l, ← q]; exact ner_val r k)
  obtain ⟨p, hp, hp2⟩ := Option.map_eq_some_iff.mp hw
  refine wpAny_getItem_heap (room8 hu) (n.key I.hok dp) dd hp ?_
  rw [hp2]
  exact h w' _ (I.tok _) rw'
theorem n_some {xs : NEs} {ys : List (NestedKey × Addr × Value)} (r : Paired NER xs ys) (q : xs.map (fun x => (x.1, x.2.2)) = kvs) : (valV kvs k).isSome = (atKey ys k).isSome := by
  have z := (ner_val r k).isSome_eq
  rw [Option.isSome_map] at z
  rw [← q]; exact z
theorem n_in {Q : Value → Shared → Prop} (hu : A.units + 64 < cLine) (I : Inv X pins σ H s) (x : DN X.prog X.w H d kvs) (n : NK H (.ref a) k) (dp : k.depth ≤ 8) (h : ∀ s', Inv X pins σ H s' → Q (.bool (valV kvs k).isSome) s') :
    wpAny (model X.prog X.w) A (compareOp .In (.ref a) (.ref d)) Q E s := by
  obtain ⟨xs, ys, e, q, z, hd, r, dd, kk⟩ := x.at I
  refine wpAny_in_heap (room8 hu) (n.key I.hok dp) hd dd ?_
  rw [← n_some (k := k) r q]
  exact h _ (I.tok _)
theorem n_notIn {Q : Value → Shared → Prop} (hu : A.units + 64 < cLine) (I : Inv X pins σ H s) (x : DN X.prog X.w H d kvs) (n : NK H (.ref a) k) (dp : k.depth ≤ 8) (h : ∀ s', Inv X pins σ H s' → Q (.bool (!(valV kvs k).isSome)) s') :
    wpAny (model X.prog X.w) A (compareOp .NotIn (.ref a) (.ref d)) Q E s := by
  obtain ⟨xs, ys, e, q, z, hd, r, dd, kk⟩ := x.at I
  refine wpAny_notIn_heap (room8 hu) (n.key I.hok dp) hd dd ?_
  rw [← n_some (k := k) r q]
  exact h _ (I.tok _)
theorem n_get2 {y : V} {u : Value} {Q : Value → Shared → Prop} (hu : A.units + 64 < cLine) (I : Inv X pins σ H s) (x : DN X.prog X.w H d kvs) (n : NK H (.ref a) k) (dp : k.depth ≤ 8) (ry : RelV y u)
    (h : ∀ w' s', Inv X pins σ H s' → RelV ((valV kvs k).getD y) w' → Q w' s') : wpAny (model X.prog X.w) A (call (.builtin "dict.get") [.ref d, .ref a, u]) Q E s := by
  obtain ⟨xs, ys, e, q, z, hd, r, dd, kk⟩ := x.at I
  refine call_meetsIn PySem.F.slot_dict_get dd.typeIs PySem.F.entry_dict_get (PySem.F.args_dict_get_3 _ _ _) (meetsH_dict_get_default (nestedKind X.prog X.w) d a hd u) ⟨room8 hu, k, ys, n.key I.hok dp, dd, h _ _ (I.tok _) ?_⟩
  rw [← q]
  exact (ner_val r k).getD ry
theorem n_len {Q : Value → Shared → Prop} (I : Inv X pins σ H s) (x : DN X.prog X.w H d kvs) (h : ∀ t s', Inv X pins σ H s' → Q (.int kvs.length t) s') : wpAny (model X.prog X.w) A (call (.builtin "len") [.ref d]) Q E s := by
  obtain ⟨xs, ys, e, q, z, hd, r, dd, kk⟩ := x.at I
  have hl : kvs.length = ys.length := by rw [← q, List.length_map]; exact Paired.length r
  refine call_len_dictH hd dd (by rw [← hl]; rw [sizeLine_eq] at z; omega) ?_
  rw [← hl]
  exact h _ _ (I.tok _)
end
theorem ner_repl {xs : NEs} {ys : List (NestedKey × Addr × Value)} (r : Paired NER xs ys) (k : NestedKey) {y : V} {u : Value} (ry : RelV y u) :
    Paired NER (xs.map fun x => if x.1 = k then (x.1, x.2.1, y) else x) (ys.map (putAt k u)) := by
  induction r with
  | nil => exact .nil
  | @cons p q ps qs h t ih =>
    obtain ⟨h1, h2, h3⟩ := h
    rw [List.map_cons, List.map_cons]
    refine .cons ?_ ih
    by_cases e : p.1 = k
    · have e' : q.1 = k := by rw [← h1]; exact e
      rw [if_pos e, putAt, if_pos e']
      exact ⟨h1, h2, ry⟩
    · have e' : ¬ q.1 = k := by rw [← h1]; exact e
      rw [if_neg e, putAt, if_neg e']
      exact ⟨h1, h2, h3⟩
theorem Paired.snoc {α β : Type} {F : α → β → Prop} : ∀ {l : List α} {m : List β} {a : α} {b : β}, Paired F l m → F a b → Paired F (l ++ [a]) (m ++ [b])
  | _, _, _, _, .nil, h => .cons h .nil
  | _, _, _, _, .cons r t, h => .cons r (Paired.snoc t h)
section
variable {X : Cx} {pins : List (Addr × Obj)} {σ : St} {H : Hp} {s : Shared} {d a : Addr} {kvs : List (NestedKey × V)} {k : NestedKey} {A : Around} {E : Value → Shared → Prop}
/-- a new entry -/
theorem n_put {v : V} {u : Value} {h' : Heap} {t' : Nat} {xs : NEs} {ys : List (NestedKey × Addr × Value)} (I : Inv X pins σ H s) (e : H d = some (dN X.prog X.w d xs)) (q : xs.map (fun x => (x.1, x.2.2)) = kvs) (hl : kvs.length < sizeLine) (hd : (d == sysModules) = false)
    (r : Paired NER xs ys) (kk : ∀ x ∈ xs, NK H (.ref x.2.1) x.1 ∧ x.1.depth ≤ 8) (n : NK H (.ref a) k) (dp : k.depth ≤ 8) (rv : RelV v u) (hn : valV kvs k = none) (dd : h'.DictOfH (nestedKind X.prog X.w) d (storedH ys k a u)) (hs : Heap.SameBut d s.heap h') :
    ∃ xs', Inv X pins σ (upd H d (dN X.prog X.w d xs')) { s with heap := h', toks := t' } ∧ DN X.prog X.w (upd H d (dN X.prog X.w d xs')) d (putK kvs k v) := by
  have hnone : atKey ys k = none := by
    have z := n_some (k := k) (kvs := kvs) r q
    rw [hn] at z
    cases c : atKey ys k with
    | none => rfl
    | some p => rw [c] at z; cases z
  have est : storedH ys k a u = ys ++ [(k, a, u)] := by
    unfold storedH
    rw [hnone]
    rfl
  rw [est] at dd
  obtain ⟨o, es, ep, ho, hex, hdat, hes, _, hnd⟩ := dd
  have nt : TSame H (upd H d (dN X.prog X.w d (xs ++ [(k, a, v)]))) := TSame.upd e (fun xs z => by cases z) (fun ob xs z => by cases z)
  have hlen : (xs ++ [(k, a, v)]).length ≤ sizeLine := by
    rw [← q, List.length_map] at hl
    rw [List.length_append, List.length_singleton]
    omega
  have ob : NObj X.prog X.w d (xs ++ [(k, a, v)]) h' := ⟨hlen, hd, ys ++ [(k, a, u)], Paired.snoc r ⟨rfl, rfl, rv⟩, o, es, ep, ho, hex, hdat, hes, hnd⟩
  refine ⟨xs ++ [(k, a, v)], I.write (x := d) (e := d) (by rw [e]; exact True.intro) (.inl rfl) (fun b ob hb z => (hs.2 b hb).trans z) ⟨o, ho⟩ ob.ok, xs ++ [(k, a, v)], upd_same, fun x hx => ?_, ?_⟩
  · rcases List.mem_append.mp hx with z | z
    · exact ⟨(kk x z).1.mono nt, (kk x z).2⟩
    · rw [List.mem_singleton] at z
      subst z
      exact ⟨n.mono nt, dp⟩
  · rw [List.map_append, q, List.map_singleton, putK_new v hn]
/-- d.setdefault(k, x) -/
theorem n_setd {v : V} {u : Value} {Q : Value → Shared → Prop} (hu : A.units + 64 < cLine) (I : Inv X pins σ H s) (x : DN X.prog X.w H d kvs) (hl : kvs.length < sizeLine) (n : NK H (.ref a) k) (dp : k.depth ≤ 8) (rv : RelV v u)
    (h1 : ∀ y, valV kvs k = some y → ∀ (w' : Value) (s' : Shared), Inv X pins σ H s' → RelV y w' → Q w' s')
    (h2 : valV kvs k = none → ∀ (w' : Value) (s' : Shared) (H' : Hp) (xs' : NEs), H' = upd H d (dN X.prog X.w d xs') → DN X.prog X.w H' d (putK kvs k v) → Inv X pins σ H' s' → RelV v w' → Q w' s') :
    wpAny (model X.prog X.w) A (call (.builtin "dict.setdefault") [.ref d, .ref a, u]) Q E s := by
  obtain ⟨xs, ys, e, q, z, hd, r, dd, kk⟩ := x.at I
  have hz : ys.length ≤ sizeLine := by rw [← Paired.length r, ← List.length_map (f := fun x : NestedKey × Addr × V => (x.1, x.2.2)), q]; exact z
  refine call_setdefault_heap (hsz := hz) (room8 hu) (n.key I.hok dp) hd dd (fun p hp => ?_) (fun hn h' dd' hs => ?_)
  · have w := ner_val r k
    rw [q, hp] at w
    cases c : valV kvs k with
    | none => rw [c] at w; exact (show False from w).elim
    | some y => rw [c] at w; exact h1 y c _ _ (I.tok _) w
  · have w := ner_val r k
    rw [q, hn] at w
    have hnone : valV kvs k = none := by
      cases c : valV kvs k with
      | none => rfl
      | some y => rw [c] at w; exact (show False from w).elim
    obtain ⟨xs', I', D'⟩ := n_put (t' := s.toks + (nestedKind X.prog X.w).draws k) I e q hl hd r kk n dp rv hnone dd' hs
    exact h2 hnone _ _ _ xs' rfl D' I' rv
end

/-! ### the rules -/
/-- {}, to be such a dict -/
def tDNewN (P : Program) (w : World) : TE := fun _ H Q => ∀ p, H p = none → DN P w (upd H p (dN P w p [])) p [] → Q (.ref p) (upd H p (dN P w p []))
def tNGet (P : Program) (w : World) (td ty : TE) : TE := fun σ H Q => td σ H fun x H1 => ty σ H1 fun y H2 => ∃ d kvs a k v, x = .ref d ∧ y = .ref a ∧ DN P w H2 d kvs ∧ NK H2 (.ref a) k ∧ k.depth ≤ 8 ∧ valV kvs k = some v ∧ Q v H2
def tNIn (P : Program) (w : World) (neg : Bool) (ty td : TE) : TE := fun σ H Q => ty σ H fun y H1 => td σ H1 fun x H2 => ∃ d kvs a k, x = .ref d ∧ y = .ref a ∧ DN P w H2 d kvs ∧ NK H2 (.ref a) k ∧ k.depth ≤ 8 ∧ Q (.bl (if neg then !(valV kvs k).isSome else (valV kvs k).isSome)) H2
def tNGet2 (P : Program) (w : World) (td ty tx : TE) : TE := fun σ H Q => td σ H fun x H1 => ∃ d kvs, x = .ref d ∧ DN P w H1 d kvs ∧ ty σ H1 fun y H2 => tx σ H2 fun z H3 => ∃ a k, y = .ref a ∧ DN P w H3 d kvs ∧ NK H3 (.ref a) k ∧ k.depth ≤ 8 ∧ Q ((valV kvs k).getD z) H3
def tNSetd (P : Program) (w : World) (td ty tx : TE) : TE := fun σ H Q => td σ H fun x H1 => ∃ d kvs0, x = .ref d ∧ DN P w H1 d kvs0 ∧ ty σ H1 fun y H2 => tx σ H2 fun z H3 => ∃ kvs a k, y = .ref a ∧ DN P w H3 d kvs ∧ kvs.length < sizeLine ∧ NK H3 (.ref a) k ∧ k.depth ≤ 8 ∧
  (∀ v, valV kvs k = some v → Q v H3) ∧ (valV kvs k = none → ∀ (H' : Hp) (xs' : NEs), H' = upd H3 d (dN P w d xs') → DN P w H' d (putK kvs k z) → Q z H')
section
variable {X : Cx} {o e f i : Expr} {td ty tx : TE} {apos cpos pos : Pos}
theorem pe_dnewN : PE X (.Dict [] [] pos) (tDNewN X.prog X.w) := ⟨fun pins s σ H Q I h => by
  have hn := I.hok.fresh (Nat.le_refl s.heap.objs.size)
  have ob : NObj X.prog X.w s.heap.objs.size [] (s.heap.push { cls := .type "dict", data := .dict #[] }) :=
    ⟨Nat.zero_le _, beq_eq_false_iff_ne.mpr (Ne.symm (Nat.ne_of_lt I.big)), [], .nil, _, #[], 0, Heap.get?_push_size _ rfl, ⟨rfl, rfl, rfl⟩, rfl, rfl, List.nodup_nil⟩
  exact wpAny_Dict_empty ⟨.ref s.heap.objs.size, _, I.laid (a := s.heap.objs.size) (o := dN X.prog X.w s.heap.objs.size []) (t' := s.toks) (fun _ _ q => Heap.get?_push_of_some _ q) (Nat.le_refl _) ob.ok, rfl, h _ hn ⟨[], upd_same, (fun x hx => nomatch hx), rfl⟩⟩⟩
theorem pe_nget (hu : X.A.units + 64 < cLine) (ho : PE X o td) (hi : PE X i ty) (hs : NoSl i) : PE X (.Subscript o i pos) (tNGet X.prog X.w td ty) := by
  refine ⟨fun pins s σ H Q I h => ?_⟩
  refine subD_of PySem.F.slot_dict_getitem.lookup hs (thn (ho.run pins s σ H _ I h) fun u s1 ⟨x, H1, I1, rx, q1⟩ => thn (hi.run pins s1 σ H1 _ I1 q1) fun iv s2 ⟨y, H2, I2, ry, d, kvs, a, k, v, ex, ey, D, n, dp, l, q2⟩ => ?_)
  subst ex ey
  obtain rfl : u = Value.ref d := rx
  obtain rfl : iv = Value.ref a := ry
  exact ⟨(D.typeIs I2).1, n_getItem hu I2 D n dp l fun w' s3 I3 rw' => ⟨v, H2, I3, rw', q2⟩⟩
theorem pc_nin (hu : X.A.units + 64 < cLine) (hi : PE X i ty) (ho : PE X o td) : PC X .In i o (tNIn X.prog X.w false ty td) := by
  refine ⟨fun pins s σ H Q I h => ?_⟩
  refine thn (hi.run pins s σ H _ I h) fun iv s1 ⟨y, H1, I1, ry, q1⟩ => thn (ho.run pins s1 σ H1 _ I1 q1) fun u s2 ⟨x, H2, I2, rx, d, kvs, a, k, ex, ey, D, n, dp, q2⟩ => ?_
  subst ex ey
  obtain rfl : u = Value.ref d := rx
  obtain rfl : iv = Value.ref a := ry
  exact n_in hu I2 D n dp fun s3 I3 => ⟨.bl _, H2, I3, rfl, q2⟩
theorem pc_nnotin (hu : X.A.units + 64 < cLine) (hi : PE X i ty) (ho : PE X o td) : PC X .NotIn i o (tNIn X.prog X.w true ty td) := by
  refine ⟨fun pins s σ H Q I h => ?_⟩
  refine thn (hi.run pins s σ H _ I h) fun iv s1 ⟨y, H1, I1, ry, q1⟩ => thn (ho.run pins s1 σ H1 _ I1 q1) fun u s2 ⟨x, H2, I2, rx, d, kvs, a, k, ex, ey, D, n, dp, q2⟩ => ?_
  subst ex ey
  obtain rfl : u = Value.ref d := rx
  obtain rfl : iv = Value.ref a := ry
  exact n_notIn hu I2 D n dp fun s3 I3 => ⟨.bl _, H2, I3, rfl, q2⟩
theorem pe_nget2 (hu : X.A.units + 64 < cLine) (ho : PE X o td) (he : PE X e ty) (hf : PE X f tx) (m : M2 X o "get" apos e f cpos) : PE X (.Call (.Attribute o "get" apos) [e, f] [] cpos) (tNGet2 X.prog X.w td ty tx) := by
  refine ⟨fun pins s σ H Q I h => ?_⟩
  refine wpAny_Call_method m.base m.few m.line PySem.F.plainAttrs_dict PySem.F.slot_dict_get PySem.F.type_dict_get (thn (ho.run pins s σ H _ I h) fun u s1 ⟨x, H1, I1, rx, d, kvs, ex, D, q1⟩ => ?_)
  subst ex
  obtain rfl : u = Value.ref d := rx
  obtain ⟨t1, t2⟩ := D.typeIs I1
  refine ⟨t1, t2, ?_⟩
  rw [m.trees]
  refine Calls.callWith_builtin rfl (Calls.evalArgs_plain (Calls.spliced_cons (thn (he.run pins s1 σ H1 _ I1 q1) fun iv s2 ⟨y, H2, I2, ry, q2⟩ =>
    Calls.spliced_cons (thn (hf.run pins s2 σ H2 _ I2 q2) fun fv s3 ⟨z, H3, I3, rz, a, k, ey, D3, n, dp, q3⟩ => Calls.spliced_nil ?_))))
  subst ey
  obtain rfl : iv = Value.ref a := ry
  exact n_get2 hu I3 D3 n dp rz fun w' s4 I4 rw' => ⟨_, H3, I4, rw', q3⟩
theorem pe_nsetd (hu : X.A.units + 64 < cLine) (ho : PE X o td) (he : PE X e ty) (hf : PE X f tx) (m : M2 X o "setdefault" apos e f cpos) : PE X (.Call (.Attribute o "setdefault" apos) [e, f] [] cpos) (tNSetd X.prog X.w td ty tx) := by
  refine ⟨fun pins s σ H Q I h => ?_⟩
  refine wpAny_Call_method m.base m.few m.line PySem.F.plainAttrs_dict PySem.F.slot_dict_setdefault PySem.F.type_dict_setdefault (thn (ho.run pins s σ H _ I h) fun u s1 ⟨x, H1, I1, rx, d, kvs0, ex, D, q1⟩ => ?_)
  subst ex
  obtain rfl : u = Value.ref d := rx
  obtain ⟨t1, t2⟩ := D.typeIs I1
  refine ⟨t1, t2, ?_⟩
  rw [m.trees]
  refine Calls.callWith_builtin rfl (Calls.evalArgs_plain (Calls.spliced_cons (thn (he.run pins s1 σ H1 _ I1 q1) fun iv s2 ⟨y, H2, I2, ry, q2⟩ =>
    Calls.spliced_cons (thn (hf.run pins s2 σ H2 _ I2 q2) fun fv s3 ⟨z, H3, I3, rz, kvs, a, k, ey, D3, hl, n, dp, q3, q4⟩ => Calls.spliced_nil ?_))))
  subst ey
  obtain rfl : iv = Value.ref a := ry
  exact n_setd hu I3 D3 hl n dp rz (fun v hv w' s4 I4 rw' => ⟨v, _, I4, rw', q3 v hv⟩) fun hn w' s4 H' xs' eH D' I4 rw' => ⟨z, H', I4, rw', q4 hn H' xs' eH D'⟩
theorem call_len_n : CallR X (.builtin "len") (fun xs H Q => ∃ d kvs, xs = [.ref d] ∧ DN X.prog X.w H d kvs ∧ Q (.int kvs.length) H) := by
  intro pins s σ H xs us Q I r h
  obtain ⟨d, kvs, rfl, D, q⟩ := h
  obtain ⟨u, rfl, rx⟩ := vals1 r
  obtain rfl : u = .ref d := rx
  exact n_len I D fun t s' I' => ⟨.int kvs.length, H, I', ⟨_, rfl⟩, q⟩
end
end L2

set_option Elab.async false
set_option linter.all false
set_option maxRecDepth 100000
set_option maxHeartbeats 4000000
namespace PySem
open Sem (wp)
open AutoSeq1 (wpAny_loadPart')
/-! ### enumerate(tuple) -/
theorem meets_enumerate_newT (l : Addr) (items : Array Value) (n : Nat) (dct : Option Addr) (sl : Array (Option Value)) :
    Meets (Builtin.«enumerate.__new__» ⟨[.type "enumerate", .ref l], []⟩) (fun _ R s => s.heap.get? l = some { cls := .type "tuple", dict := dct, data := .seq items n, slots := sl } ∧
      R (.ok (.ret (.ref (s.heap.push { cls := .type "tuple_iterator", data := .fields #[.ref l, .int 0 0] }).objs.size)))
        { s with heap := (s.heap.push { cls := .type "tuple_iterator", data := .fields #[.ref l, .int 0 0] }).push { cls := .type "enumerate", data := .fields #[.none, .bool false, .ref s.heap.objs.size, rawInt 0, .none, .none] } }) :=
  .of_wp fun prog w A R s h => by
    obtain ⟨hp, g, d, tk, os⟩ := s; obtain ⟨hl, h⟩ := h
    have hsub := sub_enumerate
    have hL : Heap.IsTuple (Shared.heap ⟨hp, g, d, tk, os⟩) l items := ⟨_, hl, rfl, n, rfl⟩
    wp_walk using wpAny_loadPart' hl
    refine wpAny_stack_any fun st => wpAny_pure ?_
    split
    · rename_i c _ _ _ _ _
      cases (c == Value.type "enumerate")
      · wp_walk using wpAny_loadPart' hl, wpAny_pyIter_tuple hL
        exact ⟨_, rfl, h⟩
      · wp_walk using wpAny_loadPart' hl, wpAny_pyIter_tuple hL
        exact ⟨_, rfl, h⟩
    · wp_walk using wpAny_loadPart' hl, wpAny_pyIter_tuple hL
      exact ⟨_, rfl, h⟩
section
variable {prog : Program} {w : World} {A : Around} {E : Value → Shared → Prop} {s : Shared}
theorem call_enumerate_tup {l : Addr} {items : Array Value} {Q : Value → Shared → Prop} (hL : s.heap.IsTuple l items)
    (h : ∀ h', IsEnum h' (s.heap.objs.size + 1) s.heap.objs.size 0 .none → h'.IsTupleIter s.heap.objs.size l 0 → h'.objs.size = s.heap.objs.size + 2 →
      (∀ b o, s.heap.get? b = some o → h'.get? b = some o) → Q (.ref (s.heap.objs.size + 1)) { s with heap := h' }) :
    wpAny (model prog w) A (call (.type "enumerate") [.ref l]) Q E s := by
  obtain ⟨⟨c, dct, dt, sl⟩, hl, hc, n, hd⟩ := hL
  replace hc : c = .type "tuple" := hc
  replace hd : dt = .seq items n := hd
  subst hc hd
  refine callType_new F.called_enumerate (by decide) (F.typeCall_enumerate_1 _) (F.newCall_enumerate_1 _) (fun obj => F.args_object_init_2 obj _) F.entry_enumerate_new
    (meets_enumerate_newT l items n dct sl) ⟨hl, ?_⟩
  have hz : (s.heap.push { cls := .type "tuple_iterator", data := .fields #[.ref l, .int 0 0] }).objs.size = s.heap.objs.size + 1 := Heap.size_push ..
  show _ ∧ _
  rw [hz]
  have he : IsEnum ((s.heap.push { cls := .type "tuple_iterator", data := .fields #[.ref l, .int 0 0] }).push
      { cls := .type "enumerate", data := .fields #[.none, .bool false, .ref s.heap.objs.size, rawInt 0, .none, .none] }) (s.heap.objs.size + 1) s.heap.objs.size 0 .none := by
    have := Heap.get?_push_size (s.heap.push { cls := .type "tuple_iterator", data := .fields #[.ref l, .int 0 0] })
      (o := { cls := .type "enumerate", data := .fields #[.none, .bool false, .ref s.heap.objs.size, rawInt 0, .none, .none] }) rfl
    rw [hz] at this; exact this
  refine ⟨⟨_, he, rfl⟩, h _ he ⟨_, Heap.get?_push_of_some _ (Heap.get?_push_size _ rfl), rfl, rfl⟩ (by rw [Heap.size_push, hz]) fun b o x => Heap.get?_push_of_some _ (Heap.get?_push_of_some _ x)⟩
end
/-! ### (..) * 1 -/
theorem tuple_mul1 (l : Addr) (items : Array Value) (n : Nat) (dd : Option Addr) (sl : Array (Option Value)) (u : Tok) :
    Meets (Builtin.«tuple.__mul__» ⟨[.ref l, .int 1 u], []⟩) (fun _ R s => s.heap.get? l = some { cls := .type "tuple", dict := dd, data := .seq items n, slots := sl } ∧ R (.ok (.ret (Value.ref l))) s) :=
  .of_wp fun prog w A R s h => by
    obtain ⟨hp, g, d, tk, os⟩ := s
    obtain ⟨hl, h⟩ := h
    have f1 := AutoSeq1.idx_int
    have c0 : (decide ((1 : Int) < -(2 ^ 63)) || decide ((1 : Int) ≥ 2 ^ 63)) = false := by decide
    have c1 : (items.isEmpty || (1 : Int) == 1) = true := by simp
    wp_walk using wpAny_loadPart' hl
    repeat (first
      | (refine wpAny_ite_false (decide_eq_false (by rw [c0]; exact Bool.false_ne_true)) ?_; wp_walk using wpAny_loadPart' hl)
      | (refine wpAny_ite_true (decide_eq_true c1) ?_; wp_walk using wpAny_loadPart' hl))
    exact ⟨_, rfl, h⟩
end PySem
namespace L2
open PySem PySem.Spec PyProof.Rows
section
variable {X : Cx}
/-- the tuple at a as it stands at each turn, each item in a new pair -/
def IteT (K : PySem.W.Frag) (a : Addr) : It :=
  ⟨fun i H => ∃ (xs : List V) (x : V), SqT K H a xs ∧ xs[i]? = some x, fun i H v H' => ∃ T x, v = .ref T ∧ H T = none ∧ H' = upd H T (.tup [.int (i : Nat), x]) ∧ ∀ xs, SqT K H a xs → xs[i]? = some x, fun i H => ∃ xs : List V, SqT K H a xs ∧ xs.length = i⟩
theorem D1 (P : Program) (w : World) (A : Around) (hh : A.handled = none) (it t : Addr) (hne : t ≠ it) (items : Array Value) :
    Draws P w A.in1 it [it, t] items.size (fun i v => items[i]? = some v) (fun i h => h.IsTupleIter it t i ∧ h.IsTuple t items) := Draws.tuple (by simp [hh]) it t hne items
theorem turn_enumT {P : Program} {w : World} {K : PySem.W.Frag} {elts : List Expr} {kk : Nat} {tpos : Pos} (a e it : Addr) :
    Turn P w K (.Tuple elts kk tpos) (IteT K a) [e, it] e (fun i h => (∃ old, IsEnum h e it ((i : Nat) : Int) old) ∧ h.IsTupleIter it a i ∧ e ≠ it) where
  mem := by simp
  obj := fun i h st b hb => by
    obtain ⟨⟨old, he⟩, ⟨o, ho, hc, hd⟩, _⟩ := st
    have e' : b = e ∨ b = it := by simpa using hb
    rcases e' with z | z
    · rw [z]; exact ⟨_, he, fun v q => nomatch q⟩
    · rw [z]; exact ⟨o, ho, fun v q => by rw [hd] at q; cases q⟩
  keep := fun i h h' st k => let ⟨⟨old, he⟩, hi, hne⟩ := st; ⟨⟨old, k e (by simp) _ he⟩, hi.at fun o q => k it (by simp) o q, hne⟩
  item := by
    intro X hP hw hK hc i pins s σ H E I hf st hg
    subst hP hw hK
    obtain ⟨⟨old, he⟩, hit, hne⟩ := st
    obtain ⟨xs, x, hq, hx⟩ := hg
    obtain ⟨its, rv, p, hz⟩ := I.tuple hq
    obtain ⟨u, hu, ru⟩ := rv.get hx
    have hel : e < s.heap.objs.size := Heap.lt_size he
    have hil : it < s.heap.objs.size := by obtain ⟨_, q, _⟩ := hit; exact Heap.lt_size q
    have hai : a ≠ it := fun z => by
      obtain ⟨o1, e1, c1, _⟩ := hit
      obtain ⟨o2, e2, c2, _⟩ := p
      rw [z, e1] at e2; cases e2
      rw [c1] at c2; injection c2 with q; exact absurd q (by decide)
    have hae : e ≠ a := fun z => by
      obtain ⟨o2, e2, c2, _⟩ := p
      rw [← z] at e2
      have e1 : s.heap.get? e = some _ := he
      rw [e1] at e2; cases e2
      injection c2 with q; exact absurd q (by decide)
    have hT : s.heap.IsTuple a its.toArray := p
    refine wpAny_pyNext_enum_itemD (i := i) (D1 X.prog X.w X.A (I.ok.hd hc) it a hai its.toArray) he ⟨hit, hT⟩ (by
      have := (List.getElem?_eq_some_iff.mp hu).1
      rw [List.size_toArray]; exact this) hne (by simp [hne, hae]) fun y h' tk hy ho hit' hT' hsz hk => ?_
    have ey : y = u := by
      have : its.toArray[i]? = some u := by simpa using hu
      rw [this] at hy; exact (Option.some.inj hy).symm
    subst ey
    refine ⟨_, rfl, wpAny_letOwnedTupleGo_enum (s := { s with heap := h', toks := tk + 1 }) ho fun h'' he' sb => ?_⟩
    have hT2 : h''.get? s.heap.objs.size = some { cls := .type "tuple", data := .seq #[.int i tk, y] } := (sb.2 _ (Nat.ne_of_gt hel)).trans hT'
    have new : ObjOk X.prog X.w (upd H s.heap.objs.size (.tup [.int (i : Nat), x])) h'' s.heap.objs.size (.tup [.int (i : Nat), x]) :=
      ⟨by show 2 ≤ sizeLine; decide, [.int i tk, y], .cons ⟨_, rfl⟩ (.cons ru .nil), ⟨_, hT2, rfl, _, rfl⟩⟩
    have I1 : Inv X pins σ (upd H s.heap.objs.size (.tup [.int (i : Nat), x])) { s with heap := h'', toks := tk + 1 } :=
      I.turnedNew (ch := [e, it]) (fun b ob hb q => (sb.2 b (fun z => hb (by simp [z]))).trans (hk b ob (fun z => hb (by simp [z])) (fun z => hb (by simp [z])) q)) hf (Nat.le_refl _) new
    refine ⟨.ref s.heap.objs.size, _, I1, rfl, ⟨_, x, rfl, I.hok.fresh (Nat.le_refl _), rfl, fun ys hy => by rw [I.tuple_inj hy hq]; exact hx⟩, ⟨⟨y, ?_⟩, hit'.1.at fun o q => (sb.2 it (Ne.symm hne)).trans q, hne⟩, fun b hb => ?_⟩
    · have e1 : ((i + 1 : Nat) : Int) = (i : Int) + 1 := by omega
      rw [e1]; exact he'
    · have hb' : b < s.heap.objs.size := by
        have e' : b = e ∨ b = it := by simpa using hb
        rcases e' with z | z
        · rw [z]; exact hel
        · rw [z]; exact hil
      rw [upd_ne (Nat.ne_of_lt hb')]
      exact (hf b hb).1
  done := by
    intro X hP hw hK hc i pins s σ H E I hf st hg
    subst hP hw hK
    obtain ⟨⟨old, he⟩, hit, hne⟩ := st
    obtain ⟨xs, hq, hx⟩ := hg
    obtain ⟨its, rv, p, hz⟩ := I.tuple hq
    obtain ⟨f0, f1, f2, f3, f4, f5⟩ := hf it (by simp)
    have hl := rv.length
    have hai : a ≠ it := fun z => by
      obtain ⟨o1, e1, c1, _⟩ := hit
      obtain ⟨o2, e2, c2, _⟩ := p
      rw [z, e1] at e2; cases e2
      rw [c1] at c2; injection c2 with q; exact absurd q (by decide)
    have hT : s.heap.IsTuple a its.toArray := p
    have hst : (fun i (h : Heap) => h.IsTupleIter it a i ∧ h.IsTuple a its.toArray) its.toArray.size s.heap := ⟨by rw [List.size_toArray, ← hl, hx]; exact hit, hT⟩
    exact wpAny_pyNext_enum_endD (D1 X.prog X.w X.A (I.ok.hd hc) it a hai its.toArray) he hst fun h' eb => ⟨rfl, I.turned (t' := s.toks) (fun b o hb q => eb b o hb q) f0 f1 f3 f4 f5⟩
  self := fun A i s Q E st h => let ⟨⟨_, he⟩, _⟩ := st; wpAny_pyIter_enum he h
def iEnumT (K : PySem.W.Frag) (ta : TA) : TI := fun σ H R => ta σ H fun vs H1 => ∃ a xs, vs = [.ref a] ∧ SqT K H1 a xs ∧ R (IteT K a) H1
theorem pi_enumT {e : Expr} {ta : TA} {p pos tpos : Pos} {elts : List Expr} {kk : Nat} (hg : Gl X "enumerate") (hm : X.mg "enumerate" = none) (ha : PA X [e] ta) (hs : starEach [e] X.env = [(false, eval e X.env)] := by rfl) :
    PI X (.Tuple elts kk tpos) (.Call (.Name "enumerate" p) [e] [] pos) (iEnumT X.K ta) := by
  refine ⟨fun pins s σ H R I h => ?_⟩
  refine Call_ (ld_blt I hg hm boot_enumerate (PyProof.Rows.callWith_type1 (thn (ha.run pos pins s σ H _ I h) fun us s1 ⟨vs, H1, I1, r1, q1⟩ => ?_) hs rfl))
  obtain ⟨a, xs, ex, hq, q⟩ := q1
  subst ex
  cases r1 with
  | cons r rr =>
    cases rr
    cases r
    obtain ⟨its, rv, p', hz⟩ := I1.tuple hq
    refine call_enumerate_tup (show s1.heap.IsTuple a its.toArray from p') fun h' he hit hsz hk => wpAny_pyIter_enum he ?_
    have I2 : Inv X pins σ H1 { s1 with heap := h' } := I1.kept (t' := s1.toks) hk
    refine ⟨s1.heap.objs.size + 1, [s1.heap.objs.size + 1, s1.heap.objs.size], _, _, H1, rfl, I2, turn_enumT a (s1.heap.objs.size + 1) s1.heap.objs.size, ⟨⟨.none, he⟩, hit, Nat.succ_ne_self _⟩, fun b hb => ?_, q⟩
    have e' : b = s1.heap.objs.size + 1 ∨ b = s1.heap.objs.size := by simpa using hb
    have hle : s1.heap.objs.size ≤ b := by
      rcases e' with z | z
      · rw [z]; exact Nat.le_add_right _ _
      · rw [z]; exact Nat.le_refl _
    exact I1.fpOk hle (I1.hok.fresh hle)
theorem walk_enumT {K : PySem.W.Frag} {a : Addr} {xs : List V} : Walk (IteT K a) xs.length (fun H => SqT K H a xs) (YPair (fun i => some (.int (i : Nat))) (fun i => xs[i]?)) := by
  refine ⟨fun i _ hi q => ⟨xs, xs[i], q, by simp [hi]⟩, fun _ q => ⟨xs, q, rfl⟩, fun i H v H' _ q y => ?_⟩
  obtain ⟨T, x, h1, h2, h3, h4⟩ := y
  exact ⟨T, .int (i : Nat), x, h1, h2, h3, rfl, h4 xs q⟩

/-! ### written tuples, known; tuple * int -/
def tTupF (t : TA) : TE := fun σ H Q => t σ H fun xs H1 => xs.length ≤ sizeLine ∧ ∀ p o, H1 p = none → o.cls = .type "tuple" → o.dict = none → Q (.ref p) (upd H1 p (.frz o (.tup xs)))
theorem pe_tupF {es : List Expr} {t : TA} {x1} {pos : Pos} (h : PA X es t) : PE X (.Tuple es x1 pos) (tTupF t) := by
  refine ⟨fun pins s σ H Q I hq => ?_⟩
  refine wpAny_Tuple_spliced (thn (h.run pos pins s σ H _ I hq) fun us s1 ⟨xs, H1, I1, r, z, q⟩ => ⟨by rw [← r.length]; exact z, ?_⟩)
  have hf : H1 s1.heap.objs.size = none := I1.hok.fresh (Nat.le_refl _)
  refine ⟨.ref s1.heap.objs.size, upd H1 s1.heap.objs.size (.frz { cls := .type "tuple", data := .seq us.toArray } (.tup xs)), I1.laid (t' := s1.toks) (fun b u e => Heap.get?_push_of_some _ e) (Nat.le_refl _) ?_, rfl, q _ _ hf rfl rfl⟩
  exact ⟨Heap.get?_push_size _ rfl, z, us, r, ⟨_, Heap.get?_push_size _ rfl, rfl, _, rfl⟩⟩
def rRepF : R2 := fun x y H Q => ∃ l k xs, x = .ref l ∧ y = .int k ∧ TupF H l xs ∧ xs ≠ [] ∧ 1 ≤ k ∧ k ≤ 1000 ∧ xs.length ≤ 1000 ∧
  ∀ p H', Same H H' → TupF H' p (List.replicate k.toNat xs).flatten → Q (.ref p) H'
theorem op_repF : OpR X (binaryOp .Mult) rRepF := by
  intro pins s σ H x y v u Q I rx ry h
  obtain ⟨l, k, xs, rfl, rfl, hT, hne, h1, h2, hz, q⟩ := h
  cases rx
  obtain ⟨t, rfl⟩ := ry
  obtain ⟨its, r, ⟨⟨cls, dd, data, sl⟩, ho, hc, n, hd⟩, hs⟩ := I.tuple (hT.sq (K := X.K))
  simp only at hc hd
  subst hc hd
  by_cases hk1 : k = 1
  · subst hk1
    exact wpAny_binaryOp_repeat_ref (T := "tuple") (U := "int") (by decide) ⟨_, ho, rfl⟩ (fun s' => typeIs_int s' 1 t) noFill_tuple_mul F.fills_int_mul F.slot_int_rmul repeat_tuple F.slot_int_index.lookup
      (call_meets F.slot_int_rmul (typeIs_int s 1 t) F.entry_int_rmul (F.args_int_rmul_2 _ _) (int_rmul_tuple 1 t l its.toArray n dd sl)
        ⟨ho, rfl, ⟨_, ho, rfl⟩, call_meets F.slot_tuple_mul ⟨_, ho, rfl⟩ F.entry_tuple_mul (F.args_tuple_mul_2 _ _) (tuple_mul1 l its.toArray n dd sl t) ⟨ho, .ref l, H, I, rfl, q l H (Same.refl _) (by simpa using hT)⟩⟩)
  have hle : its.length = xs.length := r.length.symm
  have hn : its ≠ [] := fun e => hne (by
    rw [e] at hle
    exact List.eq_nil_of_length_eq_zero hle.symm)
  have hi : its.toArray.isEmpty = false := by
    cases its with
    | nil => exact absurd rfl hn
    | cons a b => rfl
  have hsz0 : its.toArray.size = xs.length := by rw [List.size_toArray, hle]
  have hm : ((its.toArray.size : Nat) : Int) * k ≤ 1000000 := by
    rw [hsz0]
    have a1 : ((xs.length : Nat) : Int) * k ≤ 1000 * k := Int.mul_le_mul_of_nonneg_right (by omega) (by omega)
    omega
  have flen : (List.replicate k.toNat its).flatten.length ≤ sizeLine := by
    rw [PyProof.Rows.lm_len_rep_flat, hle, sizeLine_eq]
    have a1 : k.toNat * xs.length ≤ 1000 * 1000 := Nat.mul_le_mul (by omega) hz
    omega
  have c0 : (decide (k < -(2 ^ 63)) || decide (k ≥ 2 ^ 63)) = false := by
    rw [decide_eq_false (by omega), decide_eq_false (by omega)] <;> rfl
  have c1 : (its.toArray.isEmpty || k == 1) = false := by
    rw [hi, Bool.false_or]
    exact beq_eq_false_iff_ne.mpr hk1
  have c2 : (decide (k ≤ 0) || its.toArray.isEmpty) = false := by
    rw [hi, Bool.or_false]
    exact decide_eq_false (by omega)
  have c4 : Builtin.Tuple.tupleTooMany (((its.toArray.size : Nat) : Int) * k) = false := by
    unfold Builtin.Tuple.tupleTooMany
    rw [sizeLine_eq]
    exact decide_eq_false (by omega)
  refine wpAny_binaryOp_repeat_ref (T := "tuple") (U := "int") (by decide) ⟨_, ho, rfl⟩ (fun s' => typeIs_int s' k t) noFill_tuple_mul F.fills_int_mul F.slot_int_rmul repeat_tuple F.slot_int_index.lookup
    (call_meets F.slot_int_rmul (typeIs_int s k t) F.entry_int_rmul (F.args_int_rmul_2 _ _) (int_rmul_tuple k t l its.toArray n dd sl)
      ⟨ho, rfl, ⟨_, ho, rfl⟩, call_meets F.slot_tuple_mul ⟨_, ho, rfl⟩ F.entry_tuple_mul (F.args_tuple_mul_2 _ _) (tuple_mulW l its.toArray n dd sl k t c0 c1 c2 (by omega) c4 (by rw [size_rep, List.size_toArray]; exact flen)) ⟨ho, ?_⟩⟩)
  rw [size_rep]
  refine ⟨.ref s.heap.objs.size, _, I.laid (t' := s.toks) (o := .frz { cls := .type "tuple", data := .seq (List.replicate k.toNat its).flatten.toArray } (.tup (List.replicate k.toNat xs).flatten)) (fun b ob q => Heap.get?_push_of_some _ q) (Nat.le_refl _) ?_, rfl, q _ _ (fun b x e => by rw [upd_ne (ne_of_none e (I.hok.fresh (Nat.le_refl _)))]; exact e) ⟨_, upd_same, rfl, rfl⟩⟩
  exact ⟨Heap.get?_push_size _ rfl, by rw [PyProof.Rows.lm_len_rep_flat, sizeLine_eq]; have a1 : k.toNat * xs.length ≤ 1000 * 1000 := Nat.mul_le_mul (by omega) hz; omega, _, r.rep k.toNat, IsTup.new _ _⟩

/-! ### xs[i] op= v, the read -/
theorem pget_list : PGet X (rIxL X.K) := by
  intro pins s σ H x y v u Q I rx ry h
  obtain ⟨p, xs, i, w', rfl, rfl, hq, hat, q⟩ := h
  cases rx
  obtain ⟨t, rfl⟩ := ry
  obtain ⟨its, rv, pl, hz⟩ := I.list hq
  obtain ⟨j, h1, h2, h3, h4, h5⟩ := atI_get hat
  obtain ⟨z, hz1, hz2⟩ := rv.get h2
  have hl := rv.length
  have hn := line63
  have fin : EP X pins σ Q z s := ⟨w', H, I, hz2, q⟩
  by_cases h0 : 0 ≤ i
  · have hj : i.toNat = j := by
      rw [seqIndex_of h0 h5] at h1
      exact Option.some.inj h1
    exact wpAny_getItem_list pl.isList h0 (by omega) (by rw [hj]; simpa using hz1) fin
  · have hj : (i + (its.toArray.size : Int)).toNat = j := by
      rw [seqIndex_neg (by omega) h4] at h1
      rw [List.size_toArray, ← hl]
      exact Option.some.inj h1
    exact wpAny_getItem_list_neg pl.isList (by omega) (by rw [List.size_toArray] <;> omega) (by omega) (by rw [hj]; simpa using hz1) fin

/-! ### list(range(a, b, -1)) -/
theorem pe_listRg3 {a b c : Expr} {ta : TA} {p p2 pos pos2 : Pos} (hc : X.calm = true) (hg : Gl X "list") (hm : X.mg "list" = none) (hg2 : Gl X "range") (hm2 : X.mg "range" = none) (ha : PA X [a, b, c] ta)
    (hs : starEach [a, b, c] X.env = (false, eval a X.env) :: starEach [b, c] X.env := by rfl) (hpl : (backTo pos2 (starEach [b, c] X.env)).any (·.1) = false := by rfl)
    (na : starEach [.Call (.Name "range" p2) [a, b, c] [] pos2] X.env = (false, eval (.Call (.Name "range" p2) [a, b, c] [] pos2) X.env) :: starEach [] X.env := by rfl) :
    PE X (.Call (.Name "list" p) [.Call (.Name "range" p2) [a, b, c] [] pos2] [] pos)
      (fun σ H Q => ta σ H fun vs H1 => ∃ (i j c : Int) (n : Nat), vs = [.int i, .int j, .int c] ∧ RgC i j c n ∧ n ≤ 1000 ∧ ∀ q, H1 q = none → Q (.ref q) (upd H1 q (.lst ((List.range n).map fun (m : Nat) => V.int (i + m * c))))) := by
  refine ⟨fun pins s σ H Q I h => ?_⟩
  refine Call_ (ld_blt I hg hm boot_list (PyProof.Rows.callWith_type1 (args_cons ?_ na) na rfl))
  refine Call_ (ld_blt I hg2 hm2 boot_range (PyProof.Rows.callWith_type1 (thn (ha.run pos2 pins s σ H _ I h) fun us s1 ⟨vs, H1, I1, r1, q1⟩ => ?_) hs hpl))
  obtain ⟨i, j, k, n, e, ⟨c0, c1, c2, c3⟩, hn, q⟩ := q1
  subst e
  cases r1 with
  | cons r rr =>
    cases rr with
    | cons r' rr =>
      cases rr with
      | cons r'' rr =>
        cases rr
        obtain ⟨t, rfl⟩ := r
        obtain ⟨t', rfl⟩ := r'
        obtain ⟨t'', rfl⟩ := r''
        refine call_range_3 c0 (args_nil ?_) (.inl (PyProof.noPylong_small c1))
        have I2 : Inv X pins σ H1 { s1 with heap := s1.heap.push { cls := .type "range", data := .fields #[.int i t, .int j t', .int k t''] } } := I1.kept (t' := s1.toks) fun b o e => Heap.get?_push_of_some _ e
        refine call_list_range (n := n) (I1.ok.hd hc) (IsRange.new ..) c2 c3 (by omega) fun h' tk acc c' hk e' hi => ?_
        have hlen : ((List.range n).map fun (m : Nat) => V.int (i + m * k)).length = n := by simp
        have hacc : acc.toList.length = n := by rw [Array.length_toList]; exact hi.1
        refine ⟨.ref _, upd H1 _ (.lst ((List.range n).map fun (m : Nat) => V.int (i + m * k))), I2.laid (t' := tk) hk (Nat.le_refl _) (show ObjOk X.prog X.w _ _ _ (.lst _) from ⟨?_, acc.toList, c', ?_, ?_⟩), rfl, q _ (I2.hok.fresh (Nat.le_refl _))⟩
        · rw [hlen, sizeLine_eq]; omega
        · rw [← hacc]
          refine vals_of_get acc.toList _ fun j u hj => ?_
          obtain ⟨t, rfl⟩ := hi.2 j u (by rw [← hj, Array.getElem?_toList])
          exact ⟨t, rfl⟩
        · rw [Array.toArray_toList]; exact e'

/-! ### dict(list of (tuple, value)), no key twice -/
theorem storedAll_new {κ : Type} [DecidableEq κ] : ∀ (ps acc : List (κ × Addr × Value)), ((acc ++ ps).map (·.1)).Nodup → storedAllH acc ps = acc ++ ps
  | [], acc, _ => by simp [storedAllH]
  | p :: ps, acc, nd => by
    have hn : atKey acc p.1 = none := by
      unfold atKey
      rw [Option.map_eq_none_iff, List.find?_eq_none]
      intro x hx q
      have q := of_decide_eq_true q
      rw [List.map_append, List.nodup_append] at nd
      exact nd.2.2 x.1 (List.mem_map.mpr ⟨x, hx, rfl⟩) p.1 (by simp) q
    have e : storedH acc p.1 p.2.1 p.2.2 = acc ++ [p] := by
      unfold storedH
      rw [hn]
      rfl
    have ih := storedAll_new ps (acc ++ [p]) (by rw [List.append_assoc]; exact nd)
    show storedAllH (storedH acc p.1 p.2.1 p.2.2) ps = _
    rw [e, ih, List.append_assoc]
    rfl
theorem ner_keys {xs : NEs} {ys : List (NestedKey × Addr × Value)} (r : Paired NER xs ys) : ys.map (·.1) = xs.map (·.1) := by
  induction r with
  | nil => rfl
  | cons h t ih => rw [List.map_cons, List.map_cons, ih, h.1]
/-- the pair at p of the key tuple at b and the value -/
def PairN (H : Hp) (p : Addr) (x : NestedKey × Addr × V) : Prop := Rd H p (.tup [.ref x.2.1, x.2.2]) ∧ NK H (.ref x.2.1) x.1 ∧ x.1.depth ≤ 8
theorem cr_dictN (hc : X.calm = true) (hu : X.A.units + 64 < cLine) : CallR X (.type "dict") (fun xs H Q => ∃ (a : Addr) (ps : List Addr) (es : NEs), xs = [.ref a] ∧ SqL X.K H a (ps.map V.ref) ∧ Paired (PairN H) ps es ∧ (es.map (·.1)).Nodup ∧ es.length ≤ 1000 ∧
    ∀ (p : Addr) (H' : Hp), H p = none → H' = upd H p (dN X.prog X.w p es) → DN X.prog X.w H' p (es.map fun x => (x.1, x.2.2)) → Q (.ref p) H') := by
  intro pins s σ H xs us Q I r q
  obtain ⟨a, ps, es, ex, hq, hp, nd, hlen, q⟩ := q
  subst ex
  obtain ⟨u, eu, rx⟩ := vals1 r
  subst eu
  cases rx
  obtain ⟨its, rv, pl, hz⟩ := I.list hq
  have ei := refs_at rv
  subst ei
  obtain ⟨o, n, ho, hcl, hd, hdat⟩ := pl
  -- the values
  obtain ⟨ys, ry, hys⟩ : ∃ ys : List (NestedKey × Addr × Value), Paired NER es ys ∧ ∀ (j : Nat) (y : NestedKey × Addr × Value), ys[j]? = some y → ∃ p, ps[j]? = some p ∧ IsTup s.heap p #[.ref y.2.1, y.2.2] ∧ (nestedKind X.prog X.w).is s.heap y.1 y.2.1 := by
    clear q nd hlen hq rv hz hdat
    induction hp with
    | nil => exact ⟨[], .nil, fun j y e => by simp at e⟩
    | @cons p x ps es h t ih =>
      obtain ⟨ys, r1, r2⟩ := ih
      obtain ⟨hr, hk, hdp⟩ := h
      obtain ⟨_, its, rv, ht⟩ := hr.ok I.hok
      obtain ⟨u, y, ei, ru, ry⟩ := vals2 rv
      subst ei
      cases ru
      refine ⟨(x.1, x.2.1, y) :: ys, .cons ⟨rfl, rfl, ry⟩ r1, fun j z e => ?_⟩
      cases j with
      | zero =>
        have e' : (x.1, x.2.1, y) = z := Option.some.inj e
        subst e'
        exact ⟨p, rfl, ht, hk.key I.hok hdp⟩
      | succ j =>
        obtain ⟨b, e1, e2⟩ := r2 j z (by simpa using e)
        exact ⟨b, by simpa using e1, e2⟩
  have hl := Paired.length ry
  have hpl := Paired.length hp
  have nd2 : (ys.map (·.1)).Nodup := by
    rw [ner_keys ry]; exact nd
  -- the pairs, by their addresses
  have hitem : PairItems s.heap (ps.map Value.ref).toArray (fun j => ps.getD j 0) (ys.map fun y => (Value.ref y.2.1, y.2.2)) := by
    refine ⟨by simp; omega, fun j k v e => ?_⟩
    rw [List.getElem?_map] at e
    cases ey : ys[j]? with
    | none => rw [ey] at e; cases e
    | some y =>
      rw [ey] at e
      obtain ⟨p, e1, e2, _⟩ := hys j y ey
      have e' : (Value.ref y.2.1, y.2.2) = (k, v) := Option.some.inj e
      cases e'
      have e3 : ps.getD j 0 = p := by rw [List.getD_eq_getElem?_getD, e1]; rfl
      refine ⟨by simp [e1, e3], ?_⟩
      show PairAt s.heap (ps.getD j 0) _ _
      rw [e3]
      exact .inl e2
  have hlen2 : (ys.map fun y => (Value.ref y.2.1, y.2.2)).length = es.length := by rw [List.length_map]; omega
  have hu2 : (nestedKind X.prog X.w).room X.A.in1.in1 := by
    show X.A.units + 1 + 1 + 8 < cLine
    omega
  refine call_dict_pairsH (knd := nestedKind X.prog X.w) (ps := ys) (PairArg.list a (ps.map Value.ref).toArray (fun j => ps.getD j 0) (ys.map fun y => (Value.ref y.2.1, y.2.2))) (I.ok.hd hc) hu2 ⟨⟨o, n, ho, hcl, hd, hdat⟩, hitem⟩
    ⟨by rw [hlen2]; omega, fun i key v e => ?_⟩ (fun h' hk y hy => ?_) (by rw [hlen2, sizeLine_eq]; omega) fun h' tk dd hk => ?_
  · have e : (ys.map fun y => (Value.ref y.2.1, y.2.2))[i]? = some (key, v) := e
    rw [List.getElem?_map] at e
    cases ey : ys[i]? with
    | none => rw [ey] at e; cases e
    | some y =>
      rw [ey] at e
      cases (Option.some.inj e)
      exact ⟨y.1, y.2.1, rfl, rfl⟩
  · obtain ⟨j, hj, rfl⟩ := List.getElem_of_mem hy
    obtain ⟨_, _, _, e3⟩ := hys j _ (List.getElem?_eq_getElem hj)
    exact nestedKind_stays.stays (fun b ob vs n e _ => hk b ob (Nat.ne_of_lt (Heap.lt_size e)) (by simp) e) e3
  · rw [storedAll_new ys [] (by simpa using nd2), List.nil_append] at dd
    obtain ⟨od, es', ep, ho', hex, hdat', hes, _, hnd⟩ := dd
    have hm : (s.heap.objs.size == sysModules) = false := beq_eq_false_iff_ne.mpr (Nat.ne_of_gt I.big)
    have hf := I.hok.fresh (Nat.le_refl s.heap.objs.size)
    have ob : NObj X.prog X.w s.heap.objs.size es h' := ⟨by rw [sizeLine_eq]; omega, hm, ys, ry, od, es', ep, ho', hex, hdat', hes, hnd⟩
    have sm : Same H (upd H s.heap.objs.size (dN X.prog X.w s.heap.objs.size es)) := fun b x e => by rw [upd_ne (ne_of_none e hf)]; exact e
    refine ⟨.ref s.heap.objs.size, _, I.laid (t' := tk) (fun b ob e => hk b ob (by simp) e) (Nat.le_refl _) ob.ok, rfl, q _ _ hf rfl ⟨es, upd_same, fun x hx => ?_, rfl⟩⟩
    obtain ⟨j, hj, rfl⟩ := List.getElem_of_mem hx
    have hj2 : j < ps.length := by omega
    obtain ⟨b, hb, h1, h2, h3⟩ := paired_get hp (List.getElem?_eq_getElem hj2)
    rw [List.getElem?_eq_getElem hj] at hb
    cases hb
    exact ⟨h2.mono sm.t, h3⟩
end
end L2

set_option Elab.async false
set_option linter.all false
set_option maxRecDepth 100000
set_option maxHeartbeats 4000000
namespace K62
open PySem PySem.Spec PyProof.Rows L2
/-! ### the text by places -/
def topS (i : Nat) : Stmt := PySem.Challenge.pw_ringchief_k62_whole_no_comparing_log_bel.main.body.getD i (.Pass ⟨0, 0, 0, 0⟩)
/-- a def of the text as it stands behind the top -/
structure Df (K : PySem.W.Frag) (mg : Str → Option Value) (nm : Str) (st : Stmt) (ps : List Str) where
  f : Addr
  fd : FuncData
  F : Fun K nm nm st f fd
  g : mg nm = some (.ref f)
  b : Binds K fd ps []
/-- the names that are still built-ins -/
structure Txt (mg : Str → Option Value) : Prop where
  len : mg "len" = none
  range : mg "range" = none
  set : mg "set" = none
  sorted : mg "sorted" = none
  enumerate : mg "enumerate" = none
  dict : mg "dict" = none
  tuple : mg "tuple" = none
  max : mg "max" = none
  min : mg "min" = none
  sum : mg "sum" = none
  all : mg "all" = none
  abs : mg "abs" = none
  list : mg "list" = none
  int : mg "int" = none
  zip : mg "zip" = none

/-! ### heaps and data -/
theorem same_new {H : Hp} {p : Addr} {o : HO} (h : H p = none) : Same H (upd H p o) := fun b x e => by
  rw [upd_ne (ne_of_none e h)]
  exact e
/-- what was there ahead of H0 stays though a newer object changes -/
theorem same_mut {H0 H : Hp} {p : Addr} {o : HO} (s : Same H0 H) (h : H0 p = none) : Same H0 (upd H p o) := fun b x e => by
  rw [upd_ne (ne_of_none e h)]
  exact s _ _ e
theorem _root_.L2.Same.none {H H' : Hp} (e : Same H H') {l : Addr} (h : H' l = Option.none) : H l = Option.none := e.free h
/-- a tuple of xs at a -/
abbrev TupA (H : Hp) (a : Addr) (xs : List V) : Prop := Rd H a (.tup xs)
theorem tup_sq {K : PySem.W.Frag} {H : Hp} {a : Addr} {xs : List V} (h : TupA H a xs) : SqT K H a xs := .inl h
theorem _root_.L2.TupF.tup {H : Hp} {a : Addr} {xs : List V} (h : TupF H a xs) : TupA H a xs := let ⟨o, e, _⟩ := h; .inr ⟨o, e⟩
theorem tup_new {H : Hp} {a : Addr} {xs : List V} : TupA (upd H a (.tup xs)) a xs := .inl upd_same
theorem TupA.mono {H H' : Hp} {a : Addr} {xs : List V} (s : TSame H H') (h : TupA H a xs) : TupA H' a xs := s _ _ h
theorem TupA.same {H H' : Hp} {a : Addr} {xs : List V} (s : Same H H') (h : TupA H a xs) : TupA H' a xs := s.t _ _ h
theorem _root_.L2.TupF.mono {H H' : Hp} {a : Addr} {xs : List V} (s : ∀ o, H a = some o → H' a = some o) (h : TupF H a xs) : TupF H' a xs := let ⟨o, e, r⟩ := h; ⟨o, s _ e, r⟩
/-- the tuples stand, the known ones as such -/
def TSm (H H' : Hp) : Prop := (∀ a xs, H a = some (.tup xs) → H' a = some (.tup xs)) ∧ ∀ a o u, H a = some (.frz o u) → H' a = some (.frz o u)
theorem _root_.L2.Same.ts {H H' : Hp} (s : Same H H') : TSm H H' := ⟨fun a xs h => s _ _ h, fun a o xs h => s _ _ h⟩
theorem TSm.t {H H' : Hp} (s : TSm H H') : TSame H H' := fun a xs h => by
  rcases h with h | ⟨o, h⟩
  · exact .inl (s.1 _ _ h)
  · exact .inr ⟨o, s.2 _ _ _ h⟩
theorem TSm.refl (H : Hp) : TSm H H := ⟨fun _ _ h => h, fun _ _ _ h => h⟩
theorem TSm.trans {H H1 H2 : Hp} (a : TSm H H1) (b : TSm H1 H2) : TSm H H2 := ⟨fun p xs h => b.1 _ _ (a.1 p xs h), fun p o xs h => b.2 _ _ _ (a.2 p o xs h)⟩
/-- an object that is no tuple is written -/
theorem TSm.upd {H : Hp} {p : Addr} {o u : HO} (h : H p = some u) (h1 : ∀ xs, u ≠ .tup xs) (h2 : ∀ ob v, u ≠ .frz ob v) : TSm H (upd H p o) := by
  refine ⟨fun a xs q => ?_, fun a ob v q => ?_⟩
  · have : a ≠ p := fun e => by subst e; rw [h] at q; exact h1 xs (Option.some.inj q)
    rw [upd_ne this]; exact q
  · have : a ≠ p := fun e => by subst e; rw [h] at q; exact h2 ob v (Option.some.inj q)
    rw [upd_ne this]; exact q
theorem TSm.lst {H : Hp} {p : Addr} {xs ys : List V} (h : H p = some (.lst xs)) : TSm H (L2.upd H p (.lst ys)) := TSm.upd h (fun _ z => by cases z) (fun _ _ z => by cases z)
theorem TSm.f {H H' : Hp} {a : Addr} {xs : List V} (s : TSm H H') (h : TupF H a xs) : TupF H' a xs := let ⟨o, e, r⟩ := h; ⟨o, s.2 _ _ _ e, r⟩
abbrev vI (ns : List Int) : List V := ns.map V.int
abbrev vR (as : List Addr) : List V := as.map V.ref
theorem vR_snoc (as : List Addr) (b : Addr) : vR (as ++ [b]) = vR as ++ [.ref b] := by rw [vR, List.map_append]; rfl
theorem vI_snoc (as : List Int) (b : Int) : vI (as ++ [b]) = vI as ++ [.int b] := by rw [vI, List.map_append]; rfl
/-- a tuple of things that F tells -/
def TupOf {α : Type} (F : Hp → Addr → α → Prop) (H : Hp) (a : Addr) (xs : List α) : Prop := ∃ as : List Addr, TupA H a (vR as) ∧ Paired (F H) as xs
def LstOf {α : Type} (F : Hp → Addr → α → Prop) (H : Hp) (a : Addr) (xs : List α) : Prop := ∃ as : List Addr, H a = some (.lst (vR as)) ∧ Paired (F H) as xs
abbrev IntsT (H : Hp) (a : Addr) (ns : List Int) : Prop := TupA H a (vI ns)
abbrev RowF (H : Hp) (a : Addr) (ns : List Int) : Prop := TupF H a (vI ns)
abbrev PairT (H : Hp) (a : Addr) (p : Int × Int) : Prop := TupA H a [.int p.1, .int p.2]
abbrev TripT (H : Hp) (a : Addr) (e : Int × Int × Int) : Prop := TupA H a [.int e.1, .int e.2.1, .int e.2.2]
abbrev TurnT (H : Hp) (a : Addr) (t : Tr) : Prop := TupOf TripT H a t
abbrev SightsL (H : Hp) (a : Addr) (s : List (Int × Int)) : Prop := LstOf PairT H a s
theorem TupOf.mono {α : Type} {F : Hp → Addr → α → Prop} {H H' : Hp} {a : Addr} {xs : List α} (s : TSm H H') (f : ∀ b x, F H b x → F H' b x) (h : TupOf F H a xs) : TupOf F H' a xs :=
  let ⟨as, h1, h2⟩ := h; ⟨as, s.t _ _ h1, L2.Paired.mapP h2 f⟩
theorem LstOf.mono {α : Type} {F : Hp → Addr → α → Prop} {H H' : Hp} {a : Addr} {xs : List α} (ha : ∀ o, H a = some o → H' a = some o) (f : ∀ b x, F H b x → F H' b x) (h : LstOf F H a xs) : LstOf F H' a xs :=
  let ⟨as, h1, h2⟩ := h; ⟨as, ha _ h1, L2.Paired.mapP h2 f⟩
theorem trip_mono {H H' : Hp} (s : TSm H H') : ∀ b e, TripT H b e → TripT H' b e := fun _ _ h => s.t _ _ h
theorem pair_mono {H H' : Hp} (s : TSm H H') : ∀ b e, PairT H b e → PairT H' b e := fun _ _ h => s.t _ _ h
theorem turn_mono {H H' : Hp} (s : TSm H H') : ∀ b t, TurnT H b t → TurnT H' b t := fun _ _ h => h.mono s (trip_mono s)
theorem rowf_mono {H H' : Hp} (s : TSm H H') : ∀ b t, RowF H b t → RowF H' b t := fun _ _ h => s.f h
theorem Paired.at {α β : Type} {G : α → β → Prop} {l₁ : List α} {l₂ : List β} (h : Paired G l₁ l₂) {i : Nat} {b : β} (e : l₂[i]? = some b) : ∃ a, l₁[i]? = some a ∧ G a b := by
  have hl := Paired.length h
  obtain ⟨hi, _⟩ := List.getElem?_eq_some_iff.mp e
  obtain ⟨b', hb, g⟩ := paired_get h (List.getElem?_eq_getElem (show i < l₁.length by omega))
  rw [e] at hb; cases hb
  exact ⟨_, List.getElem?_eq_getElem (by omega), g⟩
theorem vI_at {ns : List Int} {i : Nat} {z : Int} (h : ns[i]? = some z) : (vI ns)[i]? = some (.int z) := by
  rw [List.getElem?_map, h]; rfl
theorem vR_at {ns : List Addr} {i : Nat} {z : Addr} (h : ns[i]? = some z) : (vR ns)[i]? = some (.ref z) := by
  rw [List.getElem?_map, h]; rfl
theorem of_vI {ns : List Int} {i : Nat} {x : V} (h : (vI ns)[i]? = some x) : ∃ z, ns[i]? = some z ∧ x = .int z := by
  rw [List.getElem?_map] at h
  cases e : ns[i]? with
  | none => rw [e] at h; cases h
  | some z => rw [e] at h; exact ⟨z, rfl, (Option.some.inj h).symm⟩
theorem of_vR {ns : List Addr} {i : Nat} {x : V} (h : (vR ns)[i]? = some x) : ∃ z, ns[i]? = some z ∧ x = .ref z := by
  rw [List.getElem?_map] at h
  cases e : ns[i]? with
  | none => rw [e] at h; cases h
  | some z => rw [e] at h; exact ⟨z, rfl, (Option.some.inj h).symm⟩
/-- an index that is not negative -/
theorem at_int {xs : List V} {z : Int} {v : V} (h0 : 0 ≤ z) (h : xs[z.toNat]? = some v) : atI xs z = some v := by
  have e : z = ((z.toNat : Nat) : Int) := by omega
  rw [e]
  exact atI_nat h
theorem gI_at {row : List Int} {z : Int} (h0 : 0 ≤ z) (h1 : z < row.length) : row[z.toNat]? = some (gI row z) := by
  unfold gI
  rw [List.getD_eq_getElem?_getD, List.getElem?_eq_getElem (by omega : z.toNat < row.length)]
  rfl
theorem gS_at {row : List (Int × Int)} {z : Int} (h0 : 0 ≤ z) (h1 : z < row.length) : row[z.toNat]? = some (gS row z) := by
  unfold gS
  rw [List.getD_eq_getElem?_getD, List.getElem?_eq_getElem (by omega : z.toNat < row.length)]
  rfl
/-! ### readings by name -/
abbrev rAddI : R2 := rI0 fun i j => .int (i + j)
abbrev rSubI : R2 := rI0 fun i j => .int (i - j)
abbrev rMulI : R2 := rI CMul fun i j => .int (i * j)
abbrev rModI : R2 := rI (fun _ j => 0 < j) fun i j => .int (i % j)
abbrev rDivI : R2 := rI CDiv fun i j => .int (i / j)
abbrev rLtI : R2 := rI0 fun i j => .bl (decide (i < j))
abbrev rLeI : R2 := rI0 fun i j => .bl (decide (i ≤ j))
abbrev rGtI : R2 := rI0 fun i j => .bl (decide (j < i))
abbrev rGeI : R2 := rI0 fun i j => .bl (decide (j ≤ i))
abbrev rLenQ (K : PySem.W.Frag) : List V → Hp → VK → Prop := fun xs H Q => ∃ p ys, xs = [.ref p] ∧ (SqL K H p ys ∨ SqT K H p ys) ∧ Q (.int ys.length) H
abbrev rIntQ : List V → Hp → VK → Prop := fun xs H Q => (∃ i, xs = [.int i] ∧ Q (.int i) H) ∨ ∃ k, xs = [.bl k] ∧ Q (.int (if k then 1 else 0)) H
abbrev rAbsQ : List V → Hp → VK → Prop := fun xs H Q => ∃ i, xs = [.int i] ∧ Q (.int (if i < 0 then -i else i)) H
theorem small2 : (2 : Nat) ≤ sizeLine := by decide
theorem szle {n : Nat} (h : n ≤ 1000) : n ≤ sizeLine := Nat.le_of_lt (small1000 h)
theorem szlt {n : Nat} (h : n ≤ 1000) : n < sizeLine := small1000 h
end K62

set_option Elab.async false
set_option linter.all false
set_option maxRecDepth 100000
set_option maxHeartbeats 4000000
namespace K62
open PySem PySem.Spec PyProof.Rows L2
/-! ### comprehensions, by what each turn gives -/
theorem range_succ_filter_map {α : Type} (i : Nat) (p : Nat → Bool) (f : Nat → α) :
    ((List.range (i + 1)).filter p).map f = ((List.range i).filter p).map f ++ (if p i = true then [f i] else []) := by
  rw [List.range_succ, List.filter_append, List.map_append]
  by_cases h : p i = true
  · simp [List.filter_cons, h]
  · simp [List.filter_cons, h]
section
variable {J : It} {n : Nat} {G : Hp → Prop} {Y : Nat → Hp → V → Hp → Prop} {g : TG} {tt : TT} {te : TE} {vs : List Nat} {σ : L2.St} {H0 : Hp} {D : Addr} {Qd : Hp → Prop}
/-- scalars -/
theorem lc_vals (w : Walk J n G Y) (p : Nat → Bool) (f : Nat → V) (hD : H0 D = none) (hn : n ≤ 1000) (hG : ∀ H, Same H0 H → G H) (hY : ∀ i H x H', Y i H x H' → Same H H')
    (hs : ∀ i x H H', i < n → Same H0 H → Y i H x H' → ∀ (k : V → Hp → Prop) (k0 : Hp → Prop), (p i = true → ∀ H4, Same H' H4 → k (f i) H4) → (p i = false → ∀ H4, Same H' H4 → k0 H4) →
      g x (wipe σ vs) H' fun σ2 H2 => wipe σ2 vs = wipe σ vs ∧ tt σ2 H2 fun b H3 => if b = true then te σ2 H3 k else k0 H3)
    (hd : ∀ H, Same H0 H → H D = some (.lst (((List.range n).filter p).map f)) → Qd H) :
    ∃ W : Nat → Nat → Hp → Prop, (∃ m, W 0 m (upd H0 D (.lst []))) ∧ ∀ i m H, W i m H →
      (J.stop i H ∧ Qd H) ∨ (J.go i H ∧ ∃ Nx : Hp → Prop, (∀ H', Nx H' → ∃ m', m' < m ∧ W (i + 1) m' H') ∧ ∀ x H', J.yld i H x H' → g x (wipe σ vs) H' fun σ2 H2 => wipe σ2 vs = wipe σ vs ∧ tt σ2 H2 fun b H3 =>
        if b = true then te σ2 H3 fun y H4 => ∃ acc, H4 D = some (.lst acc) ∧ acc.length < sizeLine ∧ Nx (upd H4 D (.lst (acc ++ [y]))) else Nx H3) := by
  refine lc_it w (fun i H => Same H0 H ∧ H D = some (.lst (((List.range i).filter p).map f))) ⟨same_new hD, upd_same⟩ (fun i H _ h => hG H h.1) (fun i x H H' hi h y => ?_) (fun H h => hd H h.1 h.2)
  obtain ⟨h1, h2⟩ := h
  have sY := hY _ _ _ _ y
  have hDn : ∀ {b o}, H0 b = some o → b ≠ D := fun e => ne_of_none e hD
  have hlen : (((List.range i).filter p).map f).length ≤ 1000 := by
    rw [List.length_map]
    have := List.length_filter_le p (List.range i)
    rw [List.length_range] at this
    omega
  refine hs i x H H' hi h1 y _ _ (fun hp H4 s4 => ?_) (fun hp H4 s4 => ?_)
  · refine ⟨_, s4 _ _ (sY _ _ h2), szlt hlen, same_mut (h1.trans (sY.trans s4)) hD, ?_⟩
    rw [upd_same, range_succ_filter_map, if_pos hp]
  · refine ⟨h1.trans (sY.trans s4), ?_⟩
    rw [s4 _ _ (sY _ _ h2), range_succ_filter_map, if_neg (by rw [hp]; exact Bool.false_ne_true), List.append_nil]
/-- things at addresses -/
theorem lc_refs {α : Type} (F : Hp → Addr → α → Prop) (hF : ∀ H H' b x, TSm H H' → F H b x → F H' b x) (w : Walk J n G Y) (p : Nat → Bool) (f : Nat → α) (hD : H0 D = none) (hn : n ≤ 1000) (hG : ∀ H, Same H0 H → G H) (hY : ∀ i H x H', Y i H x H' → Same H H')
    (hs : ∀ i x H H', i < n → Same H0 H → Y i H x H' → ∀ (k : V → Hp → Prop) (k0 : Hp → Prop), (p i = true → ∀ b H4, Same H' H4 → F H4 b (f i) → k (.ref b) H4) → (p i = false → ∀ H4, Same H' H4 → k0 H4) →
      g x (wipe σ vs) H' fun σ2 H2 => wipe σ2 vs = wipe σ vs ∧ tt σ2 H2 fun b H3 => if b = true then te σ2 H3 k else k0 H3)
    (hd : ∀ H, Same H0 H → LstOf F H D (((List.range n).filter p).map f) → Qd H) :
    ∃ W : Nat → Nat → Hp → Prop, (∃ m, W 0 m (upd H0 D (.lst []))) ∧ ∀ i m H, W i m H →
      (J.stop i H ∧ Qd H) ∨ (J.go i H ∧ ∃ Nx : Hp → Prop, (∀ H', Nx H' → ∃ m', m' < m ∧ W (i + 1) m' H') ∧ ∀ x H', J.yld i H x H' → g x (wipe σ vs) H' fun σ2 H2 => wipe σ2 vs = wipe σ vs ∧ tt σ2 H2 fun b H3 =>
        if b = true then te σ2 H3 fun y H4 => ∃ acc, H4 D = some (.lst acc) ∧ acc.length < sizeLine ∧ Nx (upd H4 D (.lst (acc ++ [y]))) else Nx H3) := by
  refine lc_it w (fun i H => Same H0 H ∧ LstOf F H D (((List.range i).filter p).map f)) ⟨same_new hD, [], upd_same, .nil⟩ (fun i H _ h => hG H h.1) (fun i x H H' hi h y => ?_) (fun H h => hd H h.1 h.2)
  obtain ⟨h1, as, h2, h3⟩ := h
  have sY := hY _ _ _ _ y
  have hlen : (vR as).length ≤ 1000 := by
    rw [List.length_map, Paired.length h3, List.length_map]
    have := List.length_filter_le p (List.range i)
    rw [List.length_range] at this
    omega
  refine hs i x H H' hi h1 y _ _ (fun hp b H4 s4 hb => ?_) (fun hp H4 s4 => ?_)
  · have e4 := s4 _ _ (sY _ _ h2)
    refine ⟨_, e4, szlt hlen, same_mut (h1.trans (sY.trans s4)) hD, as ++ [b], ?_, ?_⟩
    · rw [upd_same, vR_snoc]
    · rw [range_succ_filter_map, if_pos hp]
      have t4 : TSm H4 (upd H4 D (.lst (vR as ++ [.ref b]))) := TSm.lst e4
      exact PySem.Paired.snoc (L2.Paired.mapP h3 fun _ _ q => hF _ _ _ _ ((sY.trans s4).ts.trans t4) q) (hF _ _ _ _ t4 hb)
  · refine ⟨h1.trans (sY.trans s4), as, s4 _ _ (sY _ _ h2), ?_⟩
    rw [range_succ_filter_map, if_neg (by rw [hp]; exact Bool.false_ne_true), List.append_nil]
    exact L2.Paired.mapP h3 fun _ _ q => hF _ _ _ _ (sY.trans s4).ts q
end
theorem yAt_same {xs : List V} : ∀ i H x H', YAt xs i H x H' → Same H H' := fun i H x H' y => by rw [y.1]; exact Same.refl _
theorem yFn_same {f : Nat → V} : ∀ i H x H', YFn f i H x H' → Same H H' := fun i H x H' y => by rw [y.1]; exact Same.refl _
theorem yPair_same {xs ys : Nat → Option V} : ∀ i H x H', YPair xs ys i H x H' → Same H H' := fun i H x H' y => by
  obtain ⟨T, _, _, _, nT, e, _⟩ := y
  rw [e]; exact same_new nT
theorem yesT {σ : L2.St} {H : Hp} {A B : Hp → Prop} (h : A H) : tYes σ H (fun b H3 => if b = true then A H3 else B H3) := h
theorem filter_all {α : Type} (l : List α) : l.filter (fun _ => true) = l := by simp
end K62

set_option Elab.async false
set_option linter.all false
set_option maxRecDepth 100000
set_option maxHeartbeats 4000000
namespace K62
open PySem PySem.Spec PyProof.Rows L2
/-! ### told: a turn's dict -/
abbrev kk (h s : Int) : NestedKey := .tup [.num h, .num s]
theorem kk_dp (h s : Int) : (kk h s).depth ≤ 8 := by
  show max 0 (max 0 0) + 1 ≤ 8
  omega
theorem nk_pair {H : Hp} {a : Addr} {h s : Int} (t : TupA H a [.int h, .int s]) : NK H (.ref a) (kk h s) := .tup t (.cons (.num h) (.cons (.num s) .nil))
/-- at d the dict of the turn t -/
def Told (P : Program) (w : World) (H : Hp) (d : Addr) (t : Tr) : Prop :=
  ∃ kvs, DN P w H d kvs ∧ ∀ h s : Int, valV kvs (kk h s) = if 0 < tl t h s then some (.int (tl t h s)) else none
theorem Told.same {P : Program} {w : World} {H H' : Hp} {d : Addr} {t : Tr} (s : Same H H') (x : Told P w H d t) : Told P w H' d t := let ⟨k, h1, h2⟩ := x; ⟨k, h1.same s, h2⟩
section
variable {P : Program} {w : World} {K : PySem.W.Frag} {mg : Str → Option Value} {base : Heap}
abbrev s5 : Stmt := topS 5
theorem sc5 : FnScope ["row", "told", "teller", "side"] ["row", "told", "teller", "side"] (defScope s5) := ⟨rfl, rfl, rfl, by decide +kernel, rfl, by decide +kernel, by decide +kernel⟩
abbrev D5 (K : PySem.W.Frag) (mg : Str → Option Value) := Df K mg "heard_from" s5 ["row", "told", "teller", "side"]
def spHeard (P : Program) (w : World) : Sp := fun vs H Q _ => ∃ (r d : Addr) (te sd : Int) (row : List Int) (t : Tr), vs = [.ref r, .ref d, .int te, .int sd] ∧ IntsT H r row ∧ Told P w H d t ∧ 0 ≤ te ∧ te < row.length ∧
  ∀ H' p, Same H H' → PairT H' p (heard row t te sd) → Q (.ref p) H'
theorem ok_heard (D : D5 K mg) (T : Txt mg) : FnOk P w K mg base CX0 1 D.f D.fd ["row", "told", "teller", "side"] (spHeard P w) := by
  refine D.F.ok sc5 (fun vs H Q E h => ?_) (fun cdv A outer s H vs Q E hr h => ?_)
  · obtain ⟨r, d, te, sd, row, t, rfl, _⟩ := h
    rfl
  · obtain ⟨r, d, te, sd, row, t, rfl, hR, hT, h0, h1, q⟩ := h
    have hu := hr.units
    refine ⟨_, (pss_cons (ps_if (pt_cmp (pc_nnotin hu (pe_tup (pa_cons (pv 2) (pa_cons (pv 3) pa_nil))) (pv 1)))
  (pss_one (ps_ret (pe_tup (pa_cons pe_int (pa_cons pe_int pa_nil)))))
  pss_nil)
  (pss_one (ps_ret (pe_tup (pa_cons (pe_nget hu (pv 1) (pe_tup (pa_cons (pv 2) (pa_cons (pv 3) pa_nil))) (fun _ _ => rfl)) (pa_cons (pe_ix ix_tup (pv 0) (pv 2) (fun _ _ => rfl)) pa_nil)))))), ?_⟩
    refine ⟨_, rfl, _, rfl, small2, fun p np => ?_⟩
    have s1 : Same H (upd H p (.tup [.int te, .int sd])) := same_new np
    obtain ⟨kvs, hD, hv⟩ := hT.same s1
    refine ⟨_, rfl, d, kvs, p, kk te sd, rfl, rfl, hD, nk_pair tup_new, kk_dp _ _, _, rfl, ?_⟩
    by_cases c : 0 < tl t te sd
    · have e : valV kvs (kk te sd) = some (.int (tl t te sd)) := by rw [hv, if_pos c]
      rw [e]
      refine iteF ?_
      refine ⟨_, rfl, _, rfl, _, rfl, small2, fun p2 np2 => ?_⟩
      have s2 := s1.trans (same_new (o := .tup [.int te, .int sd]) np2)
      obtain ⟨kvs2, hD2, hv2⟩ := hT.same s2
      have e2 : valV kvs2 (kk te sd) = some (.int (tl t te sd)) := by rw [hv2, if_pos c]
      refine ⟨d, kvs2, p2, kk te sd, _, rfl, rfl, hD2, nk_pair tup_new, kk_dp _ _, e2, ?_⟩
      refine ⟨_, rfl, _, rfl, r, _, te, _, rfl, rfl, tup_sq (TupA.same s2 hR), at_int h0 (vI_at (gI_at h0 h1)), small2, fun p3 np3 => ?_⟩
      refine q _ _ (s2.trans (same_new np3)) ?_
      unfold heard
      rw [if_pos c]
      exact tup_new
    · have e : valV kvs (kk te sd) = none := by rw [hv, if_neg c]
      rw [e]
      refine iteT ?_
      refine ⟨small2, fun p3 np3 => ?_⟩
      refine q _ _ (s1.trans (same_new np3)) ?_
      unfold heard
      rw [if_neg c]
      exact tup_new
end
end K62

set_option Elab.async false
set_option linter.all false
set_option maxRecDepth 100000
set_option maxHeartbeats 4000000
namespace K62
open PySem PySem.Spec PyProof.Rows L2
/-! ### told_in -/
section
variable {P : Program} {w : World} {K : PySem.W.Frag} {mg : Str → Option Value} {base : Heap}
theorem kk_inj {h s h' s' : Int} (e : kk h s = kk h' s') : h = h' ∧ s = s' := by
  injection e with e
  injection e with e1 e2
  injection e2 with e2 _
  injection e1 with e1
  injection e2 with e2
  exact ⟨e1, e2⟩
def encT (t : Tr) : List (NestedKey × V) := t.map fun e => (kk e.1 e.2.1, .int e.2.2)
theorem tl_out : ∀ (t : Tr) (h s : Int), (∀ e ∈ t, ¬ (e.1 = h ∧ e.2.1 = s)) → tl t h s = 0
  | [], h, s, _ => tl_nil h s
  | e :: t, h, s, p => by
    rw [tl_cons, if_neg (p e (by simp)), tl_out t h s fun x hx => p x (List.mem_cons_of_mem _ hx)]
    rfl
theorem tl_self (t : Tr) (e : Int × Int × Int) : tl (e :: t) e.1 e.2.1 = e.2.2 + tl t e.1 e.2.1 := by rw [tl_cons, if_pos ⟨rfl, rfl⟩]
theorem encT_val : ∀ (t : Tr), (t.map fun e => (e.1, e.2.1)).Nodup → (∀ e ∈ t, 0 < e.2.2) → ∀ h s : Int, valV (encT t) (kk h s) = if 0 < tl t h s then some (.int (tl t h s)) else none
  | [], _, _, h, s => by
    rw [tl_nil]
    rfl
  | e :: t, nd, p, h, s => by
    rw [List.map_cons, List.nodup_cons] at nd
    show valV ((kk e.1 e.2.1, V.int e.2.2) :: encT t) (kk h s) = _
    by_cases c : e.1 = h ∧ e.2.1 = s
    · obtain ⟨c1, c2⟩ := c
      subst c1 c2
      have z : tl t e.1 e.2.1 = 0 := tl_out t _ _ fun x hx q => nd.1 (List.mem_map.mpr ⟨x, hx, by rw [q.1, q.2]⟩)
      have := p e (by simp)
      rw [tl_self, z, Int.add_zero, if_pos this, valV_pos rfl]
    · rw [tl_cons, valV_neg (fun q => c (kk_inj q)), if_neg c, Int.zero_add]
      exact encT_val t nd.2 (fun x hx => p x (List.mem_cons_of_mem _ hx)) h s
abbrev s3 : Stmt := topS 3
theorem sc3 : FnScope ["turn", "house", "side", "letters"] ["turn"] (defScope s3) := ⟨rfl, rfl, rfl, by decide +kernel, rfl, by decide +kernel, by decide +kernel⟩
abbrev D3 (K : PySem.W.Frag) (mg : Str → Option Value) := Df K mg "told_in" s3 ["turn"]
def spTold (P : Program) (w : World) : Sp := fun vs H Q _ => ∃ (a : Addr) (n : Nat) (t : Tr), vs = [.ref a] ∧ TurnT H a t ∧ TurnOk n t ∧ t.length ≤ 1000 ∧ ∀ H' d, Same H H' → Told P w H' d t → Q (.ref d) H'
theorem pairN_mono {H H' : Hp} (s : TSm H H') {p : Addr} {x : NestedKey × Addr × V} (h : PairN H p x) : PairN H' p x := ⟨s.t _ _ h.1, h.2.1.mono s.t, h.2.2⟩
/-- a pair of the key and its value, where the key stands hidden -/
def PairE (H : Hp) (p : Addr) (e : Int × Int × Int) : Prop := ∃ b, PairN H p (kk e.1 e.2.1, b, .int e.2.2)
theorem pairE_es {H : Hp} : ∀ {ps : List Addr} {t : Tr}, Paired (PairE H) ps t → ∃ es : NEs, Paired (PairN H) ps es ∧ es.map (fun x => (x.1, x.2.2)) = encT t
  | _, _, .nil => ⟨[], .nil, rfl⟩
  | _, _, .cons (b := e) hh r => by
    obtain ⟨b, h⟩ := (show PairE H _ e from hh)
    obtain ⟨es, h1, h2⟩ := pairE_es r
    exact ⟨(kk e.1 e.2.1, b, .int e.2.2) :: es, .cons h h1, by rw [List.map_cons, h2]; rfl⟩
theorem ok_told (D : D3 K mg) (T : Txt mg) : FnOk P w K mg base CX0 1 D.f D.fd ["turn"] (spTold P w) := by
  refine D.F.ok sc3 (fun vs H Q E h => ?_) (fun cdv A outer s H vs Q E hr h => ?_)
  · obtain ⟨a, n, t, rfl, _⟩ := h
    rfl
  · obtain ⟨a, n, t, rfl, ⟨as, hA, hP⟩, ⟨nd, ok⟩, hlen, q⟩ := h
    have hu := hr.units
    have hl := Paired.length hP
    refine ⟨_, (pss_one (ps_ret (pe_callTy (cr_dictN rfl hu) (by rfl) T.dict (by decide +kernel) (pa_cons (pe_lc (own := [("house", 1), ("side", 2), ("letters", 3)]) (g := (gTup K 3 (gCons (gName 1) (gCons (gName 2) (gCons (gName 3) gNil))))) (tt := tYes) (te := (tTup (tCons (tTup (tCons (tVar 1) (tCons (tVar 2) tNil))) (tCons (tVar 3) tNil)))) rfl sc3.nd (pi_tup (pv 0)) (blkOk_by (N := ["turn", "house", "side", "letters"]) (sc := defScope (topS 3)) (by decide +kernel)) (fun _ _ _ _ _ => (pg_tup (n := 3) rfl (pgs_cons (pg_name (i := 1) sc3.nd rfl (Or.inl rfl) (Or.inr rfl)) (pgs_cons (pg_name (i := 2) sc3.nd rfl (Or.inl rfl) (Or.inr rfl)) (pgs_cons (pg_name (i := 3) sc3.nd rfl (Or.inl rfl) (Or.inr rfl)) pgs_nil))) rfl rfl)) (fun _ _ _ _ _ => pts_nil) (fun _ _ _ _ _ => (pe_tup (pa_cons (pe_tup (pa_cons (pv 1) (pa_cons (pv 2) pa_nil))) (pa_cons (pv 3) pa_nil))))) pa_nil)))), ?_⟩
    refine ⟨_, rfl, a, rfl, ⟨_, tup_sq hA⟩, fun L nL => ?_⟩
    refine lc_refs PairE (fun H H' b x s ⟨c, h⟩ => ⟨c, pairN_mono s h⟩) (walk_tup (xs := vR as)) (fun _ => true) (fun i => t.getD i (0, 0, 0)) nL (by rw [List.length_map, hl]; exact hlen) (fun H1 s1 => tup_sq (TupA.same s1 hA)) yAt_same ?_ ?_
    · rintro i x H1 H2 hi s1 ⟨rfl, hx⟩ k k0 hk hk0
      obtain ⟨b, hb, rfl⟩ := of_vR hx
      obtain ⟨e, he, hE⟩ := paired_get hP hb
      have hE1 : TripT H2 b e := TupA.same s1 hE
      have eg : t.getD i (0, 0, 0) = e := by rw [List.getD_eq_getElem?_getD, he]; rfl
      rw [eg] at hk
      refine ⟨b, _, rfl, tup_sq hE1, rfl, _, _, rfl, _, _, rfl, _, _, rfl, rfl, ?_⟩
      refine ⟨rfl, yesT ?_⟩
      refine ⟨_, rfl, _, rfl, small2, fun p np => ?_⟩
      refine ⟨_, rfl, small2, fun p2 np2 => ?_⟩
      refine hk rfl p2 _ ((same_new np).trans (same_new np2)) ⟨p, tup_new, ?_, kk_dp _ _⟩
      exact (nk_pair tup_new).mono (same_new np2).t
    · intro H1 s1 hL
      obtain ⟨ps, hps, hp⟩ := hL
      have e1 : ((List.range (vR as).length).filter (fun _ => true)).map (fun i => t.getD i (0, 0, 0)) = t := by
        rw [filter_all, List.length_map, hl]
        refine List.ext_getElem (by simp) fun i h1 h2 => ?_
        simp [List.getD_eq_getElem?_getD, List.getElem?_eq_getElem h2]
      rw [e1] at hp
      obtain ⟨es, h1, h2⟩ := pairE_es hp
      have hkeys : es.map (·.1) = t.map fun e => kk e.1 e.2.1 := by
        have := congrArg (List.map Prod.fst) h2
        rw [List.map_map] at this
        unfold encT at this
        rw [List.map_map] at this
        exact this
      have nd2 : (es.map (·.1)).Nodup := by
        rw [hkeys]
        rw [List.nodup_iff_pairwise_ne, List.pairwise_map] at nd ⊢
        exact nd.imp fun q e => q (by obtain ⟨a, b⟩ := kk_inj e; rw [a, b])
      have hel : es.length ≤ 1000 := by
        have := congrArg List.length h2
        rw [List.length_map, encT, List.length_map] at this
        omega
      refine ⟨L, ps, es, rfl, SqL.of hps, h1, nd2, hel, fun p H' np eH hD => ?_⟩
      subst eH
      refine q _ p (s1.trans (same_new np)) ⟨encT t, ?_, encT_val t nd fun e he => (ok e he).2.2.2⟩
      rw [← h2]
      exact hD
end

/-! ### numbered -/
section
variable {κ : Type} [DecidableEq κ]
def enumK : Nat → List κ → List (κ × V)
  | _, [] => []
  | n, k :: r => (k, .int (n : Nat)) :: enumK (n + 1) r
theorem enumK_val (k : κ) : ∀ (l : List κ) (n : Nat), valV (enumK n l) k = if k ∈ l then some (.int ((n + l.idxOf k : Nat) : Int)) else none
  | [], n => rfl
  | a :: r, n => by
    show valV ((a, V.int (n : Nat)) :: enumK (n + 1) r) k = _
    by_cases e : a = k
    · rw [valV_pos e, if_pos (by rw [e]; simp), List.idxOf_cons]
      simp [e]
    · rw [valV_neg e, enumK_val k r (n + 1)]
      by_cases h : k ∈ r
      · rw [if_pos h, if_pos (List.mem_cons_of_mem _ h), List.idxOf_cons]
        have : (a == k) = false := by simpa using e
        rw [this]
        congr 2
        show ((n + 1 + r.idxOf k : Nat) : Int) = ((n + (r.idxOf k + 1) : Nat) : Int)
        omega
      · rw [if_neg h, if_neg]
        intro q
        rcases List.mem_cons.mp q with z | z
        · exact e z.symm
        · exact h z
theorem enumK_snoc (k : κ) : ∀ (l : List κ) (n : Nat), enumK n (l ++ [k]) = enumK n l ++ [(k, .int ((n + l.length : Nat) : Int))]
  | [], n => rfl
  | a :: r, n => by
    show (a, V.int (n : Nat)) :: enumK (n + 1) (r ++ [k]) = _
    rw [enumK_snoc k r (n + 1)]
    show _ = (a, V.int (n : Nat)) :: (enumK (n + 1) r ++ [(k, V.int ((n + (r.length + 1) : Nat) : Int))])
    have e : n + 1 + r.length = n + (r.length + 1) := by omega
    rw [e]
theorem enumK_length : ∀ (l : List κ) (n : Nat), (enumK n l).length = l.length
  | [], n => rfl
  | a :: r, n => by show (enumK (n + 1) r).length + 1 = _; rw [enumK_length r (n + 1)]; rfl
theorem fd_length (ks : List κ) : (fd ks).length ≤ ks.length := by
  refine snoc_ind (P := fun ks => (fd ks).length ≤ ks.length) (by simp [fd]) (fun l y ih => ?_) ks
  rw [fd_snoc, List.length_append, List.length_singleton]
  split
  · omega
  · rw [List.length_append, List.length_singleton]; omega
end
section
variable {P : Program} {w : World} {K : PySem.W.Frag} {mg : Str → Option Value} {base : Heap}
abbrev s2 : Stmt := topS 2
theorem sc2 : FnScope ["keys", "numbers", "key"] ["keys"] (defScope s2) := ⟨rfl, rfl, rfl, by decide +kernel, rfl, by decide +kernel, by decide +kernel⟩
abbrev D2 (K : PySem.W.Frag) (mg : Str → Option Value) := Df K mg "numbered" s2 ["keys"]
def KeyT (H : Hp) (b : Addr) (k : NestedKey) : Prop := NK H (.ref b) k ∧ k.depth ≤ 8
theorem key_mono {H H' : Hp} (s : TSm H H') : ∀ b k, KeyT H b k → KeyT H' b k := fun _ _ h => ⟨h.1.mono s.t, h.2⟩
def spNum (P : Program) (w : World) : Sp := fun vs H Q _ => ∃ (a : Addr) (ks : List NestedKey), vs = [.ref a] ∧ LstOf KeyT H a ks ∧ ks.length ≤ 900 ∧ ∀ H' p, Same H H' → RowF H' p (num ks) → Q (.ref p) H'
theorem ok_num (D : D2 K mg) (T : Txt mg) : FnOk P w K mg base CX0 1 D.f D.fd ["keys"] (spNum P w) := by
  refine D.F.ok sc2 (fun vs H Q E h => ?_) (fun cdv A outer s H vs Q E hr h => ?_)
  · obtain ⟨a, ks, rfl, _⟩ := h
    rfl
  · obtain ⟨a, ks, rfl, ⟨as, hA, hP⟩, hlen, q⟩ := h
    have hu := hr.units
    have hl := Paired.length hP
    refine ⟨_, (pss_cons (ps_set (i := 1) sc2.nd rfl (Or.inr rfl) pe_dnewN)
  (pss_cons (ps_for PassesOwn.never rfl (pi_list (pv 0)) (pg_name (i := 2) sc2.nd rfl (Or.inl rfl) (Or.inr rfl))
  (pss_one (ps_expr (pe_nsetd hu (pv 1) (pv 2) (pe_callB call_len_n (by rfl) T.len PySem.boot_len (pa_cons (pv 1) pa_nil)) ⟨rfl, rfl, rfl, rfl⟩))))
  (pss_one (ps_ret (pe_callTy call_tupleF (by rfl) T.tuple (by decide +kernel) (pa_cons (pe_lc (own := [("key", 2)]) (g := (gName 2)) (tt := tYes) (te := (tNGet P w (tVar 1) (tVar 2))) rfl sc2.nd (pi_list (pv 0)) (blkOk_by (N := ["keys", "numbers", "key"]) (sc := defScope (topS 2)) (by decide +kernel)) (fun _ _ _ _ _ => (pg_name (i := 2) sc2.nd rfl (Or.inl rfl) (Or.inr rfl))) (fun _ _ _ _ _ => pts_nil) (fun _ _ _ _ _ => (pe_nget hu (pv 1) (pv 2) (fun _ _ => rfl)))) pa_nil)))))), ?_⟩
    refine fun d nd hD0 => ?_
    have sd : Same H (upd H d (dN P w d [])) := same_new nd
    refine ⟨_, rfl, a, rfl, ⟨_, SqL.of (sd _ _ hA)⟩, for_list (K := K) (a := a) (xs := vR as) (fun i σ H' => ∃ y, σ = [some (.ref a), some (.ref d), y] ∧ Same H H' ∧ DN P w H' d (enumK 0 (fd (ks.take i))))
      ⟨none, rfl, sd, hD0⟩ (fun i σ H' _ ⟨_, _, s1, _⟩ => SqL.of (s1 _ _ hA)) ?_ ?_⟩
    · rintro i x σ H1 hx ⟨y, rfl, s1, hD⟩
      obtain ⟨b, hb, rfl⟩ := of_vR hx
      obtain ⟨k, hk, hK, hdp⟩ := paired_get hP hb
      have hK1 : NK H1 (.ref b) k := hK.mono s1.t
      have etake : ks.take (i + 1) = ks.take i ++ [k] := by rw [List.take_add_one, hk]; rfl
      have hfl : (enumK 0 (fd (ks.take i))).length ≤ 900 := by
        rw [enumK_length]
        have := fd_length (ks.take i)
        rw [List.length_take] at this
        omega
      refine ⟨_, rfl, d, _, rfl, hD, _, rfl, _, rfl, d, _, rfl, hD, _, b, k, rfl, hD, szlt (by omega), hK1, hdp, fun v hv => ?_, fun hv H2 xs2 e2 hD2 => ?_⟩
      · refine ⟨_, rfl, s1, ?_⟩
        have hm : k ∈ fd (ks.take i) := by
          rw [enumK_val] at hv
          by_cases c : k ∈ fd (ks.take i)
          · exact c
          · rw [if_neg c] at hv; cases hv
        rw [etake, fd_snoc, if_pos hm]
        exact hD
      · refine ⟨_, rfl, ?_, ?_⟩
        · rw [e2]
          intro c o ec
          rw [upd_ne (ne_of_none ec nd)]
          exact s1 _ _ ec
        · have hm : k ∉ fd (ks.take i) := fun c => by rw [enumK_val, if_pos c] at hv; cases hv
          rw [putK_new _ hv] at hD2
          rw [etake, fd_snoc, if_neg hm, enumK_snoc, Nat.zero_add]
          rw [enumK_length] at hD2
          exact hD2
    · rintro σ H1 ⟨y, rfl, s1, hD⟩
      have efull : ks.take (vR as).length = ks := by rw [List.length_map, hl]; exact List.take_length
      rw [efull] at hD
      refine ⟨_, rfl, a, rfl, ⟨_, SqL.of (s1 _ _ hA)⟩, fun L nL => ?_⟩
      refine lc_vals (walk_list (K := K) (a := a) (xs := vR as)) (fun _ => true) (fun i => (vI (num ks)).getD i .non) nL (by rw [List.length_map, hl]; omega) (fun H2 s2 => SqL.of (s2 _ _ (s1 _ _ hA))) yAt_same ?_ ?_
      · rintro i x H2 H3 hi s2 ⟨rfl, hx⟩ k k0 hk hk0
        obtain ⟨b, hb, rfl⟩ := of_vR hx
        obtain ⟨key, hkey, hK, hdp⟩ := paired_get hP hb
        refine ⟨rfl, yesT ?_⟩
        have hm : key ∈ fd ks := (mem_fd ks key).mpr (List.mem_of_getElem? hkey)
        have ev : valV (enumK 0 (fd ks)) key = some (.int (((fd ks).idxOf key : Nat) : Int)) := by rw [enumK_val, if_pos hm, Nat.zero_add]
        obtain ⟨hik, eik⟩ := List.getElem?_eq_some_iff.mp hkey
        have eg : (vI (num ks)).getD i .non = .int (((fd ks).idxOf key : Nat) : Int) := by
          rw [List.getD_eq_getElem?_getD, vI_at (num_get ks i hik), eik]
          rfl
        rw [eg] at hk
        exact ⟨_, rfl, _, rfl, d, _, b, key, _, rfl, rfl, hD.same s2, hK.mono (s1.trans s2).t, hdp, ev, hk rfl _ (Same.refl _)⟩
      · intro H2 s2 hL
        have e1 : ((List.range (vR as).length).filter (fun _ => true)).map (fun i => (vI (num ks)).getD i .non) = vI (num ks) := by
          rw [filter_all, List.length_map, hl]
          refine List.ext_getElem (by simp [num_length]) fun i h1 h2 => ?_
          simp only [List.getElem_map, List.getElem_range, List.getD_eq_getElem?_getD]
          rw [List.getElem?_eq_getElem (by simpa using h2)]
          simp
        rw [e1] at hL
        refine ⟨L, _, rfl, SqL.of hL, fun p o np oc od => ?_⟩
        exact q _ p ((s1.trans s2).trans (same_new np)) ⟨o, upd_same, oc, od⟩
end
end K62

set_option Elab.async false
set_option linter.all false
set_option maxRecDepth 100000
set_option maxHeartbeats 4000000
namespace K62
open PySem PySem.Spec PyProof.Rows L2
theorem range_map_getD {α β : Type} (xs : List α) (d : α) (f : α → β) : (List.range xs.length).map (fun i => f (xs.getD i d)) = xs.map f := by
  refine List.ext_getElem (by simp) fun i h1 h2 => ?_
  simp only [List.getElem_map, List.getElem_range, List.getD_eq_getElem?_getD]
  rw [List.getElem?_eq_getElem (by simpa using h2)]
  rfl
theorem nm_get {ring : List Int} (hr : 0 < ring.length) (z : Int) : ring[(z % (ring.length : Int)).toNat]? = some (nm ring z) := by
  have h1 : (z % (ring.length : Int)).toNat < ring.length := by
    have a := Int.emod_nonneg z (b := (ring.length : Int)) (by omega)
    have b := Int.emod_lt_of_pos z (b := (ring.length : Int)) (by omega)
    omega
  unfold nm
  rw [List.getD_eq_getElem?_getD, List.getElem?_eq_getElem h1]
  rfl
theorem idx_map {κ : Type} [DecidableEq κ] (f : Int → κ) (inj : ∀ x y, f x = f y → x = y) : ∀ (us : List Int) (z : Int), (us.map f).idxOf (f z) = us.idxOf z
  | [], z => rfl
  | b :: r, z => by
    rw [List.map_cons, List.idxOf_cons, List.idxOf_cons, idx_map f inj r z]
    have : (f b == f z) = (b == z) := by
      by_cases e : b = z
      · subst e; simp
      · have h : ¬ f b = f z := fun q => e (inj _ _ q)
        rw [beq_eq_false_iff_ne.mpr h, beq_eq_false_iff_ne.mpr e]
    rw [this]
section
variable {P : Program} {w : World} {K : PySem.W.Frag} {mg : Str → Option Value} {base : Heap}
abbrev s1 : Stmt := topS 1
theorem sc1 : FnScope ["ring", "house", "left", "right", "many", "names", "places", "place", "name", "step"] ["ring", "house", "left", "right"] (defScope s1) := ⟨rfl, rfl, rfl, by decide +kernel, rfl, by decide +kernel, by decide +kernel⟩
abbrev D1 (K : PySem.W.Frag) (mg : Str → Option Value) := Df K mg "order_around" s1 ["ring", "house", "left", "right"]
def spOrder : Sp := fun vs H Q _ => ∃ (a : Addr) (h l r : Int) (ring : List Int), vs = [.ref a, .int h, .int l, .int r] ∧ IntsT H a ring ∧ 0 < ring.length ∧ ring.length ≤ 1000 ∧ 0 ≤ l ∧ 0 ≤ r ∧ l + r ≤ 60 ∧
  ∀ H' p, Same H H' → IntsT H' p (ordOf (namesAt ring h l r)) → Q (.ref p) H'
abbrev inK (us : List Int) : List Key := us.map Sum.inl
theorem inK_snoc (us : List Int) (z : Int) : inK (us ++ [z]) = inK us ++ [Sum.inl z] := by rw [inK, List.map_append]; rfl
theorem ok_order (D : D1 K mg) (T : Txt mg) : FnOk P w K mg base CX0 1 D.f D.fd ["ring", "house", "left", "right"] spOrder := by
  refine D.F.ok sc1 (fun vs H Q E h => ?_) (fun cdv A outer s H vs Q E hr h => ?_)
  · obtain ⟨a, h, l, r, ring, rfl, _⟩ := h
    rfl
  · obtain ⟨a, h, l, r, ring, rfl, hR, hn, hn2, hl, hrr, hlr, q⟩ := h
    have hu := hr.units
    have hu1 := hu_of hr
    have hlen : ((vI ring).length : Int) = (ring.length : Int) := by rw [List.length_map]
    refine ⟨_, (pss_cons (ps_set (i := 4) sc1.nd rfl (Or.inr rfl) (pe_callB call_len_seq (by rfl) T.len (by decide +kernel) (pa_cons (pv 0) pa_nil)))
  (pss_cons (ps_setLc (i := 5) (own := [("step", 9)]) (g := (gName 9)) (tt := tYes) (te := (tOp (rIxT K) (tVar 0) (tOp (rModI) (tOp (rAddI) (tVar 1) (tVar 9)) (tVar 4)))) rfl sc1.nd rfl rfl (sw_true rfl rfl rfl (by decide +kernel)) (pi_range2 (by rfl) T.range (pa_cons (pe_un un_neg (pv 2)) (pa_cons (pe_op op_add (pv 3) pe_int) pa_nil))) (blkOk_by (N := ["ring", "house", "left", "right", "many", "names", "places", "place", "name", "step"]) (sc := defScope (topS 1)) (by decide +kernel)) (fun _ _ _ _ _ => (pg_name (i := 9) sc1.nd rfl (Or.inl rfl) (Or.inr rfl))) (fun _ _ _ _ _ => pts_nil) (fun _ _ _ _ _ => (pe_ix ix_tup (pv 0) (pe_op op_mod (pe_op op_add (pv 1) (pv 9)) (pv 4)) (fun _ _ => rfl))))
  (pss_cons (ps_set (i := 6) sc1.nd rfl (Or.inr rfl) pe_dnewK)
  (pss_cons (ps_for PassesOwn.never rfl (pi_enum (by rfl) T.enumerate (pa_cons (pe_callB (cr_sortedSet rfl) (by rfl) T.sorted (by decide +kernel) (pa_cons (pe_callTy (cr_setI rfl) (by rfl) T.set (by decide +kernel) (pa_cons (pv 5) pa_nil)) pa_nil)) pa_nil)) (pg_tup (n := 2) rfl (pgs_cons (pg_name (i := 7) sc1.nd rfl (Or.inl rfl) (Or.inr rfl)) (pgs_cons (pg_name (i := 8) sc1.nd rfl (Or.inl rfl) (Or.inr rfl)) pgs_nil)) rfl rfl)
  (pss_one (ps_dput hu1 (pv 6) (pv 8) (pv 7) rfl)))
  (pss_one (ps_ret (pe_callTy call_tuple_of (by rfl) T.tuple (by decide +kernel) (pa_cons (pe_lc (own := [("name", 8)]) (g := (gName 8)) (tt := tYes) (te := (tDGet (tVar 6) (tVar 8))) rfl sc1.nd (pi_list (pv 5)) (blkOk_by (N := ["ring", "house", "left", "right", "many", "names", "places", "place", "name", "step"]) (sc := defScope (topS 1)) (by decide +kernel)) (fun _ _ _ _ _ => (pg_name (i := 8) sc1.nd rfl (Or.inl rfl) (Or.inr rfl))) (fun _ _ _ _ _ => pts_nil) (fun _ _ _ _ _ => (pe_dget hu1 (pv 6) (pv 8) (fun _ _ => rfl)))) pa_nil)))))))), ?_⟩
    -- many = len(ring)
    refine ⟨_, rfl, a, vI ring, rfl, .inr (tup_sq hR), ?_⟩
    rw [hlen]
    -- names = [..]
    refine ⟨_, rfl, l, rfl, _, rfl, r, 1, rfl, rfl, -l, r + 1, rfl, ⟨by omega, by omega, by omega, by omega⟩, fun N nN => ?_⟩
    have enum : (r + 1 - -l).toNat = (r + 1 + l).toNat := by omega
    rw [enum]
    refine lc_vals walk_range (fun _ => true) (fun i => .int (nm ring (h + (-l + (i : Nat))))) nN (by omega) (fun _ _ => trivial) yFn_same ?_ ?_
    · rintro i x H1 H2 hi s1 ⟨rfl, rfl⟩ k k0 hk hk0
      refine ⟨rfl, yesT ?_⟩
      refine ⟨_, rfl, _, rfl, _, rfl, _, _, rfl, rfl, _, rfl, _, _, rfl, rfl, by omega, a, vI ring, _, _, rfl, rfl, tup_sq (TupA.same s1 hR), at_int (Int.emod_nonneg _ (by omega)) (vI_at (nm_get hn _)), ?_⟩
      exact hk rfl _ (Same.refl _)
    · intro H1 s1 hN
      have eN : ((List.range (r + 1 + l).toNat).filter (fun _ => true)).map (fun i => V.int (nm ring (h + (-l + ((i : Nat) : Int))))) = vI (namesAt ring h l r) := by
        rw [filter_all, namesAt, vI, List.map_map]
        rfl
      rw [eN] at hN
      generalize hns : namesAt ring h l r = ns at hN q
      have nlen : ns.length ≤ 62 := by rw [← hns, namesAt_length]; omega
      -- places = {}
      refine fun d nd => ?_
      have sd : Same H1 (upd H1 d (.dK [])) := same_new nd
      -- sorted(set(names))
      refine ⟨_, rfl, N, ns, rfl, .inl (SqL.of (sd _ _ hN)), by omega, fun S c nS hc => ?_⟩
      have sS := same_new (o := SetO w S (fun j => decide (j ∈ ns)) c) nS
      refine ⟨S, _, c, rfl, upd_same, by omega, fun us p up um ul np => ?_⟩
      have eus : us = sset ns := sset_of up fun z => by rw [um z]; exact decide_eq_true_iff
      have sp := same_new (o := .lst (us.map V.int)) np
      have s2 : Same H1 (upd (upd (upd H1 d (.dK [])) S (SetO w S (fun j => decide (j ∈ ns)) c)) p (.lst (us.map V.int))) := sd.trans (sS.trans sp)
      have hd2 : (upd (upd (upd H1 d (.dK [])) S (SetO w S (fun j => decide (j ∈ ns)) c)) p (.lst (us.map V.int))) d = some (.dK []) := sp _ _ (sS _ _ upd_same)
      have hp2 : (upd (upd (upd H1 d (.dK [])) S (SetO w S (fun j => decide (j ∈ ns)) c)) p (.lst (us.map V.int))) p = some (.lst (vI us)) := upd_same
      have npd : p ≠ d := ne_of hp2 hd2 (by intro z; cases z)
      have nup := up.imp (S := (· ≠ ·)) fun z => by omega
      refine ⟨p, vI us, rfl, SqL.of hp2, for_it (walk_enum (K := K) (a := p) (xs := vI us)) (fun i σ H' => ∃ y7 y8 y9, σ = [some (.ref a), some (.int h), some (.int l), some (.int r), some (.int ring.length), some (.ref N), some (.ref d), y7, y8, y9] ∧
        Same H1 H' ∧ H' p = some (.lst (vI us)) ∧ H' d = some (.dK (enumK 0 (inK (us.take i))))) ⟨none, none, none, rfl, s2, hp2, hd2⟩ (fun i σ H' _ ⟨_, _, _, _, _, z, _⟩ => SqL.of z) ?_ ?_⟩
      · rintro i x σ H3 H4 hi ⟨y7, y8, y9, rfl, s3, hp3, hd3⟩ ⟨T0, x1, x2, rfl, nT, rfl, e1, e2⟩
        cases e1
        obtain ⟨z, hz, rfl⟩ := of_vI e2
        have sT := same_new (o := .tup [.int ((i : Nat) : Int), .int z]) nT
        refine ⟨T0, _, rfl, tup_sq tup_new, rfl, _, _, rfl, _, _, rfl, rfl, ?_⟩
        have hfl : (enumK 0 (inK (us.take i))).length ≤ 62 := by
          rw [enumK_length, List.length_map, List.length_take]; omega
        refine ⟨_, rfl, _, rfl, _, rfl, d, _, rfl, DPut.k (k := Sum.inl z) (sT _ _ hd3) (szlt (by omega)), ?_⟩
        have etake : us.take (i + 1) = us.take i ++ [z] := by rw [List.take_add_one, hz]; rfl
        have hnot : (Sum.inl z : Key) ∉ inK (us.take i) := by
          intro q
          obtain ⟨y, hy, ey⟩ := List.mem_map.mp q
          cases ey
          obtain ⟨j, hj, ej⟩ := List.getElem_of_mem hy
          rw [List.getElem_take] at ej
          rw [List.length_take] at hj
          obtain ⟨hiu, eiu⟩ := List.getElem?_eq_some_iff.mp hz
          have := (List.pairwise_iff_getElem.mp nup) j i (by omega) hiu (by omega)
          exact this (ej.trans eiu.symm)
        have hnone : valV (enumK 0 (inK (us.take i))) (Sum.inl z : Key) = none := by rw [enumK_val, if_neg hnot]
        refine ⟨_, _, _, rfl, ?_, ?_, ?_⟩
        · intro b o e
          rw [upd_ne (ne_of_none e nd)]
          exact sT _ _ (s3 _ _ e)
        · rw [upd_ne npd]
          exact sT _ _ hp3
        · rw [upd_same, putK_new _ hnone, etake, inK_snoc, enumK_snoc, Nat.zero_add, List.length_map, List.length_take]
          have : min i us.length = i := by
            have := (List.getElem?_eq_some_iff.mp hz).1
            omega
          rw [this]
      · rintro σ H3 ⟨y7, y8, y9, rfl, s3, hp3, hd3⟩
        have efull : us.take (vI us).length = us := by rw [List.length_map]; exact List.take_length
        rw [efull] at hd3
        have hN3 := s3 _ _ hN
        -- tuple([places[name] for name in names])
        refine ⟨_, rfl, N, rfl, ⟨_, SqL.of hN3⟩, fun L nL => ?_⟩
        refine lc_vals (walk_list (K := K) (a := N) (xs := vI ns)) (fun _ => true) (fun i => .int (((sset ns).idxOf (ns.getD i 0) : Nat) : Int)) nL (by rw [List.length_map]; omega) (fun H4 s4 => SqL.of (s4 _ _ hN3)) yAt_same ?_ ?_
        · rintro i x H4 H5 hi s4 ⟨rfl, hx⟩ k k0 hk hk0
          obtain ⟨z, hz, rfl⟩ := of_vI hx
          refine ⟨rfl, yesT ?_⟩
          have hm : (Sum.inl z : Key) ∈ inK us := List.mem_map.mpr ⟨z, by rw [eus]; exact (mem_sset z ns).mpr (List.mem_of_getElem? hz), rfl⟩
          have ev : valV (enumK 0 (inK us)) (Sum.inl z : Key) = some (.int (((sset ns).idxOf z : Nat) : Int)) := by
            rw [enumK_val, if_pos hm, Nat.zero_add, ← eus]
            rw [idx_map (Sum.inl : Int → Key) (fun _ _ e => Sum.inl.inj e) us z]
          have eg : ns.getD i 0 = z := by rw [List.getD_eq_getElem?_getD, hz]; rfl
          rw [eg] at hk
          exact ⟨_, rfl, _, rfl, d, _, rfl, by rw [← ev]; exact DGet.k (k := Sum.inl z) (s4 _ _ hd3), hk rfl _ (Same.refl _)⟩
        · intro H4 s4 hL
          have e1 : ((List.range (vI ns).length).filter (fun _ => true)).map (fun i => V.int (((sset ns).idxOf (ns.getD i 0) : Nat) : Int)) = vI (ordOf ns) := by
            rw [filter_all, List.length_map, range_map_getD ns 0 (fun x => V.int (((sset ns).idxOf x : Nat) : Int)), ordOf, vI, List.map_map]
            rfl
          rw [e1] at hL
          refine ⟨L, _, rfl, .inl ⟨SqL.of hL, fun t nt => ?_⟩⟩
          exact q _ t ((s1.trans (s3.trans s4)).trans (same_new nt)) tup_new
end
end K62

set_option Elab.async false
set_option linter.all false
set_option maxRecDepth 100000
set_option maxHeartbeats 4000000
namespace K62
open PySem PySem.Spec PyProof.Rows L2
section
variable {P : Program} {w : World} {K : PySem.W.Frag} {mg : Str → Option Value} {base : Heap}
abbrev s4 : Stmt := topS 4
theorem sc4 : FnScope ["sights", "told", "many", "found", "house", "left", "right", "before", "behind"] ["sights", "told"] (defScope s4) := ⟨rfl, rfl, rfl, by decide +kernel, rfl, by decide +kernel, by decide +kernel⟩
abbrev D4 (K : PySem.W.Frag) (mg : Str → Option Value) := Df K mg "sights_behind" s4 ["sights", "told"]
def spSights (P : Program) (w : World) : Sp := fun vs H Q _ => ∃ (a d : Addr) (s : List (Int × Int)) (t : Tr), vs = [.ref a, .ref d] ∧ SightsL H a s ∧ Told P w H d t ∧ 0 < s.length ∧ s.length ≤ 900 ∧
  ∀ H' p, Same H H' → H p = none → SightsL H' p (sightsB s t) → Q (.ref p) H'
theorem sightsB_get (s : List (Int × Int)) (t : Tr) (i : Nat) (h : i < s.length) : (sightsB s t)[i]? = some (sightAt s t (i : Int)) := by
  unfold sightsB
  rw [List.getElem?_map, List.getElem?_range h]
  rfl
theorem ok_sights (D : D4 K mg) (T : Txt mg) : FnOk P w K mg base CX0 1 D.f D.fd ["sights", "told"] (spSights P w) := by
  refine D.F.ok sc4 (fun vs H Q E h => ?_) (fun cdv A outer s H vs Q E hr h => ?_)
  · obtain ⟨a, d, s, t, rfl, _⟩ := h
    rfl
  · obtain ⟨a, d, ss, t, rfl, ⟨as, hA, hP⟩, hT, hn, hn2, q⟩ := h
    have hu := hr.units
    have hl := Paired.length hP
    have hlen : ((vR as).length : Int) = (ss.length : Int) := by rw [List.length_map, hl]
    refine ⟨_, (pss_cons (ps_set (i := 2) sc4.nd rfl (Or.inl rfl) (pe_callB call_len_seq (by rfl) T.len (by decide +kernel) (pa_cons (pv 0) pa_nil)))
  (pss_cons (ps_set (i := 3) sc4.nd rfl (Or.inl rfl) (pe_lst pa_nil))
  (pss_cons (ps_for PassesOwn.never rfl (pi_range1 (by rfl) T.range (pa_cons (pv 2) pa_nil)) (pg_name (i := 4) sc4.nd rfl (Or.inl rfl) (Or.inr rfl))
  (pss_cons (ps_asg (pe_ix ix_list (pv 0) (pv 4) (fun _ _ => rfl)) (pg_tup (n := 2) rfl (pgs_cons (pg_name (i := 5) sc4.nd rfl (Or.inl rfl) (Or.inr rfl)) (pgs_cons (pg_name (i := 6) sc4.nd rfl (Or.inl rfl) (Or.inr rfl)) pgs_nil)) rfl rfl))
  (pss_cons (ps_par (i := 7) (j := 8) (by rfl) sc4.nd rfl rfl (by decide) rfl rfl (pa_cons (pe_op op_mod (pe_op op_sub (pv 4) pe_int) (pv 2)) (pa_cons (pe_op op_mod (pe_op op_add (pv 4) pe_int) (pv 2)) pa_nil)) (by rfl))
  (C8.pss_cut (ps_if (pt_cmp (pc_nin hu (pe_tup (pa_cons (pv 7) (pa_cons pe_int pa_nil))) (pv 1)))
  (pss_one (ps_set (i := 5) sc4.nd rfl (Or.inl rfl) (pe_callB (call_max2 rfl) (by rfl) T.max (by decide +kernel) (pa_cons (pv 5) (pa_cons (pe_op op_add (pe_ix ix_tup (pe_ix ix_list (pv 0) (pv 7) (fun _ _ => rfl)) pe_int (fun _ _ => rfl)) pe_int) pa_nil)))))
  pss_nil)
  (C8.pss_cut (ps_if (pt_cmp (pc_nin hu (pe_tup (pa_cons (pv 8) (pa_cons (pe_un un_neg pe_int) pa_nil))) (pv 1)))
  (pss_one (ps_set (i := 6) sc4.nd rfl (Or.inl rfl) (pe_callB (call_max2 rfl) (by rfl) T.max (by decide +kernel) (pa_cons (pv 6) (pa_cons (pe_op op_add (pe_ix ix_tup (pe_ix ix_list (pv 0) (pv 8) (fun _ _ => rfl)) pe_int (fun _ _ => rfl)) pe_int) pa_nil)))))
  pss_nil)
  (pss_one (ps_expr (pe_bm PySem.F.plainAttrs_list PySem.F.slot_list_append PySem.F.type_list_append mt_append (pv 3) (pa_cons (pe_tup (pa_cons (pv 5) (pa_cons (pv 6) pa_nil))) pa_nil)))))))))
  (pss_one (ps_ret (pv 3)))))), ?_⟩
    refine ⟨_, rfl, a, _, rfl, .inl (SqL.of hA), ?_⟩
    rw [hlen]
    refine ⟨Nat.zero_le _, fun f nf => ?_⟩
    have sf : Same H (upd H f (.lst [])) := same_new nf
    refine ⟨_, rfl, _, rfl, by omega, by omega, for_range (lo := 0) (n := ((ss.length : Int)).toNat) (fun i σ H' => ∃ y4 y5 y6 y7 y8, σ = [some (.ref a), some (.ref d), some (.int ss.length), some (.ref f), y4, y5, y6, y7, y8] ∧
      Same H H' ∧ LstOf PairT H' f ((sightsB ss t).take i)) ⟨none, none, none, none, none, rfl, sf, [], upd_same, .nil⟩ ?_ ?_⟩
    · rintro i σ H1 hi ⟨y4, y5, y6, y7, y8, rfl, s1, fs, hf, hfp⟩
      have hi : i < ss.length := by omega
      have i0 : (0 : Int) + (i : Nat) = (i : Int) := by omega
      rw [i0]
      -- left, right = sights[house]
      have hsi : ss[((i : Nat) : Int).toNat]? = some (gS ss (i : Int)) := gS_at (by omega) (by omega)
      obtain ⟨b, hb, hbp⟩ := Paired.at hP hsi
      generalize hbi : gS ss (i : Int) = lr at hsi hbp
      refine ⟨_, rfl, _, rfl, a, vR as, _, _, rfl, rfl, SqL.of (s1 _ _ hA), at_int (by omega) (vR_at hb), ?_⟩
      refine ⟨b, _, rfl, tup_sq (TupA.same s1 hbp), rfl, _, _, rfl, _, _, rfl, rfl, ?_⟩
      -- before, behind
      refine ⟨_, rfl, _, _, rfl, rfl, _, rfl, _, _, rfl, rfl, by omega, _, rfl, _, _, rfl, rfl, _, rfl, _, _, rfl, rfl, by omega, .int (prv ss.length i), .int (nxt ss.length i), rfl, ?_⟩
      have pp := prv_lt hn (i : Int)
      have pn := nxt_lt hn (i : Int)
      generalize hpb : prv ss.length i = bf at pp
      generalize hpn : nxt ss.length i = bh at pn
      -- the first if
      refine ⟨fun σ' H' => σ' = [some (.ref a), some (.ref d), some (.int ss.length), some (.ref f), some (.int i), some (.int (sightAt ss t i).1), some (.int lr.2), some (.int bf), some (.int bh)] ∧ Same H1 H', ?_, ?_⟩
      · refine ⟨_, rfl, small2, fun p np => ?_⟩
        have s2 := same_new (o := .tup [.int bf, .int 1]) np
        obtain ⟨kvs, hD, hv⟩ := hT.same (s1.trans s2)
        refine ⟨_, rfl, d, kvs, p, kk bf 1, rfl, rfl, hD, nk_pair tup_new, kk_dp _ _, _, rfl, ?_⟩
        have eS : (sightAt ss t i).1 = if 0 < tl t bf 1 then mx lr.1 ((gS ss bf).1 + 1) else lr.1 := by
          unfold sightAt
          rw [hpb, hbi]
        by_cases c : 0 < tl t bf 1
        · have e : valV kvs (kk bf 1) = some (.int (tl t bf 1)) := by rw [hv, if_pos c]
          rw [e]
          refine iteT ?_
          have hsb := gS_at pp.1 pp.2
          obtain ⟨b2, hb2, hbp2⟩ := Paired.at hP hsb
          refine ⟨_, rfl, _, rfl, _, rfl, a, vR as, _, _, rfl, rfl, SqL.of ((s1.trans s2) _ _ hA), at_int pp.1 (vR_at hb2), b2, _, 0, _, rfl, rfl, tup_sq (TupA.same (s1.trans s2) hbp2), atI_nat (j := 0) rfl, _, _, rfl, rfl, _, _, rfl, ?_⟩
          refine ⟨?_, s2⟩
          rw [eS, if_pos c] <;> rfl
        · have e : valV kvs (kk bf 1) = none := by rw [hv, if_neg c]
          rw [e]
          refine iteF ?_
          refine ⟨?_, s2⟩
          rw [eS, if_neg c] <;> rfl
      rintro σ' H2 ⟨rfl, s2⟩
      -- the second if
      refine ⟨fun σ' H' => σ' = [some (.ref a), some (.ref d), some (.int ss.length), some (.ref f), some (.int i), some (.int (sightAt ss t i).1), some (.int (sightAt ss t i).2), some (.int bf), some (.int bh)] ∧ Same H2 H', ?_, ?_⟩
      · refine ⟨_, rfl, _, rfl, small2, fun p np => ?_⟩
        have s3 := same_new (o := .tup [.int bh, .int (-1)]) np
        have s13 := s1.trans (s2.trans s3)
        obtain ⟨kvs, hD, hv⟩ := hT.same s13
        refine ⟨_, rfl, d, kvs, p, kk bh (-1), rfl, rfl, hD, nk_pair tup_new, kk_dp _ _, _, rfl, ?_⟩
        have eS : (sightAt ss t i).2 = if 0 < tl t bh (-1) then mx lr.2 ((gS ss bh).2 + 1) else lr.2 := by
          unfold sightAt
          rw [hpn, hbi]
        by_cases c : 0 < tl t bh (-1)
        · have e : valV kvs (kk bh (-1)) = some (.int (tl t bh (-1))) := by rw [hv, if_pos c]
          rw [e]
          refine iteT ?_
          have hsb := gS_at pn.1 pn.2
          obtain ⟨b2, hb2, hbp2⟩ := Paired.at hP hsb
          refine ⟨_, rfl, _, rfl, _, rfl, a, vR as, _, _, rfl, rfl, SqL.of (s13 _ _ hA), at_int pn.1 (vR_at hb2), b2, _, 1, _, rfl, rfl, tup_sq (TupA.same s13 hbp2), atI_nat (j := 1) rfl, _, _, rfl, rfl, _, _, rfl, ?_⟩
          refine ⟨?_, s3⟩
          rw [eS, if_pos c] <;> rfl
        · have e : valV kvs (kk bh (-1)) = none := by rw [hv, if_neg c]
          rw [e]
          refine iteF ?_
          refine ⟨?_, s3⟩
          rw [eS, if_neg c] <;> rfl
      rintro σ' H3 ⟨rfl, s3⟩
      -- found.append((left, right))
      have s23 := s2.trans s3
      have hf3 := s23 _ _ hf
      have hlf : (vR fs).length ≤ 900 := by
        rw [List.length_map, Paired.length hfp, List.length_take]; omega
      refine ⟨_, rfl, .inl ⟨rfl, _, SqL.of hf3⟩, _, rfl, _, rfl, small2, fun p np => ?_⟩
      have s4 := same_new (o := .tup [.int (sightAt ss t i).1, .int (sightAt ss t i).2]) np
      have hf4 := s4 _ _ hf3
      refine ⟨f, _, _, rfl, rfl, hf4, szlt (by omega), ?_⟩
      refine ⟨_, _, _, _, _, rfl, same_mut (s1.trans (s23.trans s4)) nf, fs ++ [p], by rw [upd_same, vR_snoc], ?_⟩
      have t4 : TSm (upd H3 p (.tup [.int (sightAt ss t i).1, .int (sightAt ss t i).2])) (upd (upd H3 p (.tup [.int (sightAt ss t i).1, .int (sightAt ss t i).2])) f (.lst (vR fs ++ [.ref p]))) := TSm.lst hf4
      have etake : (sightsB ss t).take (i + 1) = (sightsB ss t).take i ++ [sightAt ss t i] := by rw [List.take_add_one, sightsB_get ss t i hi]; rfl
      rw [etake]
      exact PySem.Paired.snoc (L2.Paired.mapP hfp fun _ _ z => t4.t _ _ (TupA.same (s23.trans s4) z)) (t4.t _ _ tup_new)
    · rintro σ H1 ⟨y4, y5, y6, y7, y8, rfl, s1, hL⟩
      have : (sightsB ss t).take ((ss.length : Int)).toNat = sightsB ss t := List.take_of_length_le (by rw [sightsB_length]; omega)
      rw [this] at hL
      exact ⟨_, rfl, q _ f s1 nf hL⟩

/-! ### row_behind -/
def encKy (k : Ky) : NestedKey := .tup [.num k.1, .tup [.tup [.num k.2.1.1.1, .num k.2.1.1.2], .tup [.num k.2.1.2.1, .num k.2.1.2.2]], .tup [.num k.2.2.1.1, .num k.2.2.1.2], .tup (k.2.2.2.map .num)]
theorem num_inj_list : ∀ {a b : List Int}, a.map NestedKey.num = b.map NestedKey.num → a = b
  | [], [], _ => rfl
  | [], _ :: _, h => by simp at h
  | _ :: _, [], h => by simp at h
  | x :: a, y :: b, h => by
    rw [List.map_cons, List.map_cons] at h
    injection h with h1 h2
    injection h1 with h1
    rw [h1, num_inj_list h2]
theorem encKy_inj (a b : Ky) (h : encKy a = encKy b) : a = b := by
  obtain ⟨m, ⟨⟨a1, a2⟩, a3, a4⟩, ⟨a5, a6⟩, a7⟩ := a
  obtain ⟨m', ⟨⟨b1, b2⟩, b3, b4⟩, ⟨b5, b6⟩, b7⟩ := b
  unfold encKy at h
  simp only [NestedKey.tup.injEq, List.cons.injEq, NestedKey.num.injEq, and_true] at h
  obtain ⟨h1, ⟨⟨h2, h3⟩, h4, h5⟩, ⟨h6, h7⟩, h8⟩ := h
  rw [h1, h2, h3, h4, h5, h6, h7, num_inj_list h8]
theorem depth_nums : ∀ l : List Int, NestedKey.depthAll (l.map .num) = 0
  | [] => rfl
  | x :: r => by
    show max 0 (NestedKey.depthAll (r.map .num)) = 0
    rw [depth_nums r]; rfl
theorem encKy_dp (k : Ky) : (encKy k).depth ≤ 8 := by
  unfold encKy
  simp only [NestedKey.depth, NestedKey.depthAll, depth_nums]
  omega
theorem num_map_inj {κ ι : Type} [DecidableEq κ] [DecidableEq ι] (f : κ → ι) (inj : ∀ x y, f x = f y → x = y) (ks : List κ) : num (ks.map f) = num ks := by
  have hfd : fd (ks.map f) = (fd ks).map f := by
    refine snoc_ind (P := fun ks => fd (ks.map f) = (fd ks).map f) rfl (fun l y ih => ?_) ks
    rw [List.map_append, List.map_singleton, fd_snoc, fd_snoc, ih]
    by_cases c : y ∈ fd l
    · rw [if_pos c, if_pos (List.mem_map.mpr ⟨y, c, rfl⟩)]
    · rw [if_neg c, if_neg (fun q => by
        obtain ⟨z, hz, e⟩ := List.mem_map.mp q
        exact c (inj _ _ e ▸ hz)), List.map_append, List.map_singleton]
  have hidx : ∀ (l : List κ) (z : κ), (l.map f).idxOf (f z) = l.idxOf z := by
    intro l z
    induction l with
    | nil => rfl
    | cons b r ih =>
      rw [List.map_cons, List.idxOf_cons, List.idxOf_cons, ih]
      have : (f b == f z) = (b == z) := by
        by_cases e : b = z
        · subst e; simp
        · have h : ¬ f b = f z := fun q => e (inj _ _ q)
          rw [beq_eq_false_iff_ne.mpr h, beq_eq_false_iff_ne.mpr e]
      rw [this]
  unfold num
  rw [List.map_map, hfd]
  refine List.map_congr_left fun x _ => ?_
  show (((fd ks).map f).idxOf (f x) : Int) = _
  rw [hidx]
theorem nks_nums {H : Hp} : ∀ l : List Int, NKs H (vI l) (l.map .num)
  | [] => .nil
  | x :: r => .cons (.num x) (nks_nums r)
theorem nk_ints {H : Hp} {a : Addr} {l : List Int} (t : IntsT H a l) : NK H (.ref a) (.tup (l.map .num)) := .tup t (nks_nums l)
theorem nk_pp {H : Hp} {a : Addr} {p : Int × Int} (t : PairT H a p) : NK H (.ref a) (.tup [.num p.1, .num p.2]) := .tup t (.cons (.num _) (.cons (.num _) .nil))
abbrev s6 : Stmt := topS 6
theorem sc6 : FnScope ["ring", "row", "told", "sights", "many", "keys", "house", "heard", "left", "right"] ["ring", "row", "told", "sights"] (defScope s6) := ⟨rfl, rfl, rfl, by decide +kernel, rfl, by decide +kernel, by decide +kernel⟩
abbrev D6 (K : PySem.W.Frag) (mg : Str → Option Value) := Df K mg "row_behind" s6 ["ring", "row", "told", "sights"]
def See (n : Nat) (s : List (Int × Int)) : Prop := ∀ a : Int, 0 ≤ a → a < n → 0 ≤ (gS s a).1 ∧ 0 ≤ (gS s a).2 ∧ (gS s a).1 + (gS s a).2 ≤ 60
def spRow (P : Program) (w : World) : Sp := fun vs H Q _ => ∃ (a r d sA : Addr) (ring row : List Int) (t : Tr) (ss : List (Int × Int)), vs = [.ref a, .ref r, .ref d, .ref sA] ∧ IntsT H a ring ∧ IntsT H r row ∧ Told P w H d t ∧ SightsL H sA ss ∧
  0 < ring.length ∧ ring.length ≤ 900 ∧ row.length = ring.length ∧ ss.length = ring.length ∧ See ring.length ss ∧ ∀ H' p, Same H H' → RowF H' p (rowB ring row t ss) → Q (.ref p) H'
theorem keysB_getN (ring row : List Int) (t : Tr) (s : List (Int × Int)) (i : Nat) (h : i < ring.length) : (keysB ring row t s)[i]? = some (keyAt ring row t s (i : Int)) := by
  unfold keysB
  rw [List.getElem?_map, List.getElem?_range h]
  rfl
theorem ok_row (D : D6 K mg) (T : Txt mg) (D_heard_from : D5 K mg) (D_order_around : D1 K mg) (D_numbered : D2 K mg) : FnOk P w K mg base CX0 2 D.f D.fd ["ring", "row", "told", "sights"] (spRow P w) := by
  have G_heard_from : FnOk P w K mg base CX0 1 _ _ _ _ := ok_heard D_heard_from T
  have G_order_around : FnOk P w K mg base CX0 1 _ _ _ _ := ok_order D_order_around T
  have G_numbered : FnOk P w K mg base CX0 1 _ _ _ _ := ok_num D_numbered T
  refine D.F.ok sc6 (fun vs H Q E h => ?_) (fun cdv A outer s H vs Q E hr h => ?_)
  · obtain ⟨a, r, d, sA, ring, row, t, ss, rfl, _⟩ := h
    rfl
  · obtain ⟨a, r, d, sA, ring, row, t, ss, rfl, hR, hW, hT, ⟨as, hA, hP⟩, hn, hn2, hrl, hsl, hsee, q⟩ := h
    have hlen : ((vI ring).length : Int) = (ring.length : Int) := by rw [List.length_map]
    refine ⟨_, (pss_cons (ps_set (i := 4) sc6.nd rfl (Or.inl rfl) (pe_callB call_len_seq (by rfl) T.len (by decide +kernel) (pa_cons (pv 0) pa_nil)))
  (pss_cons (ps_set (i := 5) sc6.nd rfl (Or.inl rfl) (pe_lst pa_nil))
  (pss_cons (ps_for PassesOwn.never rfl (pi_range1 (by rfl) T.range (pa_cons (pv 4) pa_nil)) (pg_name (i := 6) sc6.nd rfl (Or.inl rfl) (Or.inr rfl))
  (pss_cons (ps_set (i := 7) sc6.nd rfl (Or.inl rfl) (pe_tup (pa_cons (pe_call G_heard_from (hr.mono (by decide)) (by rfl) D_heard_from.g D_heard_from.F.kp D_heard_from.b .nil pass0 (pa_cons (pv 1) (pa_cons (pv 2) (pa_cons (pe_op op_mod (pe_op op_sub (pv 6) pe_int) (pv 4)) (pa_cons pe_int pa_nil))))) (pa_cons (pe_call G_heard_from (hr.mono (by decide)) (by rfl) D_heard_from.g D_heard_from.F.kp D_heard_from.b .nil pass0 (pa_cons (pv 1) (pa_cons (pv 2) (pa_cons (pe_op op_mod (pe_op op_add (pv 6) pe_int) (pv 4)) (pa_cons (pe_un un_neg pe_int) pa_nil))))) pa_nil))))
  (pss_cons (ps_asg (pe_ix ix_list (pv 3) (pv 6) (fun _ _ => rfl)) (pg_tup (n := 2) rfl (pgs_cons (pg_name (i := 8) sc6.nd rfl (Or.inl rfl) (Or.inr rfl)) (pgs_cons (pg_name (i := 9) sc6.nd rfl (Or.inl rfl) (Or.inr rfl)) pgs_nil)) rfl rfl))
  (pss_one (ps_expr (pe_bm PySem.F.plainAttrs_list PySem.F.slot_list_append PySem.F.type_list_append mt_append (pv 5) (pa_cons (pe_tup (pa_cons (pe_ix ix_tup (pv 1) (pv 6) (fun _ _ => rfl)) (pa_cons (pv 7) (pa_cons (pe_ix ix_list (pv 3) (pv 6) (fun _ _ => rfl)) (pa_cons (pe_call G_order_around (hr.mono (by decide)) (by rfl) D_order_around.g D_order_around.F.kp D_order_around.b .nil pass0 (pa_cons (pv 0) (pa_cons (pv 6) (pa_cons (pv 8) (pa_cons (pv 9) pa_nil))))) pa_nil))))) pa_nil)))))))
  (pss_one (ps_ret (pe_call G_numbered (hr.mono (by decide)) (by rfl) D_numbered.g D_numbered.F.kp D_numbered.b .nil pass0 (pa_cons (pv 5) pa_nil))))))), ?_⟩
    refine ⟨_, rfl, a, _, rfl, .inr (tup_sq hR), ?_⟩
    rw [hlen]
    refine ⟨Nat.zero_le _, fun f nf => ?_⟩
    have sf : Same H (upd H f (.lst [])) := same_new nf
    have hkl : (keysB ring row t ss).length = ring.length := by simp [keysB]
    refine ⟨_, rfl, _, rfl, by omega, by omega, for_range (lo := 0) (n := ((ring.length : Int)).toNat) (fun i σ H' => ∃ y6 y7 y8 y9, σ = [some (.ref a), some (.ref r), some (.ref d), some (.ref sA), some (.int ring.length), some (.ref f), y6, y7, y8, y9] ∧
      Same H H' ∧ LstOf KeyT H' f (((keysB ring row t ss).take i).map encKy)) ⟨none, none, none, none, rfl, sf, [], upd_same, .nil⟩ ?_ ?_⟩
    · rintro i σ H1 hi ⟨y6, y7, y8, y9, rfl, s1, fs, hf, hfp⟩
      have hi : i < ring.length := by omega
      have i0 : (0 : Int) + (i : Nat) = (i : Int) := by omega
      rw [i0]
      have pp := prv_lt hn (i : Int)
      have pn := nxt_lt hn (i : Int)
      -- heard
      refine ⟨_, rfl, _, rfl, _, rfl, _, _, rfl, rfl, _, rfl, _, _, rfl, rfl, by omega, ?_⟩
      refine ⟨r, d, _, 1, row, t, rfl, TupA.same s1 hW, hT.same s1, pp.1, by rw [hrl]; exact pp.2, fun H2 p1 s2 h1 => ?_⟩
      have s12 := s1.trans s2
      refine ⟨_, rfl, _, rfl, _, rfl, _, _, rfl, rfl, _, rfl, _, _, rfl, rfl, by omega, _, rfl, ?_⟩
      refine ⟨r, d, _, -1, row, t, rfl, TupA.same s12 hW, hT.same s12, pn.1, by rw [hrl]; exact pn.2, fun H3 p2 s3 h2 => ?_⟩
      have s13 := s12.trans s3
      refine ⟨small2, fun p3 n3 => ?_⟩
      have s4 := same_new (o := .tup [.ref p1, .ref p2]) n3
      have s14 := s13.trans s4
      have h1' : PairT (upd H3 p3 (.tup [.ref p1, .ref p2])) p1 (heard row t (prv ring.length i) 1) := TupA.same (s3.trans s4) h1
      have h2' : PairT (upd H3 p3 (.tup [.ref p1, .ref p2])) p2 (heard row t (nxt ring.length i) (-1)) := TupA.same s4 h2
      have h3' : TupA (upd H3 p3 (.tup [.ref p1, .ref p2])) p3 [.ref p1, .ref p2] := tup_new
      have hf4 := (s2.trans (s3.trans s4)) _ _ hf
      generalize upd H3 p3 (.tup [.ref p1, .ref p2]) = H4 at s4 s14 h1' h2' h3' hf4
      -- left, right = sights[house]
      have hsi : ss[((i : Nat) : Int).toNat]? = some (gS ss (i : Int)) := gS_at (by omega) (by omega)
      obtain ⟨b, hb, hbp⟩ := Paired.at hP hsi
      have hse := hsee (i : Int) (by omega) (by omega)
      generalize hlr : gS ss (i : Int) = lr at hsi hbp hse
      refine ⟨_, rfl, _, rfl, sA, vR as, _, _, rfl, rfl, SqL.of (s14 _ _ hA), at_int (by omega) (vR_at hb), ?_⟩
      refine ⟨b, _, rfl, tup_sq (TupA.same s14 hbp), rfl, _, _, rfl, _, _, rfl, rfl, ?_⟩
      -- keys.append(..)
      have hlf : (vR fs).length ≤ 900 := by
        rw [List.length_map, Paired.length hfp, List.length_map, List.length_take]; omega
      refine ⟨_, rfl, .inl ⟨rfl, _, SqL.of hf4⟩, ?_⟩
      refine ⟨_, rfl, _, rfl, r, vI row, _, _, rfl, rfl, tup_sq (TupA.same s14 hW), at_int (by omega) (vI_at (gI_at (by omega) (by omega))), ?_⟩
      refine ⟨_, rfl, _, rfl, _, rfl, sA, vR as, _, _, rfl, rfl, SqL.of (s14 _ _ hA), at_int (by omega) (vR_at hb), ?_⟩
      refine ⟨_, rfl, _, rfl, _, rfl, _, rfl, a, (i : Int), lr.1, lr.2, ring, rfl, TupA.same s14 hR, hn, by omega, hse.1, hse.2.1, hse.2.2, fun H5 p5 s5 h5 => ?_⟩
      refine ⟨(by show 4 ≤ sizeLine; decide), fun p6 n6 => ?_⟩
      have s6 := same_new (o := .tup [.int (gI row i), .ref p3, .ref b, .ref p5]) n6
      have s46 := s5.trans s6
      have hf6 := s46 _ _ hf4
      have hK : KeyT (upd H5 p6 (.tup [.int (gI row i), .ref p3, .ref b, .ref p5])) p6 (encKy (keyAt ring row t ss i)) := by
        refine ⟨.tup tup_new (.cons (.num _) (.cons (.tup (TupA.same s46 h3') (.cons (nk_pp (TupA.same s46 h1')) (.cons (nk_pp (TupA.same s46 h2')) .nil))) (.cons ?_ (.cons ?_ .nil)))), encKy_dp _⟩
        · show NK _ (.ref b) (.tup [.num (gS ss i).1, .num (gS ss i).2])
          rw [hlr]
          exact nk_pp (TupA.same (s14.trans s46) hbp)
        · show NK _ (.ref p5) (.tup ((ordOf (namesAt ring i (gS ss i).1 (gS ss i).2)).map .num))
          rw [hlr]
          exact nk_ints (TupA.same s6 h5)
      refine ⟨f, _, _, rfl, rfl, hf6, szlt (by omega), ?_⟩
      have t4 := TSm.lst (ys := vR fs ++ [.ref p6]) hf6
      refine ⟨_, _, _, _, rfl, same_mut (s14.trans s46) nf, fs ++ [p6], by rw [upd_same, vR_snoc], ?_⟩
      have etake : (keysB ring row t ss).take (i + 1) = (keysB ring row t ss).take i ++ [keyAt ring row t ss i] := by rw [List.take_add_one, keysB_getN ring row t ss i hi]; rfl
      rw [etake, List.map_append, List.map_singleton]
      exact PySem.Paired.snoc (L2.Paired.mapP hfp fun _ _ z => key_mono (((s2.trans (s3.trans s4)).trans s46).ts.trans t4) _ _ z) (key_mono t4 _ _ hK)
    · rintro σ H1 ⟨y6, y7, y8, y9, rfl, s1, hL⟩
      have : (keysB ring row t ss).take ((ring.length : Int)).toNat = keysB ring row t ss := List.take_of_length_le (by omega)
      rw [this] at hL
      refine ⟨_, rfl, f, _, rfl, hL, by rw [List.length_map]; omega, fun H2 p s2 hRow => ?_⟩
      rw [num_map_inj encKy encKy_inj] at hRow
      exact q _ p (s1.trans s2) hRow
end
end K62

set_option Elab.async false
set_option linter.all false
set_option maxRecDepth 100000
set_option maxHeartbeats 4000000
namespace K62
open PySem PySem.Spec PyProof.Rows L2
/-! ### how far is seen -/
structure Seen (ring : List Int) (k : Nat) (st : Stt) : Prop where
  len1 : st.1.length = ring.length
  len2 : st.2.length = ring.length
  see : ∀ a : Int, 0 ≤ a → a < ring.length → 0 ≤ (gS st.2 a).1 ∧ (gS st.2 a).1 ≤ k ∧ 0 ≤ (gS st.2 a).2 ∧ (gS st.2 a).2 ≤ k
theorem seen_ini (ring : List Int) : Seen ring 0 (ini ring.length) := by
  refine ⟨by simp [ini], by simp [ini], fun a a0 a1 => ?_⟩
  rw [show gS (ini ring.length).2 a = (0, 0) from gS_rep _ _ a0 a1]
  simp
theorem seen_sights {ring : List Int} {k : Nat} {st : Stt} (S : Seen ring k st) (t : Tr) (a : Int) (a0 : 0 ≤ a) (a1 : a < ring.length) :
    0 ≤ (gS (sightsB st.2 t) a).1 ∧ (gS (sightsB st.2 t) a).1 ≤ ((k + 1 : Nat) : Int) ∧ 0 ≤ (gS (sightsB st.2 t) a).2 ∧ (gS (sightsB st.2 t) a).2 ≤ ((k + 1 : Nat) : Int) := by
  have hn : 0 < ring.length := by omega
  rw [gS_sightsB _ _ _ a0 (by rw [S.len2]; exact a1)]
  have q := S.see a a0 a1
  have hp := prv_lt hn a
  have hx := nxt_lt hn a
  have qp := S.see _ hp.1 hp.2
  have qx := S.see _ hx.1 hx.2
  unfold sightAt
  rw [S.len2]
  refine ⟨?_, ?_, ?_, ?_⟩
  · show 0 ≤ ite _ _ _
    split
    · exact mx_ge q.1
    · exact q.1
  · show ite _ _ _ ≤ _
    split
    · exact mx_le (by omega) (by omega)
    · omega
  · show 0 ≤ ite _ _ _
    split
    · exact mx_ge q.2.2.1
    · exact q.2.2.1
  · show ite _ _ _ ≤ _
    split
    · exact mx_le (by omega) (by omega)
    · omega
theorem seen_stp {ring : List Int} {k : Nat} {st : Stt} (S : Seen ring k st) (t : Tr) : Seen ring (k + 1) (stp ring st t) :=
  ⟨by show (rowB _ _ _ _).length = _; rw [rowB_length], by show (sightsB _ _).length = _; rw [sightsB_length, S.len2], fun a a0 a1 => seen_sights S t a a0 a1⟩
theorem seen_log (ring : List Int) (log : List Tr) : Seen ring log.length (stOf ring log) := by
  refine snoc_ind (P := fun log => Seen ring log.length (stOf ring log)) (seen_ini ring) (fun l t ih => ?_) log
  rw [stOf_snoc, List.length_append, List.length_singleton]
  exact seen_stp ih t
theorem Seen.row60 {ring : List Int} {k : Nat} {st : Stt} (S : Seen ring k st) (hk : k ≤ 30) : See ring.length st.2 := fun a a0 a1 => by
  have q := S.see a a0 a1
  omega
def rowsOf (ring : List Int) (log : List Tr) : List (List Int) := (List.range (log.length + 1)).map fun k => (stOf ring (log.take k)).1
theorem paired_unsnoc {α β : Type} {G : α → β → Prop} {b : β} : ∀ {m : List β} {l : List α}, Paired G l (m ++ [b]) → ∃ l' a, l = l' ++ [a] ∧ Paired G l' m ∧ G a b
  | [], _, h => by
    cases h with
    | cons h t =>
      cases t
      exact ⟨[], _, rfl, .nil, h⟩
  | y :: m, _, h => by
    cases h with
    | @cons a _ as _ h t =>
      obtain ⟨l', x, e, h1, h2⟩ := paired_unsnoc t
      exact ⟨a :: l', x, by rw [e]; rfl, .cons h h1, h2⟩
theorem flat_rep {α : Type} (x : α) : ∀ m : Nat, (List.replicate m [x]).flatten = List.replicate m x
  | 0 => rfl
  | m + 1 => by rw [List.replicate_succ, List.flatten_cons, flat_rep x m]; rfl
theorem vI_rep (m : Nat) (z : Int) : vI (List.replicate m z) = List.replicate m (.int z) := by rw [vI, List.map_replicate]
theorem vR_rep (m : Nat) (z : Addr) : vR (List.replicate m z) = List.replicate m (.ref z) := by rw [vR, List.map_replicate]
theorem paired_rep {α β : Type} {G : α → β → Prop} {a : α} {b : β} (h : G a b) : ∀ m : Nat, Paired G (List.replicate m a) (List.replicate m b)
  | 0 => .nil
  | m + 1 => .cons h (paired_rep h m)
abbrev LogT (H : Hp) (a : Addr) (log : List Tr) : Prop := TupOf TurnT H a log
theorem log_mono {H H' : Hp} (s : TSm H H') {a : Addr} {log : List Tr} (h : LogT H a log) : LogT H' a log := h.mono s (turn_mono s)
theorem stOf_take_succ (ring : List Int) (log : List Tr) (i : Nat) (t : Tr) (h : log[i]? = some t) : stOf ring (log.take (i + 1)) = stp ring (stOf ring (log.take i)) t := by
  have e : log.take (i + 1) = log.take i ++ [t] := by rw [List.take_add_one, h]; rfl
  rw [e, stOf_snoc]
section
variable {P : Program} {w : World} {K : PySem.W.Frag} {mg : Str → Option Value} {base : Heap}
abbrev s7 : Stmt := topS 7
theorem sc7 : FnScope ["ring", "log", "many", "rows", "sights", "turn", "told"] ["ring", "log"] (defScope s7) := ⟨rfl, rfl, rfl, by decide +kernel, rfl, by decide +kernel, by decide +kernel⟩
abbrev D7 (K : PySem.W.Frag) (mg : Str → Option Value) := Df K mg "marks" s7 ["ring", "log"]
/-- the rows, then a list of zeros -/
def TurnsOk (n : Nat) (log : List Tr) : Prop := ∀ t ∈ log, TurnOk n t ∧ t.length ≤ 1000
def spMarks : Sp := fun vs H Q _ => ∃ (a lg : Addr) (ring : List Int) (log : List Tr), vs = [.ref a, .ref lg] ∧ IntsT H a ring ∧ LogT H lg log ∧ 0 < ring.length ∧ ring.length ≤ 900 ∧ log.length ≤ 25 ∧ TurnsOk ring.length log ∧
  ∀ H' p, Same H H' → TupOf RowF H' p (rowsOf ring log) → Q (.ref p) H'
theorem ok_marks (D : D7 K mg) (T : Txt mg) (D_told_in : D3 K mg) (D_sights_behind : D4 K mg) (D_row_behind : D6 K mg) (D_heard_from : D5 K mg) (D_order_around : D1 K mg) (D_numbered : D2 K mg) : FnOk P w K mg base CX0 3 D.f D.fd ["ring", "log"] spMarks := by
  have G_told_in : FnOk P w K mg base CX0 1 _ _ _ _ := ok_told D_told_in T
  have G_sights_behind : FnOk P w K mg base CX0 1 _ _ _ _ := ok_sights D_sights_behind T
  have G_row_behind : FnOk P w K mg base CX0 2 _ _ _ _ := ok_row D_row_behind T D_heard_from D_order_around D_numbered
  refine D.F.ok sc7 (fun vs H Q E h => ?_) (fun cdv A outer s H vs Q E hr h => ?_)
  · obtain ⟨a, lg, ring, log, rfl, _⟩ := h
    rfl
  · obtain ⟨a, lg, ring, log, rfl, hR, ⟨ls, hG, hGP⟩, hn, hn2, hll, hok, q⟩ := h
    have hlen : ((vI ring).length : Int) = (ring.length : Int) := by rw [List.length_map]
    have hlg := Paired.length hGP
    refine ⟨_, (pss_cons (ps_set (i := 2) sc7.nd rfl (Or.inl rfl) (pe_callB call_len_seq (by rfl) T.len (by decide +kernel) (pa_cons (pv 0) pa_nil)))
  (pss_cons (ps_set (i := 3) sc7.nd rfl (Or.inl rfl) (pe_lst (pa_cons (pe_op op_repF (pe_tupF (pa_cons pe_int pa_nil)) (pv 2)) pa_nil)))
  (pss_cons (ps_set (i := 4) sc7.nd rfl (Or.inl rfl) (pe_op op_rep (pe_lst (pa_cons (pe_tup (pa_cons pe_int (pa_cons pe_int pa_nil))) pa_nil)) (pv 2)))
  (pss_cons (ps_for PassesOwn.never rfl (pi_tup (pv 1)) (pg_name (i := 5) sc7.nd rfl (Or.inl rfl) (Or.inr rfl))
  (pss_cons (ps_set (i := 6) sc7.nd rfl (Or.inl rfl) (pe_call G_told_in (hr.mono (by decide)) (by rfl) D_told_in.g D_told_in.F.kp D_told_in.b .nil pass0 (pa_cons (pv 5) pa_nil)))
  (pss_cons (ps_set (i := 4) sc7.nd rfl (Or.inl rfl) (pe_call G_sights_behind (hr.mono (by decide)) (by rfl) D_sights_behind.g D_sights_behind.F.kp D_sights_behind.b .nil pass0 (pa_cons (pv 4) (pa_cons (pv 6) pa_nil))))
  (pss_one (ps_expr (pe_bm PySem.F.plainAttrs_list PySem.F.slot_list_append PySem.F.type_list_append mt_append (pv 3) (pa_cons (pe_call G_row_behind (hr.mono (by decide)) (by rfl) D_row_behind.g D_row_behind.F.kp D_row_behind.b .nil pass0 (pa_cons (pv 0) (pa_cons (pe_ix ix_list (pv 3) (pe_un un_neg pe_int) (fun _ _ => rfl)) (pa_cons (pv 6) (pa_cons (pv 4) pa_nil))))) pa_nil)))))))
  (pss_one (ps_ret (pe_callTy call_tuple_of (by rfl) T.tuple (by decide +kernel) (pa_cons (pv 3) pa_nil)))))))), ?_⟩
    refine ⟨_, rfl, a, _, rfl, .inr (tup_sq hR), ?_⟩
    rw [hlen]
    refine ⟨by show 1 ≤ sizeLine; decide, fun z o nz oc od => ?_⟩
    have sz := same_new (o := .frz o (.tup [.int 0])) nz
    have hz : TupF (upd H z (.frz o (.tup [.int 0]))) z [.int 0] := ⟨o, upd_same, oc, od⟩
    refine ⟨_, rfl, z, _, _, rfl, rfl, hz, by simp, by omega, by omega, by show 1 ≤ 1000; omega, fun p0 H1 s1 h1 => ?_⟩
    have s01 := sz.trans s1
    have h1 : RowF H1 p0 (List.replicate ring.length 0) := by
      rw [flat_rep] at h1
      rw [RowF, vI_rep]
      exact h1
    -- rows = [..]
    refine ⟨by show 1 ≤ sizeLine; decide, fun R nR => ?_⟩
    have sR := same_new (o := .lst [.ref p0]) nR
    have nHR : H R = none := s01.free nR
    have hR2 : (upd H1 R (.lst [.ref p0])) R = some (.lst (vR [p0])) := upd_same
    have h2 : RowF (upd H1 R (.lst [.ref p0])) p0 (List.replicate ring.length 0) := rowf_mono sR.ts _ _ h1
    generalize upd H1 R (.lst [.ref p0]) = H2 at sR hR2 h2
    have s02 := s01.trans sR
    -- sights = [(0, 0)] * many
    refine ⟨small2, fun z2 nz2 => ?_⟩
    have s3 := same_new (o := .tup [.int 0, .int 0]) nz2
    have hz2 : PairT (upd H2 z2 (.tup [.int 0, .int 0])) z2 (0, 0) := tup_new
    generalize upd H2 z2 (.tup [.int 0, .int 0]) = H3 at s3 hz2
    refine ⟨by show 1 ≤ sizeLine; decide, fun z3 nz3 => ?_⟩
    have s4 := same_new (o := .lst [.ref z2]) nz3
    have hz3 : (upd H3 z3 (.lst [.ref z2])) z3 = some (.lst [.ref z2]) := upd_same
    generalize upd H3 z3 (.lst [.ref z2]) = H4 at s4 hz3
    refine ⟨_, rfl, z3, _, _, rfl, rfl, hz3, by omega, by omega, by rw [sizeLine_eq]; show 1 * _ ≤ _; omega, fun sA nA => ?_⟩
    have s5 := same_new (o := .lst (List.replicate ((ring.length : Nat) : Int).toNat [V.ref z2]).flatten) nA
    have hsA : SightsL (upd H4 sA (.lst (List.replicate ((ring.length : Nat) : Int).toNat [V.ref z2]).flatten)) sA (ini ring.length).2 := by
      refine ⟨List.replicate ring.length z2, ?_, paired_rep ?_ _⟩
      · rw [upd_same, flat_rep, vR_rep]; rfl
      · exact TupA.same (s4.trans s5) hz2
    have hR5 := (s3.trans (s4.trans s5)) _ _ hR2
    have nRA : R ≠ sA := ne_of_none ((s3.trans s4) _ _ hR2) nA
    have h5 := rowf_mono (s3.trans (s4.trans s5)).ts _ _ h2
    generalize upd H4 sA (.lst (List.replicate ((ring.length : Nat) : Int).toNat [V.ref z2]).flatten) = H5 at s5 hsA hR5 h5
    have s05 : Same H H5 := s02.trans (s3.trans (s4.trans s5))
    -- the loop
    refine ⟨_, rfl, lg, rfl, ⟨_, tup_sq (TupA.same s05 hG)⟩, for_tup (K := K) (a := lg) (xs := vR ls) (fun i σ H' => ∃ (sA : Addr) (y5 y6 : Option V), σ = [some (.ref a), some (.ref lg), some (.int ring.length), some (.ref R), some (.ref sA), y5, y6] ∧
      Same H H' ∧ R ≠ sA ∧ LstOf RowF H' R ((List.range (i + 1)).map fun k => (stOf ring (log.take k)).1) ∧ SightsL H' sA (stOf ring (log.take i)).2)
      ⟨sA, none, none, rfl, s05, nRA, ⟨[p0], hR5, .cons h5 .nil⟩, hsA⟩ (fun i σ H' _ ⟨_, _, _, _, z, _⟩ => tup_sq (TupA.same z hG)) ?_ ?_⟩
    · rintro i x σ H6 hx ⟨sA, y5, y6, rfl, s6, nRS, hRows, hS⟩
      obtain ⟨b, hb, rfl⟩ := of_vR hx
      obtain ⟨t, ht, htT⟩ := paired_get hGP hb
      obtain ⟨hil, _⟩ := List.getElem?_eq_some_iff.mp ht
      have hk := hok t (List.mem_of_getElem? ht)
      have seen := seen_log ring (log.take i)
      have htl : (log.take i).length ≤ 25 := by rw [List.length_take]; omega
      -- told
      refine ⟨_, rfl, b, ring.length, t, rfl, turn_mono s6.ts _ _ htT, hk.1, hk.2, fun H7 d s7 hD => ?_⟩
      have s67 := s6.trans s7
      -- sights
      have hS7 : SightsL H7 sA (stOf ring (log.take i)).2 := hS.mono (fun o e => s7 _ _ e) (pair_mono s7.ts)
      refine ⟨_, rfl, _, rfl, sA, d, _, t, rfl, hS7, hD, by rw [seen.len2]; exact hn, by rw [seen.len2]; exact hn2, fun H8 sB s8 nB hB => ?_⟩
      obtain ⟨rs, hrs, hrp⟩ := hRows
      have hrs8 := s8 _ _ (s7 _ _ hrs)
      have s68 := s67.trans s8
      have nRB : R ≠ sB := ne_of_none (s7 _ _ hrs) nB
      -- rows.append(..)
      rw [List.range_succ, List.map_append, List.map_singleton] at hrp
      obtain ⟨rs', r, ers, hrp', hrl⟩ := paired_unsnoc hrp
      have hlr : rs'.length = i := by
        have := Paired.length hrp'
        rw [List.length_map, List.length_range] at this
        exact this
      have hr8 : RowF H8 r (stOf ring (log.take i)).1 := rowf_mono (s7.trans s8).ts _ _ hrl
      subst ers
      have hsee : See ring.length (sightsB (stOf ring (log.take i)).2 t) := fun c c0 c1 => by
        have := seen_sights seen t c c0 c1
        omega
      refine ⟨_, rfl, .inl ⟨rfl, _, SqL.of hrs8⟩, ?_⟩
      refine ⟨_, rfl, _, rfl, _, rfl, R, vR (rs' ++ [r]), _, .ref r, rfl, rfl, SqL.of hrs8, by rw [vR_snoc]; exact atI_last _ _, _, rfl, _, rfl, ?_⟩
      refine ⟨a, r, d, sB, ring, _, t, _, rfl, TupA.same s68 hR, hr8.tup, hD.same s8, hB, hn, hn2, seen.len1, by rw [sightsB_length, seen.len2], hsee, fun H9 p9 s9 h9 => ?_⟩
      have hrs9 := s9 _ _ hrs8
      have hlen9 : (vR (rs' ++ [r])).length ≤ 900 := by
        rw [List.length_map, List.length_append, List.length_singleton]; omega
      refine ⟨R, _, _, rfl, rfl, hrs9, szlt (by omega), ?_⟩
      have t9 := TSm.lst (ys := vR (rs' ++ [r]) ++ [.ref p9]) hrs9
      have est := stOf_take_succ ring log i t ht
      refine ⟨sB, _, _, rfl, same_mut (s68.trans s9) nHR, nRB, ⟨rs' ++ [r] ++ [p9], ?_, ?_⟩, ?_⟩
      · rw [upd_same, vR_snoc (rs' ++ [r]) p9]
      · rw [List.range_succ, List.map_append, List.map_singleton, List.range_succ, List.map_append, List.map_singleton, est]
        refine PySem.Paired.snoc (PySem.Paired.snoc (L2.Paired.mapP hrp' fun _ _ z => ?_) ?_) ?_
        · exact rowf_mono ((s7.trans (s8.trans s9)).ts.trans t9) _ _ z
        · exact rowf_mono ((s7.trans (s8.trans s9)).ts.trans t9) _ _ hrl
        · exact rowf_mono t9 _ _ h9
      · rw [est]
        exact hB.mono (fun o e => by rw [upd_ne nRB.symm]; exact s9 _ _ e) (pair_mono (s9.ts.trans t9))
    · rintro σ H6 ⟨sA, y5, y6, rfl, s6, nRS, ⟨rs, hrs, hrp⟩, hS⟩
      refine ⟨_, rfl, R, _, rfl, .inl ⟨SqL.of hrs, fun p np => ?_⟩⟩
      have s7 := same_new (o := .tup (vR rs)) np
      refine q _ p (s6.trans s7) ⟨rs, tup_new, ?_⟩
      have : (List.range ((vR ls).length + 1)).map (fun k => (stOf ring (log.take k)).1) = rowsOf ring log := by
        rw [List.length_map, hlg]; rfl
      rw [this] at hrp
      exact L2.Paired.mapP hrp (rowf_mono s7.ts)

/-! ### tells_alike -/
abbrev s8 : Stmt := topS 8
theorem sc8 : FnScope ["row", "told", "known", "house", "mark", "telling"] ["row", "told"] (defScope s8) := ⟨rfl, rfl, rfl, by decide +kernel, rfl, by decide +kernel, by decide +kernel⟩
abbrev D8 (K : PySem.W.Frag) (mg : Str → Option Value) := Df K mg "tells_alike" s8 ["row", "told"]
def spTells (P : Program) (w : World) : Sp := fun vs H Q _ => ∃ (r d : Addr) (row : List Int) (t : Tr), vs = [.ref r, .ref d] ∧ IntsT H r row ∧ Told P w H d t ∧ row.length ≤ 900 ∧ Tells row.length row t ∧ (∀ h s : Int, 0 ≤ tl t h s) ∧ ∀ H', Same H H' → Q (.bl true) H'
theorem told_getD {kvs : List (NestedKey × V)} {t : Tr} (hv : ∀ h s : Int, valV kvs (kk h s) = if 0 < tl t h s then some (.int (tl t h s)) else none) (h0 : ∀ h s : Int, 0 ≤ tl t h s) (h s : Int) : (valV kvs (kk h s)).getD (.int 0) = .int (tl t h s) := by
  rw [hv]
  by_cases c : 0 < tl t h s
  · rw [if_pos c]; rfl
  · rw [if_neg c]
    have := h0 h s
    have e : tl t h s = 0 := by omega
    rw [e]; rfl
theorem dp_pair {K : PySem.W.Frag} {H : Hp} {a : Addr} {x y : Int} (h : TupA H a [.int x, .int y]) : Dp K H (.ref a) (.tuple [.int x, .int y]) := .tup (tup_sq h) (.cons (.int _) (.cons (.int _) .nil))
theorem ok_tells (D : D8 K mg) (T : Txt mg) : FnOk P w K mg base CX0 1 D.f D.fd ["row", "told"] (spTells P w) := by
  refine D.F.ok sc8 (fun vs H Q E h => ?_) (fun cdv A outer s H vs Q E hr h => ?_)
  · obtain ⟨r, d, row, t, rfl, _⟩ := h
    rfl
  · obtain ⟨r, d, row, t, rfl, hR, hT, hn2, htell, h0, q⟩ := h
    have hu := hr.units
    refine ⟨_, (pss_cons (ps_set (i := 2) sc8.nd rfl (Or.inl rfl) pe_dnewK)
  (pss_cons (ps_for PassesOwn.never rfl (pi_enumT (by rfl) T.enumerate (pa_cons (pv 0) pa_nil)) (pg_tup (n := 2) rfl (pgs_cons (pg_name (i := 3) sc8.nd rfl (Or.inl rfl) (Or.inr rfl)) (pgs_cons (pg_name (i := 4) sc8.nd rfl (Or.inl rfl) (Or.inr rfl)) pgs_nil)) rfl rfl)
  (pss_cons (ps_set (i := 5) sc8.nd rfl (Or.inl rfl) (pe_tup (pa_cons (pe_nget2 hu (pv 1) (pe_tup (pa_cons (pv 3) (pa_cons (pe_un un_neg pe_int) pa_nil))) pe_int ⟨rfl, rfl, rfl, rfl⟩) (pa_cons (pe_nget2 hu (pv 1) (pe_tup (pa_cons (pv 3) (pa_cons pe_int pa_nil))) pe_int ⟨rfl, rfl, rfl, rfl⟩) pa_nil))))
  (pss_one (ps_if (pt_cmpR (op_neD hr.units) (pe_dsetd (pv 2) (pv 4) (pv 5) ⟨rfl, rfl, rfl, rfl⟩) (pv 5) (nomark _))
  (pss_one (ps_ret pe_bl))
  pss_nil))))
  (pss_one (ps_ret pe_bl)))), ?_⟩
    refine fun kn nk => ?_
    have s1 : Same H (upd H kn (.dK [])) := same_new nk
    refine ⟨_, rfl, r, vI row, rfl, tup_sq (TupA.same s1 hR), for_it (walk_enumT (K := K) (a := r) (xs := vI row)) (fun i σ H' => ∃ (y3 y4 y5 : Option V) (kvs : List (Key × V)), σ = [some (.ref r), some (.ref d), some (.ref kn), y3, y4, y5] ∧ Same H H' ∧ H' kn = some (.dK kvs) ∧ kvs.length ≤ i ∧
      ∀ (m : Int) (v : V), valV kvs (Sum.inl m) = some v → ∃ (b : Addr) (h : Int), v = .ref b ∧ 0 ≤ h ∧ h < row.length ∧ gI row h = m ∧ TupA H' b [.int (tl t h (-1)), .int (tl t h 1)])
      ⟨none, none, none, [], rfl, s1, upd_same, Nat.le_refl _, fun m v e => by cases e⟩ (fun i σ H' _ ⟨_, _, _, _, _, z, _⟩ => tup_sq (TupA.same z hR)) ?_ ?_⟩
    · rintro i x σ H1 H2 hi ⟨y3, y4, y5, kvs, rfl, s1, hk, hkl, hkv⟩ ⟨T0, x1, x2, rfl, nT, rfl, e1, e2⟩
      cases e1
      obtain ⟨z, hz, rfl⟩ := of_vI e2
      obtain ⟨hil, ezz⟩ := List.getElem?_eq_some_iff.mp hz
      have ez : gI row (i : Int) = z := by
        have := gI_at (row := row) (z := (i : Int)) (by omega) (by omega)
        have e : ((i : Nat) : Int).toNat = i := by omega
        rw [e, hz] at this
        exact (Option.some.inj this).symm
      have sT := same_new (o := .tup [.int ((i : Nat) : Int), .int z]) nT
      have hT0 : TupA (upd H1 T0 (.tup [.int ((i : Nat) : Int), .int z])) T0 [.int ((i : Nat) : Int), .int z] := tup_new
      generalize upd H1 T0 (.tup [.int ((i : Nat) : Int), .int z]) = H2 at sT hT0
      refine ⟨T0, _, rfl, tup_sq hT0, rfl, _, _, rfl, _, _, rfl, rfl, ?_⟩
      have s2 := s1.trans sT
      -- telling
      obtain ⟨kt, hD, hv⟩ := hT.same s2
      refine ⟨_, rfl, d, kt, rfl, hD, ?_⟩
      refine ⟨_, rfl, _, rfl, small2, fun p1 n1 => ?_⟩
      have s3 := same_new (o := .tup [.int ((i : Nat) : Int), .int (-1)]) n1
      refine ⟨p1, kk i (-1), rfl, hD.same s3, nk_pair tup_new, kk_dp _ _, ?_⟩
      rw [told_getD hv h0]
      generalize upd H2 p1 (.tup [.int ((i : Nat) : Int), .int (-1)]) = H3 at s3
      obtain ⟨kt2, hD2, hv2⟩ := hT.same (s2.trans s3)
      refine ⟨_, rfl, d, kt2, rfl, hD2, ?_⟩
      refine ⟨_, rfl, small2, fun p2 n2 => ?_⟩
      have s4 := same_new (o := .tup [.int ((i : Nat) : Int), .int 1]) n2
      refine ⟨p2, kk i 1, rfl, hD2.same s4, nk_pair tup_new, kk_dp _ _, ?_⟩
      rw [told_getD hv2 h0]
      generalize upd H3 p2 (.tup [.int ((i : Nat) : Int), .int 1]) = H4 at s4
      refine ⟨small2, fun p3 n3 => ?_⟩
      have s5 := same_new (o := .tup [.int (tl t i (-1)), .int (tl t i 1)]) n3
      have hp3 : TupA (upd H4 p3 (.tup [.int (tl t i (-1)), .int (tl t i 1)])) p3 [.int (tl t i (-1)), .int (tl t i 1)] := tup_new
      generalize upd H4 p3 (.tup [.int (tl t i (-1)), .int (tl t i 1)]) = H5 at s5 hp3
      have s15 := sT.trans (s3.trans (s4.trans s5))
      have hk5 := s15 _ _ hk
      have hlk : kvs.length < sizeLine := szlt (by rw [List.length_map] at hi; omega)
      -- known.setdefault(mark, telling) != telling
      refine ⟨_, rfl, kn, rfl, .inl ⟨kvs, .inl hk5⟩, _, rfl, _, rfl, kvs, Sum.inl z, hk5, rfl, hlk, fun v hv3 => ?_, fun hv3 => ?_⟩
      · obtain ⟨b, h, rfl, hh0, hh1, hhz, hbT⟩ := hkv z v hv3
        have same := htell h i hh0 hh1 (by omega) (by omega) (by rw [hhz, ez])
        have hb5 := TupA.same s15 hbT
        rw [same.1, same.2] at hb5
        refine ⟨_, rfl, _, _, dp_pair hb5, dp_pair hp3, by rfl, by rfl, _, rfl, ?_⟩
        rw [SeqAt.eqv_refl _ (by rfl)]
        refine iteF ?_
        exact ⟨_, _, _, kvs, rfl, s1.trans s15, hk5, by omega, fun m v e => by
          obtain ⟨b, h, e1, e2, e3, e4, e5⟩ := hkv m v e
          exact ⟨b, h, e1, e2, e3, e4, TupA.same s15 e5⟩⟩
      · have t6 : TSm H5 (upd H5 kn (.dK (putK kvs (Sum.inl z) (.ref p3)))) := TSm.upd hk5 (fun _ q => by cases q) (fun _ _ q => by cases q)
        have hp6 := t6.t _ _ hp3
        refine ⟨_, rfl, _, _, dp_pair hp6, dp_pair hp6, by rfl, by rfl, _, rfl, ?_⟩
        rw [SeqAt.eqv_refl _ (by rfl)]
        refine iteF ?_
        refine ⟨_, _, _, _, rfl, same_mut (s1.trans s15) nk, upd_same, ?_, fun m v e => ?_⟩
        · have := length_putK kvs (Sum.inl z) (.ref p3)
          omega
        · rw [valV_put] at e
          by_cases c : (Sum.inl m : Key) = Sum.inl z
          · rw [if_pos c] at e
            cases e
            cases c
            exact ⟨p3, i, rfl, by omega, by omega, ez, hp6⟩
          · rw [if_neg c] at e
            obtain ⟨b, h, e1, e2, e3, e4, e5⟩ := hkv m v e
            exact ⟨b, h, e1, e2, e3, e4, t6.t _ _ (TupA.same s15 e5)⟩
    · rintro σ H1 ⟨y3, y4, y5, kvs, rfl, s1, hk, hkl, hkv⟩
      exact q _ s1

/-! ### is_comparing -/
abbrev s9 : Stmt := topS 9
theorem sc9 : FnScope ["ring", "log", "rows", "k", "turn"] ["ring", "log"] (defScope s9) := ⟨rfl, rfl, rfl, by decide +kernel, rfl, by decide +kernel, by decide +kernel⟩
abbrev D9 (K : PySem.W.Frag) (mg : Str → Option Value) := Df K mg "is_comparing" s9 ["ring", "log"]
def spComp : Sp := fun vs H Q _ => ∃ (a lg : Addr) (ring : List Int) (log : List Tr), vs = [.ref a, .ref lg] ∧ IntsT H a ring ∧ LogT H lg log ∧ 0 < ring.length ∧ ring.length ≤ 900 ∧ log.length ≤ 25 ∧ TurnsOk ring.length log ∧ CompLog ring log ∧
  ∀ H', Same H H' → Q (.bl true) H'
theorem rowsOf_get (ring : List Int) (log : List Tr) (i : Nat) (h : i ≤ log.length) : (rowsOf ring log)[i]? = some (stOf ring (log.take i)).1 := by
  unfold rowsOf
  rw [List.getElem?_map, List.getElem?_range (by omega)]
  rfl
theorem ok_comp (D : D9 K mg) (T : Txt mg) (D_marks : D7 K mg) (D_tells_alike : D8 K mg) (D_told_in : D3 K mg) (D_sights_behind : D4 K mg) (D_row_behind : D6 K mg) (D_heard_from : D5 K mg) (D_order_around : D1 K mg) (D_numbered : D2 K mg) :
    FnOk P w K mg base CX0 4 D.f D.fd ["ring", "log"] spComp := by
  have G_told_in : FnOk P w K mg base CX0 1 _ _ _ _ := ok_told D_told_in T
  have G_tells_alike : FnOk P w K mg base CX0 1 _ _ _ _ := ok_tells D_tells_alike T
  have G_marks : FnOk P w K mg base CX0 3 _ _ _ _ := ok_marks D_marks T D_told_in D_sights_behind D_row_behind D_heard_from D_order_around D_numbered
  refine D.F.ok sc9 (fun vs H Q E h => ?_) (fun cdv A outer s H vs Q E hr h => ?_)
  · obtain ⟨a, lg, ring, log, rfl, _⟩ := h
    rfl
  · obtain ⟨a, lg, ring, log, rfl, hR, hG, hn, hn2, hll, hok, hC, q⟩ := h
    refine ⟨_, (pss_cons (ps_set (i := 2) sc9.nd rfl (Or.inr rfl) (pe_call G_marks (hr.mono (by decide)) (by rfl) D_marks.g D_marks.F.kp D_marks.b .nil pass0 (pa_cons (pv 0) (pa_cons (pv 1) pa_nil))))
  (pss_one (ps_ret (pe_callB (cr_all rfl) (by rfl) T.all (by decide +kernel) (pa_cons (pe_lc (own := [("k", 3), ("turn", 4)]) (g := (gTup K 2 (gCons (gName 3) (gCons (gName 4) gNil)))) (tt := tYes) (te := (tCall (spTells P w) [] E0 (tCons (tOp (rIxT K) (tVar 2) (tVar 3)) (tCons (tCall (spTold P w) [] E0 (tCons (tVar 4) tNil)) tNil)))) rfl sc9.nd (pi_enumT (by rfl) T.enumerate (pa_cons (pv 1) pa_nil)) (blkOk_by (N := ["ring", "log", "rows", "k", "turn"]) (sc := defScope (topS 9)) (by decide +kernel)) (fun _ _ _ _ _ => (pg_tup (n := 2) rfl (pgs_cons (pg_name (i := 3) sc9.nd rfl (Or.inl rfl) (Or.inr rfl)) (pgs_cons (pg_name (i := 4) sc9.nd rfl (Or.inl rfl) (Or.inr rfl)) pgs_nil)) rfl rfl)) (fun _ _ _ _ _ => pts_nil) (fun _ _ _ _ _ => (pe_call G_tells_alike (hr.mono (by decide)) (by rfl) D_tells_alike.g D_tells_alike.F.kp D_tells_alike.b .nil pass0 (pa_cons (pe_ix ix_tup (pv 2) (pv 3) (fun _ _ => rfl)) (pa_cons (pe_call G_told_in (hr.mono (by decide)) (by rfl) D_told_in.g D_told_in.F.kp D_told_in.b .nil pass0 (pa_cons (pv 4) pa_nil)) pa_nil))))) pa_nil))))), ?_⟩
    refine ⟨_, rfl, _, rfl, a, lg, ring, log, rfl, hR, hG, hn, hn2, hll, hok, fun H1 R s1 hRows => ?_⟩
    obtain ⟨rs, hrs, hrp⟩ := hRows
    obtain ⟨ls, hl, hlp⟩ := log_mono s1.ts hG
    have hlg := Paired.length hlp
    refine ⟨_, rfl, lg, vR ls, rfl, tup_sq hl, fun L nL => ?_⟩
    refine lc_vals (walk_enumT (K := K) (a := lg) (xs := vR ls)) (fun _ => true) (fun i => .bl true) nL (by rw [List.length_map]; omega) (fun H2 s2 => tup_sq (TupA.same s2 hl)) yPair_same ?_ ?_
    · rintro i x H2 H3 hi s2 ⟨T0, x1, x2, rfl, nT, rfl, e1, e2⟩ k k0 hk hk0
      cases e1
      obtain ⟨b, hb, rfl⟩ := of_vR e2
      obtain ⟨t, ht, htT⟩ := paired_get hlp hb
      obtain ⟨hil, _⟩ := List.getElem?_eq_some_iff.mp ht
      have sT := same_new (o := .tup [.int ((i : Nat) : Int), .ref b]) nT
      have hT0 : TupA (upd H2 T0 (.tup [.int ((i : Nat) : Int), .ref b])) T0 [.int ((i : Nat) : Int), .ref b] := tup_new
      generalize upd H2 T0 (.tup [.int ((i : Nat) : Int), .ref b]) = H3 at sT hT0 hk hk0
      refine ⟨T0, _, rfl, tup_sq hT0, rfl, _, _, rfl, _, _, rfl, rfl, ?_⟩
      refine ⟨rfl, yesT ?_⟩
      have s3 := s2.trans sT
      obtain ⟨hkt, htells⟩ := hC i t ht
      have hk2 := hok t (List.mem_of_getElem? ht)
      obtain ⟨r, hr1, hrow⟩ := Paired.at hrp (rowsOf_get ring log i (by omega))
      have seen := seen_log ring (log.take i)
      refine ⟨_, rfl, _, rfl, R, vR rs, _, _, rfl, rfl, tup_sq (TupA.same s3 hrs), atI_nat (vR_at hr1), ?_⟩
      refine ⟨_, rfl, b, ring.length, t, rfl, turn_mono s3.ts _ _ htT, hkt, hk2.2, fun H4 d s4 hD => ?_⟩
      refine ⟨r, d, _, t, rfl, (rowf_mono (s3.trans s4).ts _ _ hrow).tup, hD, by rw [seen.len1]; exact hn2, by rw [seen.len1]; exact htells, fun h s => tl_nonneg t (fun e he => (hkt.2 e he).2.2.2) h s, fun H5 s5 => ?_⟩
      exact hk rfl _ (s4.trans s5)
    · intro H2 s2 hL
      have e1 : ((List.range (vR ls).length).filter (fun _ => true)).map (fun _ => V.bl true) = (List.replicate (vR ls).length true).map V.bl := by
        exact List.ext_getElem (by rw [filter_all]; simp) fun i h1 h2 => by simp
      rw [e1] at hL
      refine ⟨L, _, rfl, SqL.of hL, ?_⟩
      have e2 : (List.replicate (vR ls).length true).all id = true := by simp
      rw [e2]
      exact q _ (s1.trans s2)

/-! ### alone -/
abbrev s10 : Stmt := topS 10
theorem sc10 : FnScope ["ring", "log", "last", "house", "mark"] ["ring", "log"] (defScope s10) := ⟨rfl, rfl, rfl, by decide +kernel, rfl, by decide +kernel, by decide +kernel⟩
abbrev D10 (K : PySem.W.Frag) (mg : Str → Option Value) := Df K mg "alone" s10 ["ring", "log"]
def aloneOf (row : List Int) : List Int := ((List.range row.length).filter fun (h : Nat) => ((row.count (gI row (h : Int)) : Nat) : Int) == 1).map fun (h : Nat) => (h : Int)
def spAlone : Sp := fun vs H Q _ => ∃ (a lg : Addr) (ring : List Int) (log : List Tr), vs = [.ref a, .ref lg] ∧ IntsT H a ring ∧ LogT H lg log ∧ 0 < ring.length ∧ ring.length ≤ 900 ∧ log.length ≤ 25 ∧ TurnsOk ring.length log ∧
  ∀ H' p, Same H H' → IntsT H' p (aloneOf (stOf ring log).1) → Q (.ref p) H'
theorem rowsOf_last (ring : List Int) (log : List Tr) : rowsOf ring log = ((List.range log.length).map fun k => (stOf ring (log.take k)).1) ++ [(stOf ring log).1] := by
  unfold rowsOf
  rw [List.range_succ, List.map_append, List.map_singleton, List.take_length]
theorem ok_alone (D : D10 K mg) (T : Txt mg) (D_marks : D7 K mg) (D_told_in : D3 K mg) (D_sights_behind : D4 K mg) (D_row_behind : D6 K mg) (D_heard_from : D5 K mg) (D_order_around : D1 K mg) (D_numbered : D2 K mg) :
    FnOk P w K mg base CX0 4 D.f D.fd ["ring", "log"] spAlone := by
  have G_marks : FnOk P w K mg base CX0 3 _ _ _ _ := ok_marks D_marks T D_told_in D_sights_behind D_row_behind D_heard_from D_order_around D_numbered
  refine D.F.ok sc10 (fun vs H Q E h => ?_) (fun cdv A outer s H vs Q E hr h => ?_)
  · obtain ⟨a, lg, ring, log, rfl, _⟩ := h
    rfl
  · obtain ⟨a, lg, ring, log, rfl, hR, hG, hn, hn2, hll, hok, q⟩ := h
    refine ⟨_, (pss_cons (ps_set (i := 2) sc10.nd rfl (Or.inr rfl) (pe_ix ix_tup (pe_call G_marks (hr.mono (by decide)) (by rfl) D_marks.g D_marks.F.kp D_marks.b .nil pass0 (pa_cons (pv 0) (pa_cons (pv 1) pa_nil))) (pe_un un_neg pe_int) (fun _ _ => rfl)))
  (pss_one (ps_ret (pe_callTy call_tuple_of (by rfl) T.tuple (by decide +kernel) (pa_cons (pe_lc (own := [("house", 3), ("mark", 4)]) (g := (gTup K 2 (gCons (gName 3) (gCons (gName 4) gNil)))) (tt := (tTest (tOp (rEq) (tTCnt (tVar 2) (tVar 4)) (tC (.int 1))))) (te := (tVar 3)) rfl sc10.nd (pi_enumT (by rfl) T.enumerate (pa_cons (pv 2) pa_nil)) (blkOk_by (N := ["ring", "log", "last", "house", "mark"]) (sc := defScope (topS 10)) (by decide +kernel)) (fun _ _ _ _ _ => (pg_tup (n := 2) rfl (pgs_cons (pg_name (i := 3) sc10.nd rfl (Or.inl rfl) (Or.inr rfl)) (pgs_cons (pg_name (i := 4) sc10.nd rfl (Or.inl rfl) (Or.inr rfl)) pgs_nil)) rfl rfl)) (fun _ _ _ _ _ => (pts_one (pt_cmpR op_eq (pe_tcount (pv 2) (pv 4)) pe_int (nomark _)))) (fun _ _ _ _ _ => (pv 3))) pa_nil))))), ?_⟩
    refine ⟨_, rfl, _, rfl, a, lg, ring, log, rfl, hR, hG, hn, hn2, hll, hok, fun H1 R s1 hRows => ?_⟩
    obtain ⟨rs, hrs, hrp⟩ := hRows
    rw [rowsOf_last] at hrp
    obtain ⟨rs', r, rfl, _, hrow⟩ := paired_unsnoc hrp
    refine ⟨_, rfl, R, vR (rs' ++ [r]), _, .ref r, rfl, rfl, tup_sq hrs, by rw [vR_snoc]; exact atI_last _ _, ?_⟩
    have seen := seen_log ring log
    have hrlen : (stOf ring log).1.length ≤ 900 := by rw [seen.len1]; exact hn2
    generalize (stOf ring log).1 = row at hrow q hrlen
    refine ⟨_, rfl, r, vI row, rfl, tup_sq hrow.tup, fun L nL => ?_⟩
    refine lc_vals (walk_enumT (K := K) (a := r) (xs := vI row)) (fun (i : Nat) => ((row.count (gI row (i : Int)) : Nat) : Int) == 1) (fun i => .int (i : Nat)) nL (by rw [List.length_map]; omega) (fun H2 s2 => tup_sq (TupA.same s2 hrow.tup)) yPair_same ?_ ?_
    · rintro i x H2 H3 hi s2 ⟨T0, x1, x2, rfl, nT, rfl, e1, e2⟩ k k0 hk hk0
      cases e1
      obtain ⟨z, hz, rfl⟩ := of_vI e2
      obtain ⟨hil, ezz⟩ := List.getElem?_eq_some_iff.mp hz
      have ez : gI row (i : Int) = z := by
        have := gI_at (row := row) (z := (i : Int)) (by omega) (by omega)
        have e : ((i : Nat) : Int).toNat = i := by omega
        rw [e, hz] at this
        exact (Option.some.inj this).symm
      rw [ez] at hk hk0
      have sT := same_new (o := .tup [.int ((i : Nat) : Int), .int z]) nT
      have hT0 : TupA (upd H2 T0 (.tup [.int ((i : Nat) : Int), .int z])) T0 [.int ((i : Nat) : Int), .int z] := tup_new
      generalize upd H2 T0 (.tup [.int ((i : Nat) : Int), .int z]) = H3 at sT hT0 hk hk0
      refine ⟨T0, _, rfl, tup_sq hT0, rfl, _, _, rfl, _, _, rfl, rfl, ?_⟩
      refine ⟨rfl, ?_⟩
      have hrow3 := rowf_mono (s2.trans sT).ts _ _ hrow
      refine ⟨_, rfl, r, row, rfl, hrow3, _, rfl, z, rfl, hrow3, rfl, _, rfl, ?_⟩
      rw [dec_int]
      cases c : (((row.count z : Nat) : Int) == 1) with
      | true => exact iteT ⟨_, rfl, hk c _ (Same.refl _)⟩
      | false => exact iteF (hk0 c _ (Same.refl _))
    · intro H2 s2 hL
      have e1 : ((List.range (vI row).length).filter (fun (i : Nat) => ((row.count (gI row (i : Int)) : Nat) : Int) == 1)).map (fun i => V.int ((i : Nat) : Int)) = vI (aloneOf row) := by
        rw [List.length_map, aloneOf, vI, List.map_map]
        rfl
      rw [e1] at hL
      refine ⟨L, _, rfl, .inl ⟨SqL.of hL, fun p np => ?_⟩⟩
      exact q _ p ((s1.trans s2).trans (same_new np)) tup_new
end
end K62

set_option Elab.async false
set_option linter.all false
set_option maxRecDepth 100000
set_option maxHeartbeats 4000000
namespace K62
open PySem PySem.Spec PyProof.Rows L2
section
variable {P : Program} {w : World} {K : PySem.W.Frag} {mg : Str → Option Value} {base : Heap}
abbrev s12 : Stmt := topS 12
theorem sc12 : FnScope ["ring", "reach", "house"] ["ring", "reach"] (defScope s12) := ⟨rfl, rfl, rfl, by decide +kernel, rfl, by decide +kernel, by decide +kernel⟩
abbrev D12 (K : PySem.W.Frag) (mg : Str → Option Value) := Df K mg "kinds_at" s12 ["ring", "reach"]
def encO (l : List Int) : NestedKey := .tup (l.map .num)
theorem encO_inj (a b : List Int) (h : encO a = encO b) : a = b := by
  unfold encO at h
  injection h with h
  exact num_inj_list h
theorem encO_dp (l : List Int) : (encO l).depth ≤ 8 := by
  unfold encO
  simp only [NestedKey.depth, depth_nums]
  omega
def spKinds : Sp := fun vs H Q _ => ∃ (a : Addr) (k : Int) (ring : List Int), vs = [.ref a, .int k] ∧ IntsT H a ring ∧ 0 < ring.length ∧ ring.length ≤ 900 ∧ 0 ≤ k ∧ k ≤ 30 ∧ ∀ H' p, Same H H' → RowF H' p (kindRow ring k) → Q (.ref p) H'
theorem ok_kinds (D : D12 K mg) (T : Txt mg) (D_order_around : D1 K mg) (D_numbered : D2 K mg) : FnOk P w K mg base CX0 2 D.f D.fd ["ring", "reach"] spKinds := by
  have G_order_around : FnOk P w K mg base CX0 1 _ _ _ _ := ok_order D_order_around T
  have G_numbered : FnOk P w K mg base CX0 1 _ _ _ _ := ok_num D_numbered T
  refine D.F.ok sc12 (fun vs H Q E h => ?_) (fun cdv A outer s H vs Q E hr h => ?_)
  · obtain ⟨a, k, ring, rfl, _⟩ := h
    rfl
  · obtain ⟨a, k, ring, rfl, hR, hn, hn2, hk0, hk1, q⟩ := h
    have hlen : ((vI ring).length : Int) = (ring.length : Int) := by rw [List.length_map]
    refine ⟨_, (pss_one (ps_ret (pe_call G_numbered (hr.mono (by decide)) (by rfl) D_numbered.g D_numbered.F.kp D_numbered.b .nil pass0 (pa_cons (pe_lc (own := [("house", 2)]) (g := (gName 2)) (tt := tYes) (te := (tCall (spOrder) [] E0 (tCons (tVar 0) (tCons (tVar 2) (tCons (tVar 1) (tCons (tVar 1) tNil)))))) rfl sc12.nd (pi_range1 (by rfl) T.range (pa_cons (pe_callB call_len_seq (by rfl) T.len (by decide +kernel) (pa_cons (pv 0) pa_nil)) pa_nil)) (blkOk_by (N := ["ring", "reach", "house"]) (sc := defScope (topS 12)) (by decide +kernel)) (fun _ _ _ _ _ => (pg_name (i := 2) sc12.nd rfl (Or.inl rfl) (Or.inr rfl))) (fun _ _ _ _ _ => pts_nil) (fun _ _ _ _ _ => (pe_call G_order_around (hr.mono (by decide)) (by rfl) D_order_around.g D_order_around.F.kp D_order_around.b .nil pass0 (pa_cons (pv 0) (pa_cons (pv 2) (pa_cons (pv 1) (pa_cons (pv 1) pa_nil))))))) pa_nil)))), ?_⟩
    refine ⟨_, rfl, a, _, rfl, .inr (tup_sq hR), ring.length, by rw [← hlen], by omega, by omega, fun L nL => ?_⟩
    refine lc_refs KeyT (fun H H' b x s h => key_mono s b x h) walk_range (fun _ => true) (fun i => encO (ordOf (namesAt ring (i : Nat) k k))) nL (by omega) (fun _ _ => trivial) yFn_same ?_ ?_
    · rintro i x H1 H2 hi s1 ⟨rfl, rfl⟩ kk k0 hk hk0'
      have i0 : (0 : Int) + (i : Nat) = (i : Int) := by omega
      dsimp only
      rw [i0]
      refine ⟨rfl, yesT ?_⟩
      refine ⟨_, rfl, _, rfl, _, rfl, _, rfl, a, _, k, k, ring, rfl, TupA.same s1 hR, hn, by omega, hk0, hk0, by omega, fun H3 p s3 h3 => ?_⟩
      exact hk rfl p _ s3 ⟨nk_ints h3, encO_dp _⟩
    · intro H1 s1 hL
      have e1 : ((List.range ((ring.length : Int)).toNat).filter (fun _ => true)).map (fun i => encO (ordOf (namesAt ring ((i : Nat) : Int) k k))) = (kindKeys ring k).map encO := by
        rw [filter_all, kindKeys, List.map_map]
        rfl
      rw [e1] at hL
      refine ⟨L, _, rfl, hL, by rw [List.length_map, kindKeys, List.length_map, List.length_range]; exact hn2, fun H2 p s2 h2 => ?_⟩
      rw [num_map_inj encO encO_inj] at h2
      exact q _ p (s1.trans s2) h2

/-! ### fewest_of -/
abbrev s13 : Stmt := topS 13
theorem sc13 : FnScope ["row", "number"] ["row"] (defScope s13) := ⟨rfl, rfl, rfl, by decide +kernel, rfl, by decide +kernel, by decide +kernel⟩
abbrev D13 (K : PySem.W.Frag) (mg : Str → Option Value) := Df K mg "fewest_of" s13 ["row"]
def spFew : Sp := fun vs H Q _ => ∃ (a : Addr) (row : List Int), vs = [.ref a] ∧ RowF H a row ∧ 0 < row.length ∧ row.length ≤ 900 ∧ ∀ H', Same H H' → Q (.int (few row)) H'
theorem ok_few (D : D13 K mg) (T : Txt mg) : FnOk P w K mg base CX0 1 D.f D.fd ["row"] spFew := by
  refine D.F.ok sc13 (fun vs H Q E h => ?_) (fun cdv A outer s H vs Q E hr h => ?_)
  · obtain ⟨a, row, rfl, _⟩ := h
    rfl
  · obtain ⟨a, row, rfl, hR, hn, hn2, q⟩ := h
    refine ⟨_, (pss_one (ps_ret (pe_callB (cr_min rfl) (by rfl) T.min (by decide +kernel) (pa_cons (pe_lc (own := [("number", 1)]) (g := (gName 1)) (tt := tYes) (te := (tTCnt (tVar 0) (tVar 1))) rfl sc13.nd (pi_tup (pv 0)) (blkOk_by (N := ["row", "number"]) (sc := defScope (topS 13)) (by decide +kernel)) (fun _ _ _ _ _ => (pg_name (i := 1) sc13.nd rfl (Or.inl rfl) (Or.inr rfl))) (fun _ _ _ _ _ => pts_nil) (fun _ _ _ _ _ => (pe_tcount (pv 0) (pv 1)))) pa_nil)))), ?_⟩
    refine ⟨_, rfl, a, rfl, ⟨_, tup_sq hR.tup⟩, fun L nL => ?_⟩
    refine lc_vals (walk_tup (K := K) (a := a) (xs := vI row)) (fun _ => true) (fun i => .int ((row.count (row.getD i 0) : Nat) : Int)) nL (by rw [List.length_map]; omega) (fun H2 s2 => tup_sq (TupA.same s2 hR.tup)) yAt_same ?_ ?_
    · rintro i x H1 H2 hi s1 ⟨rfl, hx⟩ k k0 hk hk0
      obtain ⟨z, hz, rfl⟩ := of_vI hx
      have eg : row.getD i 0 = z := by rw [List.getD_eq_getElem?_getD, hz]; rfl
      rw [eg] at hk
      refine ⟨rfl, yesT ?_⟩
      have h1 := rowf_mono s1.ts _ _ hR
      exact ⟨_, rfl, a, row, rfl, h1, _, rfl, z, rfl, h1, hk rfl _ (Same.refl _)⟩
    · intro H1 s1 hL
      have e1 : ((List.range (vI row).length).filter (fun _ => true)).map (fun i => V.int ((row.count (row.getD i 0) : Nat) : Int)) = vI (counts row) := by
        rw [filter_all, List.length_map, range_map_getD row 0 (fun x => V.int ((row.count x : Nat) : Int)), counts, vI, List.map_map]
        rfl
      rw [e1] at hL
      refine ⟨L, counts row, rfl, SqL.of hL, by rw [counts, List.length_map]; exact hn, fun m hm hle => ?_⟩
      rw [← few_eq hm hle]
      exact q _ s1

/-! ### floor_paper -/
abbrev s14 : Stmt := topS 14
theorem sc14 : FnScope ["ring", "rows", "row"] ["ring"] (defScope s14) := ⟨rfl, rfl, rfl, by decide +kernel, rfl, by decide +kernel, by decide +kernel⟩
abbrev D14 (K : PySem.W.Frag) (mg : Str → Option Value) := Df K mg "floor_paper" s14 ["ring"]
def spPaper : Sp := fun vs H Q _ => ∃ (a : Addr) (ring : List Int), vs = [.ref a] ∧ IntsT H a ring ∧ 0 < ring.length ∧ ring.length ≤ 11 ∧ ring.Nodup ∧
  ∀ H' p (m : Nat), Same H H' → IsFl ring m → m ≤ 6 → TupOf RowF H' p ((List.range m).map fun (k : Nat) => kindRow ring (k : Int)) → Q (.ref p) H'
theorem ok_paper (D : D14 K mg) (T : Txt mg) (D_kinds_at : D12 K mg) (D_fewest_of : D13 K mg) (D_order_around : D1 K mg) (D_numbered : D2 K mg) : FnOk P w K mg base CX0 3 D.f D.fd ["ring"] spPaper := by
  have G_kinds_at : FnOk P w K mg base CX0 2 _ _ _ _ := ok_kinds D_kinds_at T D_order_around D_numbered
  have G_fewest_of : FnOk P w K mg base CX0 1 _ _ _ _ := ok_few D_fewest_of T
  refine D.F.ok sc14 (fun vs H Q E h => ?_) (fun cdv A outer s H vs Q E hr h => ?_)
  · obtain ⟨a, ring, rfl, _⟩ := h
    rfl
  · obtain ⟨a, ring, rfl, hR, hn, hn2, hnd, q⟩ := h
    have hne : ring ≠ [] := List.length_pos_iff.mp hn
    refine ⟨_, (pss_cons (ps_set (i := 1) sc14.nd rfl (Or.inl rfl) (pe_lst pa_nil))
  (pss_cons (ps_set (i := 2) sc14.nd rfl (Or.inl rfl) (pe_call G_kinds_at (hr.mono (by decide)) (by rfl) D_kinds_at.g D_kinds_at.F.kp D_kinds_at.b .nil pass0 (pa_cons (pv 0) (pa_cons pe_int pa_nil))))
  (pss_cons (ps_while PassesOwn.never (pt_cmpR op_gt (pe_call G_fewest_of (hr.mono (by decide)) (by rfl) D_fewest_of.g D_fewest_of.F.kp D_fewest_of.b .nil pass0 (pa_cons (pv 2) pa_nil)) pe_int (nomark _))
  (pss_cons (ps_expr (pe_bm PySem.F.plainAttrs_list PySem.F.slot_list_append PySem.F.type_list_append mt_append (pv 1) (pa_cons (pv 2) pa_nil)))
  (pss_one (ps_set (i := 2) sc14.nd rfl (Or.inl rfl) (pe_call G_kinds_at (hr.mono (by decide)) (by rfl) D_kinds_at.g D_kinds_at.F.kp D_kinds_at.b .nil pass0 (pa_cons (pv 0) (pa_cons (pe_callB call_len_seq (by rfl) T.len (by decide +kernel) (pa_cons (pv 1) pa_nil)) pa_nil)))))))
  (pss_one (ps_ret (pe_callTy call_tuple_of (by rfl) T.tuple (by decide +kernel) (pa_cons (pv 1) pa_nil))))))), ?_⟩
    refine ⟨Nat.zero_le _, fun R nR => ?_⟩
    have s1 : Same H (upd H R (.lst [])) := same_new nR
    have hR1 : (upd H R (.lst [])) R = some (.lst (vR [])) := upd_same
    generalize upd H R (.lst []) = H1 at s1 hR1
    refine ⟨_, rfl, a, 0, ring, rfl, TupA.same s1 hR, hn, by omega, by omega, by omega, fun H2 r s2 h2 => ?_⟩
    have s12 := s1.trans s2
    have hR2 := s2 _ _ hR1
    refine ⟨fun m σ H' => ∃ (k : Nat) (r : Addr), m + k = 6 ∧ σ = [some (.ref a), some (.ref R), some (.ref r)] ∧ Same H H' ∧ RowF H' r (kindRow ring (k : Int)) ∧ LstOf RowF H' R ((List.range k).map fun (j : Nat) => kindRow ring (j : Int)) ∧ ∀ j : Nat, j < k → 1 < few (kindRow ring (j : Int)),
      ⟨6, 0, r, rfl, rfl, s12, h2, ⟨[], hR2, .nil⟩, fun j hj => by omega⟩, ?_⟩
    rintro m σ H3 ⟨k, r, emk, rfl, s3, h3, ⟨rs, hrs, hrp⟩, hfew⟩
    have hkl := kindRow_length ring (k : Int)
    refine ⟨_, rfl, r, _, rfl, h3, by omega, by omega, fun H4 s4 => ?_⟩
    refine ⟨_, _, rfl, rfl, _, rfl, ?_⟩
    have s34 := s3.trans s4
    have hrs4 := s4 _ _ hrs
    by_cases c : 1 < few (kindRow ring (k : Int))
    · rw [decide_eq_true c]
      refine iteT ?_
      have hk5 : k ≤ 4 := by
        refine Nat.le_of_not_lt fun z => ?_
        have := few_end hne hnd (k := k) (by omega)
        omega
      have hlr := Paired.length hrp
      rw [List.length_map, List.length_range] at hlr
      refine ⟨fun σ' H' => ∃ r', σ' = [some (.ref a), some (.ref R), some (.ref r')] ∧ Same H H' ∧ RowF H' r' (kindRow ring ((k + 1 : Nat) : Int)) ∧ LstOf RowF H' R ((List.range (k + 1)).map fun (j : Nat) => kindRow ring (j : Int)), fun σ' H' hN => ?_, ?_⟩
      · obtain ⟨r', e1, e2, e3, e4⟩ := hN
        refine ⟨m - 1, by omega, k + 1, r', by omega, e1, e2, e3, e4, fun j hj => ?_⟩
        by_cases cj : j = k
        · rw [cj]; exact c
        · exact hfew j (by omega)
      refine ⟨_, rfl, .inl ⟨rfl, _, SqL.of hrs4⟩, _, rfl, R, _, _, rfl, rfl, hrs4, szlt (by rw [List.length_map]; omega), ?_⟩
      have t5 := TSm.lst (ys := vR rs ++ [.ref r]) hrs4
      have s5 := same_mut (o := .lst (vR rs ++ [.ref r])) s34 nR
      have h5 : RowF (upd H4 R (.lst (vR rs ++ [.ref r]))) r (kindRow ring (k : Int)) := rowf_mono (s4.ts.trans t5) _ _ h3
      have hp5 : Paired (RowF (upd H4 R (.lst (vR rs ++ [.ref r])))) rs ((List.range k).map fun (j : Nat) => kindRow ring (j : Int)) := L2.Paired.mapP hrp (rowf_mono (s4.ts.trans t5))
      have hR5 : (upd H4 R (.lst (vR rs ++ [.ref r]))) R = some (.lst (vR (rs ++ [r]))) := by rw [upd_same, vR_snoc]
      generalize upd H4 R (.lst (vR rs ++ [.ref r])) = H5 at s5 h5 hp5 hR5
      have hlen5 : ((vR (rs ++ [r])).length : Int) = ((k + 1 : Nat) : Int) := by rw [List.length_map, List.length_append, List.length_singleton, hlr]
      refine ⟨_, rfl, _, rfl, R, _, rfl, .inl (SqL.of hR5), ?_⟩
      rw [hlen5]
      refine ⟨a, _, ring, rfl, TupA.same s5 hR, hn, by omega, by omega, by omega, fun H6 r' s6 h6 => ?_⟩
      refine ⟨r', rfl, s5.trans s6, h6, rs ++ [r], s6 _ _ hR5, ?_⟩
      rw [List.range_succ, List.map_append, List.map_singleton]
      exact PySem.Paired.snoc (L2.Paired.mapP hp5 (rowf_mono s6.ts)) (rowf_mono s6.ts _ _ h5)
    · rw [decide_eq_false c]
      refine iteF ?_
      have hp4 : Paired (RowF H4) rs ((List.range k).map fun (j : Nat) => kindRow ring (j : Int)) := L2.Paired.mapP hrp (rowf_mono s4.ts)
      refine ⟨_, rfl, R, _, rfl, .inl ⟨SqL.of hrs4, fun p np => ?_⟩⟩
      have s7 := same_new (o := .tup (vR rs)) np
      exact q _ p k (s34.trans s7) ⟨hfew, by omega⟩ (by omega) ⟨rs, tup_new, L2.Paired.mapP hp4 (rowf_mono s7.ts)⟩

/-! ### floor -/
abbrev s15 : Stmt := topS 15
theorem sc15 : FnScope ["ring", "row"] ["ring"] (defScope s15) := ⟨rfl, rfl, rfl, by decide +kernel, rfl, by decide +kernel, by decide +kernel⟩
abbrev D15 (K : PySem.W.Frag) (mg : Str → Option Value) := Df K mg "floor" s15 ["ring"]
def spFloor : Sp := fun vs H Q _ => ∃ (a : Addr) (ring : List Int), vs = [.ref a] ∧ IntsT H a ring ∧ 0 < ring.length ∧ ring.length ≤ 11 ∧ ring.Nodup ∧
  ∀ H' (m : Nat), Same H H' → IsFl ring m → Q (.int (flo ring m)) H'
theorem ok_floor (D : D15 K mg) (T : Txt mg) (D_floor_paper : D14 K mg) (D_kinds_at : D12 K mg) (D_fewest_of : D13 K mg) (D_order_around : D1 K mg) (D_numbered : D2 K mg) : FnOk P w K mg base CX0 4 D.f D.fd ["ring"] spFloor := by
  have G_floor_paper : FnOk P w K mg base CX0 3 _ _ _ _ := ok_paper D_floor_paper T D_kinds_at D_fewest_of D_order_around D_numbered
  have G_fewest_of : FnOk P w K mg base CX0 1 _ _ _ _ := ok_few D_fewest_of T
  refine D.F.ok sc15 (fun vs H Q E h => ?_) (fun cdv A outer s H vs Q E hr h => ?_)
  · obtain ⟨a, ring, rfl, _⟩ := h
    rfl
  · obtain ⟨a, ring, rfl, hR, hn, hn2, hnd, q⟩ := h
    refine ⟨_, (pss_one (ps_ret (pe_callB (cr_sum rfl) (by rfl) T.sum (by decide +kernel) (pa_cons (pe_lc (own := [("row", 1)]) (g := (gName 1)) (tt := tYes) (te := (tCall (spFew) [] E0 (tCons (tVar 1) tNil))) rfl sc15.nd (pi_tup (pe_call G_floor_paper (hr.mono (by decide)) (by rfl) D_floor_paper.g D_floor_paper.F.kp D_floor_paper.b .nil pass0 (pa_cons (pv 0) pa_nil))) (blkOk_by (N := ["ring", "row"]) (sc := defScope (topS 15)) (by decide +kernel)) (fun _ _ _ _ _ => (pg_name (i := 1) sc15.nd rfl (Or.inl rfl) (Or.inr rfl))) (fun _ _ _ _ _ => pts_nil) (fun _ _ _ _ _ => (pe_call G_fewest_of (hr.mono (by decide)) (by rfl) D_fewest_of.g D_fewest_of.F.kp D_fewest_of.b .nil pass0 (pa_cons (pv 1) pa_nil)))) pa_nil)))), ?_⟩
    refine ⟨_, rfl, a, ring, rfl, hR, hn, hn2, hnd, fun H1 R m s1 hm hm6 hRows => ?_⟩
    obtain ⟨rs, hrs, hrp⟩ := hRows
    have hlr := Paired.length hrp
    rw [List.length_map, List.length_range] at hlr
    refine ⟨R, rfl, ⟨_, tup_sq hrs⟩, fun L nL => ?_⟩
    refine lc_vals (walk_tup (K := K) (a := R) (xs := vR rs)) (fun _ => true) (fun i => .int (few (kindRow ring (i : Nat)))) nL (by rw [List.length_map]; omega) (fun H2 s2 => tup_sq (TupA.same s2 hrs)) yAt_same ?_ ?_
    · rintro i x H2 H3 hi s2 ⟨rfl, hx⟩ k k0 hk hk0
      obtain ⟨b, hb, rfl⟩ := of_vR hx
      obtain ⟨row, hrow, hF⟩ := paired_get hrp hb
      have hil : i < m := by rw [List.length_map] at hi; omega
      rw [List.getElem?_map, List.getElem?_range hil] at hrow
      have erow : kindRow ring (i : Int) = row := Option.some.inj hrow
      subst erow
      have hkl := kindRow_length ring (i : Int)
      refine ⟨rfl, yesT ?_⟩
      exact ⟨_, rfl, b, _, rfl, rowf_mono s2.ts _ _ hF, by omega, by omega, fun H4 s4 => hk rfl _ s4⟩
    · intro H2 s2 hL
      have e1 : ((List.range (vR rs).length).filter (fun _ => true)).map (fun i => V.int (few (kindRow ring ((i : Nat) : Int)))) = vI ((List.range m).map fun (k : Nat) => few (kindRow ring (k : Int))) := by
        rw [filter_all, List.length_map, hlr, vI, List.map_map]
        rfl
      rw [e1] at hL
      exact ⟨L, _, rfl, SqL.of hL, q _ m (s1.trans s2) hm⟩

/-! ### log_letters -/
abbrev s17 : Stmt := topS 17
theorem sc17 : FnScope ["log", "turn", "row"] ["log"] (defScope s17) := ⟨rfl, rfl, rfl, by decide +kernel, rfl, by decide +kernel, by decide +kernel⟩
abbrev D17 (K : PySem.W.Frag) (mg : Str → Option Value) := Df K mg "log_letters" s17 ["log"]
def spLetters : Sp := fun vs H Q _ => ∃ (a : Addr) (log : List Tr), vs = [.ref a] ∧ LogT H a log ∧ log.length ≤ 900 ∧ (∀ t ∈ log, t.length ≤ 900) ∧ ∀ H', Same H H' → Q (.int (total log)) H'
theorem ok_letters (D : D17 K mg) (T : Txt mg) : FnOk P w K mg base CX0 1 D.f D.fd ["log"] spLetters := by
  refine D.F.ok sc17 (fun vs H Q E h => ?_) (fun cdv A outer s H vs Q E hr h => ?_)
  · obtain ⟨a, log, rfl, _⟩ := h
    rfl
  · obtain ⟨a, log, rfl, ⟨ls, hG, hP⟩, hl, hl2, q⟩ := h
    have hlg := Paired.length hP
    refine ⟨_, (pss_one (ps_ret (pe_callB (cr_sum rfl) (by rfl) T.sum (by decide +kernel) (pa_cons (pe_lc (own := [("turn", 1)]) (g := (gName 1)) (tt := tYes) (te := (tCB (rSum K) (tCons (tLc (iTup K (tVar 1)) (gName 2) tYes (tOp (rIxT K) (tVar 2) (tC (.int 2))) [2]) tNil))) rfl sc17.nd (pi_tup (pv 0)) (blkOk_by (N := ["log", "turn", "row"]) (sc := defScope (topS 17)) (by decide +kernel)) (fun _ _ _ _ _ => (pg_name (i := 1) sc17.nd rfl (Or.inl rfl) (Or.inr rfl))) (fun _ _ _ _ _ => pts_nil) (fun _ _ _ _ _ => (pe_callB (cr_sum rfl) (by rfl) T.sum (by decide +kernel) (pa_cons (pe_lc (own := [("row", 2)]) (g := (gName 2)) (tt := tYes) (te := (tOp (rIxT K) (tVar 2) (tC (.int 2)))) rfl sc17.nd (pi_tup (pv 1)) (blkOk_by (N := ["log", "turn", "row"]) (sc := relS { kind := .function, names := [(".0", .local), ("turn", .local), ("sum", .globalImplicit)], isGenerator := false, isCoroutine := false } (defScope (topS 17))) (by decide +kernel)) (fun _ _ _ _ _ => (pg_name (i := 2) sc17.nd rfl (Or.inl rfl) (Or.inr rfl))) (fun _ _ _ _ _ => pts_nil) (fun _ _ _ _ _ => (pe_ix ix_tup (pv 2) pe_int (fun _ _ => rfl)))) pa_nil)))) pa_nil)))), ?_⟩
    refine ⟨_, rfl, a, rfl, ⟨_, tup_sq hG⟩, fun L nL => ?_⟩
    refine lc_vals (walk_tup (K := K) (a := a) (xs := vR ls)) (fun _ => true) (fun i => .int (letters (log.getD i []))) nL (by rw [List.length_map]; omega) (fun H2 s2 => tup_sq (TupA.same s2 hG)) yAt_same ?_ ?_
    · rintro i x H1 H2 hi s1 ⟨rfl, hx⟩ k k0 hk hk0
      obtain ⟨b, hb, rfl⟩ := of_vR hx
      obtain ⟨t, ht, hT⟩ := paired_get hP hb
      have eg : log.getD i [] = t := by rw [List.getD_eq_getElem?_getD, ht]; rfl
      rw [eg] at hk
      obtain ⟨ts, hts, htp⟩ := turn_mono s1.ts _ _ hT
      have htl := Paired.length htp
      have ht9 := hl2 t (List.mem_of_getElem? ht)
      refine ⟨rfl, yesT ?_⟩
      refine ⟨_, rfl, b, rfl, ⟨_, tup_sq hts⟩, fun M nM => ?_⟩
      refine lc_vals (walk_tup (K := K) (a := b) (xs := vR ts)) (fun _ => true) (fun j => .int (t.getD j (0, 0, 0)).2.2) nM (by rw [List.length_map]; omega) (fun H3 s3 => tup_sq (TupA.same s3 hts)) yAt_same ?_ ?_
      · rintro j y H3 H4 hj s3 ⟨rfl, hy⟩ k' k0' hk' hk0'
        obtain ⟨c, hc, rfl⟩ := of_vR hy
        obtain ⟨e, he, hE⟩ := paired_get htp hc
        have eg2 : t.getD j (0, 0, 0) = e := by rw [List.getD_eq_getElem?_getD, he]; rfl
        rw [eg2] at hk'
        refine ⟨rfl, yesT ?_⟩
        exact ⟨_, rfl, c, _, 2, _, rfl, rfl, tup_sq (TupA.same s3 hE), atI_nat (j := 2) rfl, hk' rfl _ (Same.refl _)⟩
      · intro H3 s3 hM
        have e1 : ((List.range (vR ts).length).filter (fun _ => true)).map (fun j => V.int (t.getD j (0, 0, 0)).2.2) = vI (t.map (·.2.2)) := by
          rw [filter_all, List.length_map, htl, range_map_getD t (0, 0, 0) (fun e => V.int e.2.2), vI, List.map_map]
          rfl
        rw [e1] at hM
        exact ⟨M, _, rfl, SqL.of hM, hk rfl _ s3⟩
    · intro H1 s1 hL
      have e1 : ((List.range (vR ls).length).filter (fun _ => true)).map (fun i => V.int (letters (log.getD i []))) = vI (log.map letters) := by
        rw [filter_all, List.length_map, hlg, range_map_getD log [] (fun t => V.int (letters t)), vI, List.map_map]
        rfl
      rw [e1] at hL
      exact ⟨L, _, rfl, SqL.of hL, q _ s1⟩
end
end K62

set_option Elab.async false
set_option linter.all false
set_option maxRecDepth 100000
set_option maxHeartbeats 4000000
namespace K62
open PySem PySem.Spec PyProof.Rows L2
section
variable {P : Program} {w : World} {K : PySem.W.Frag} {mg : Str → Option Value} {base : Heap}
/-! ### the box of draws -/
def Box (H : Hp) (b l : Addr) (c : Int) : Prop := ∃ (hs : List Int) (sd cnt : Int), H b = some (.lst [.ref l, .int sd, .int cnt]) ∧ H l = some (.lst (vI hs)) ∧ 0 ≤ cnt ∧ cnt ≤ c ∧ hs.length ≤ 63
def SameB (b l : Addr) (H H' : Hp) : Prop := ∀ a o, a ≠ b → a ≠ l → H a = some o → H' a = some o
theorem SameB.refl (b l : Addr) (H : Hp) : SameB b l H H := fun _ _ _ _ h => h
theorem SameB.trans {b l : Addr} {H H1 H2 : Hp} (s : SameB b l H H1) (t : SameB b l H1 H2) : SameB b l H H2 := fun a o h1 h2 h => t a o h1 h2 (s a o h1 h2 h)
theorem _root_.L2.Same.sb {b l : Addr} {H H' : Hp} (s : Same H H') : SameB b l H H' := fun a o _ _ h => s _ _ h
theorem Box.ne {H : Hp} {b l : Addr} {c : Int} (B : Box H b l c) : b ≠ l := fun e => by
  subst e
  obtain ⟨hs, sd, cnt, h1, h2, _⟩ := B
  rw [h1] at h2
  cases hs with
  | nil => cases h2
  | cons x xs => cases h2
theorem Box.same {H H' : Hp} {b l : Addr} {c : Int} (B : Box H b l c) (s : Same H H') : Box H' b l c :=
  let ⟨hs, sd, cnt, h1, h2, h3⟩ := B; ⟨hs, sd, cnt, s _ _ h1, s _ _ h2, h3⟩
theorem Box.le {H : Hp} {b l : Addr} {c c' : Int} (B : Box H b l c) (h : c ≤ c') : Box H b l c' :=
  let ⟨hs, sd, cnt, h1, h2, h3, h4, h5⟩ := B; ⟨hs, sd, cnt, h1, h2, h3, by omega, h5⟩
/-- a thing other than the box is written -/
theorem Box.upd {H : Hp} {b l p : Addr} {c : Int} {o : HO} (B : Box H b l c) (h1 : p ≠ b) (h2 : p ≠ l) : Box (L2.upd H p o) b l c :=
  let ⟨hs, sd, cnt, e1, e2, e3⟩ := B; ⟨hs, sd, cnt, by rw [upd_ne (Ne.symm h1)]; exact e1, by rw [upd_ne (Ne.symm h2)]; exact e2, e3⟩
theorem Box.ts {H H' : Hp} {b l : Addr} {c : Int} (B : Box H b l c) (s : SameB b l H H') : TSm H H' := by
  obtain ⟨hs, sd, cnt, e1, e2, _⟩ := B
  refine ⟨fun a xs h => s a _ (fun e => ?_) (fun e => ?_) h, fun a o u h => s a _ (fun e => ?_) (fun e => ?_) h⟩ <;> subst e
  · rw [e1] at h; cases h
  · rw [e2] at h; cases h
  · rw [e1] at h; cases h
  · rw [e2] at h; cases h
theorem Box.new {H : Hp} {b l p : Addr} {c : Int} (B : Box H b l c) (h : H p = none) : p ≠ b ∧ p ≠ l := by
  obtain ⟨hs, sd, cnt, e1, e2, _⟩ := B
  refine ⟨fun e => ?_, fun e => ?_⟩
  · rw [e, e1] at h; cases h
  · rw [e, e2] at h; cases h
theorem SameB.free {b l p : Addr} {H H' : Hp} (s : SameB b l H H') (h1 : p ≠ b) (h2 : p ≠ l) (h : H' p = none) : H p = none := by
  cases e : H p with
  | none => rfl
  | some o => rw [s p o h1 h2 e] at h; cases h
theorem SameB.mut {b l p : Addr} {H0 H : Hp} {o : HO} (s : SameB b l H0 H) (h : H0 p = none) : SameB b l H0 (L2.upd H p o) := fun a u h1 h2 e => by
  rw [upd_ne (ne_of_none e h)]
  exact s a u h1 h2 e
/-- the box itself is written -/
theorem SameB.box {b l : Addr} {H0 H : Hp} {o : HO} (s : SameB b l H0 H) : SameB b l H0 (L2.upd H b o) := fun a u h1 h2 e => by
  rw [upd_ne h1]
  exact s a u h1 h2 e
theorem SameB.boxl {b l : Addr} {H0 H : Hp} {o : HO} (s : SameB b l H0 H) : SameB b l H0 (L2.upd H l o) := fun a u h1 h2 e => by
  rw [upd_ne h2]
  exact s a u h1 h2 e
/-! ### data of ints -/
theorem dpAll_ints (H : Hp) : ∀ ns : List Int, DpAll K H (vI ns) (ns.map PyData.int)
  | [] => .nil
  | n :: ns => .cons (.int n) (dpAll_ints H ns)
theorem layAll_ints : ∀ ns : List Int, PyData.canLayAll0 (ns.map PyData.int) = true
  | [] => rfl
  | n :: ns => by
    show (PyData.canLay0 (.int n) && PyData.canLayAll0 (ns.map PyData.int)) = true
    rw [layAll_ints ns]
    rfl
theorem depthAll_ints : ∀ ns : List Int, PyData.depthAll (ns.map PyData.int) ≤ 1
  | [] => by decide
  | n :: ns => by
    have h := depthAll_ints ns
    show max (PyData.depth (.int n)) (PyData.depthAll (ns.map PyData.int)) ≤ 1
    have h1 : PyData.depth (.int n) = 0 := rfl
    omega
theorem shaped_list {ds : List PyData} (h1 : PyData.canLayAll0 ds = true) (h2 : PyData.depthAll ds ≤ 60) : SeqAt.shaped (.list ds) = true := by
  show (PyData.canLayAll0 ds && decide (PyData.depth (.list ds) ≤ 64)) = true
  rw [h1, Bool.true_and]
  refine decide_eq_true ?_
  show PyData.depthAll ds + 1 ≤ 64
  omega
theorem eqv_nil (ns : List Int) : PyData.eqv (.list (ns.map PyData.int)) (.list []) = decide (ns = []) := by
  cases ns with
  | nil => rfl
  | cons n ns => rfl
end
end K62

set_option Elab.async false
set_option linter.all false
set_option maxRecDepth 100000
set_option maxHeartbeats 4000000
namespace K62
open PySem PySem.Spec PyProof.Rows L2
section
variable {P : Program} {w : World} {K : PySem.W.Frag} {mg : Str → Option Value} {base : Heap}
abbrev rPowI : R2 := rI CPow fun i j => .int (i ^ j.toNat)
theorem cut_vI (ns : List Int) : ∃ ms : List Int, cutV (vI ns) none (some 63) = vI ms ∧ ms.length ≤ 63 := by
  refine ⟨(ns.drop 0).take (HT.sIx (vI ns).length (vI ns).length (some 63) - 0), ?_, ?_⟩
  · unfold cutV
    rw [← List.map_drop, ← List.map_take]
    rfl
  · rw [List.length_take]
    have : HT.sIx (vI ns).length (vI ns).length (some 63) ≤ 63 := by
      show min 63 _ ≤ 63
      omega
    omega
theorem sql_same {H H' : Hp} {a : Addr} {xs : List V} (h : SqL K H a xs) (s : Same H H') : SqL K H' a xs := by
  rcases h with h | h
  · rcases h with h | ⟨o, h⟩
    · exact .inl (.inl (s _ _ h))
    · exact .inl (.inr ⟨o, s _ _ h⟩)
  · exact .inr h
abbrev s19 : Stmt := topS 19
theorem sc19 : FnScope ["_law_script", "_law_seed", "_law_cell"] ["_law_script"] (defScope s19) := ⟨rfl, rfl, rfl, by decide +kernel, rfl, by decide +kernel, by decide +kernel⟩
abbrev D19 (K : PySem.W.Frag) (mg : Str → Option Value) := Df K mg "_law_box" s19 ["_law_script"]
def spBox (K : PySem.W.Frag) : Sp := fun vs H Q _ => ∃ (a : Addr) (ns : List Int), vs = [.ref a] ∧ SqL K H a (vI ns) ∧ ∀ H' b l, Box H' b l 0 → Q (.ref b) H'
theorem ok_box (D : D19 K mg) (T : Txt mg) : FnOk P w K mg base CX0 1 D.f D.fd ["_law_script"] (spBox K) := by
  refine D.F.ok sc19 (fun vs H Q E h => ?_) (fun cdv A outer s H vs Q E hr h => ?_)
  · obtain ⟨a, ns, rfl, _⟩ := h
    rfl
  · obtain ⟨a, ns, rfl, hS, q⟩ := h
    obtain ⟨ms, ems, hms⟩ := cut_vI ns
    refine ⟨_, (pss_cons (ps_set (i := 1) sc19.nd rfl (Or.inl rfl) pe_int)
  (pss_cons (ps_for PassesOwn.never rfl (pi_list (pe_slice sl_list (pv 0) po_none (po_some pe_int))) (pg_name (i := 2) sc19.nd rfl (Or.inl rfl) (Or.inr rfl))
  (pss_one (ps_set (i := 1) sc19.nd rfl (Or.inl rfl) (pe_op op_mod (pe_op op_add (pe_op op_add (pe_op op_mul (pv 1) pe_int) (pv 2)) pe_int) (pe_op op_add (pe_op op_pow pe_int pe_int) pe_int)))))
  (pss_one (ps_ret (pe_lst (pa_cons (pe_lc (own := [("_law_cell", 2)]) (g := (gName 2)) (tt := (tTest (tOp (rGeI) (tCB (rAbsQ) (tCons (tVar 2) tNil)) (tOp (rPowI) (tC (.int 10)) (tC (.int 18)))))) (te := (tCB (rAbsQ) (tCons (tVar 2) tNil))) rfl sc19.nd (pi_list (pe_slice sl_list (pv 0) po_none (po_some pe_int))) (blkOk_by (N := ["_law_script", "_law_seed", "_law_cell"]) (sc := defScope (topS 19)) (by decide +kernel)) (fun _ _ _ _ _ => (pg_name (i := 2) sc19.nd rfl (Or.inl rfl) (Or.inr rfl))) (fun _ _ _ _ _ => (pts_one (pt_cmpR op_ge (pe_callB call_abs (by rfl) T.abs (by decide +kernel) (pa_cons (pv 2) pa_nil)) (pe_op op_pow pe_int pe_int) (nomark _)))) (fun _ _ _ _ _ => (pe_callB call_abs (by rfl) T.abs (by decide +kernel) (pa_cons (pv 2) pa_nil)))) (pa_cons (pv 1) (pa_cons pe_int pa_nil)))))))), ?_⟩
    refine ⟨_, rfl, 63, rfl, a, _, rfl, hS, fun p np => ?_⟩
    rw [ems]
    have s1 : Same H (upd H p (.lst (vI ms))) := same_new np
    have hp1 : (upd H p (.lst (vI ms))) p = some (.lst (vI ms)) := upd_same
    generalize upd H p (.lst (vI ms)) = H1 at s1 hp1
    refine ⟨p, rfl, ⟨_, SqL.of hp1⟩, for_it (walk_list (K := K) (a := p) (xs := vI ms)) (fun i σ H' => ∃ sd y, σ = [some (.ref a), some (.int sd), y] ∧ 0 ≤ sd ∧ sd < 1000000000000000009 ∧ Same H1 H') ⟨5, _, rfl, by omega, by omega, Same.refl _⟩ (fun i σ H' _ ⟨_, _, _, _, _, z⟩ => SqL.of (z _ _ hp1)) ?_ ?_⟩
    · rintro i x σ H3 H4 hi ⟨sd, y, rfl, h0, h1, s3⟩ ⟨rfl, hx⟩
      obtain ⟨z, hz, rfl⟩ := of_vI hx
      refine ⟨_, rfl, _, _, rfl, rfl, .inr ⟨by decide, by decide⟩, _, rfl, _, _, rfl, rfl, _, _, rfl, rfl, ?_⟩
      refine ⟨_, _, rfl, rfl, ⟨by decide, by decide, by decide⟩, _, _, rfl, rfl, ?_⟩
      refine ⟨_, _, rfl, rfl, (show (0 : Int) < 1000000000000000009 by decide), ?_⟩
      refine ⟨_, _, rfl, Int.emod_nonneg _ (by decide), Int.emod_lt_of_pos _ (by decide), s3⟩
    · rintro σ H3 ⟨sd, y, rfl, h0, h1, s3⟩
      have hS3 : SqL K H3 a (vI ns) := sql_same hS (s1.trans s3)
      refine ⟨_, rfl, 63, rfl, a, _, rfl, hS3, fun p2 np2 => ?_⟩
      rw [ems]
      have s4 : Same H3 (upd H3 p2 (.lst (vI ms))) := same_new np2
      have hp2 : (upd H3 p2 (.lst (vI ms))) p2 = some (.lst (vI ms)) := upd_same
      generalize upd H3 p2 (.lst (vI ms)) = H4 at s4 hp2
      refine ⟨p2, rfl, ⟨_, SqL.of hp2⟩, fun L nL => ?_⟩
      refine lc_vals (walk_list (K := K) (a := p2) (xs := vI ms)) (fun i => decide (1000000000000000000 ≤ if ms.getD i 0 < 0 then -(ms.getD i 0) else ms.getD i 0)) (fun i => .int (if ms.getD i 0 < 0 then -(ms.getD i 0) else ms.getD i 0)) nL (by rw [List.length_map]; omega) (fun H5 s5 => SqL.of (s5 _ _ hp2)) yAt_same ?_ ?_
      · rintro i x H5 H6 hi s5 ⟨rfl, hx⟩ k k0 hk hk0
        obtain ⟨z, hz, rfl⟩ := of_vI hx
        have eg : ms.getD i 0 = z := by rw [List.getD_eq_getElem?_getD, hz]; rfl
        rw [eg] at hk hk0
        refine ⟨rfl, ?_⟩
        refine ⟨_, rfl, _, rfl, _, _, rfl, rfl, ⟨by decide, by decide, by decide⟩, _, _, rfl, rfl, _, rfl, ?_⟩
        cases hb : decide (1000000000000000000 ≤ if z < 0 then -z else z) with
        | true =>
          have e2 : decide ((10 : Int) ^ Int.toNat 18 ≤ if z < 0 then -z else z) = true := hb
          rw [e2]
          exact ⟨_, rfl, z, rfl, hk hb _ (Same.refl _)⟩
        | false =>
          have e2 : decide ((10 : Int) ^ Int.toNat 18 ≤ if z < 0 then -z else z) = false := hb
          rw [e2]
          exact hk0 hb _ (Same.refl _)
      · intro H5 s5 hL
        have e1 : ∀ (p : Nat → Bool) (g : Nat → Int), ((List.range (vI ms).length).filter p).map (fun i => V.int (g i)) = vI (((List.range (vI ms).length).filter p).map g) := fun p g => by
          show _ = List.map V.int _
          rw [List.map_map]; rfl
        rw [e1] at hL
        refine ⟨_, rfl, szle (show 3 ≤ 1000 by decide), fun b nb => ?_⟩
        have hbL : L ≠ b := fun e => by rw [← e, hL] at nb; cases nb
        refine q _ _ L ⟨_, sd, 0, upd_same, by rw [upd_ne hbL]; exact hL, by omega, by omega, ?_⟩
        rw [List.length_map]
        exact Nat.le_trans (List.length_filter_le _ _) (by rw [List.length_range, List.length_map]; exact hms)
/-! ### one draw -/
abbrev s20 : Stmt := topS 20
theorem sc20 : FnScope ["_law_box_here", "_law_many", "_law_told_here", "_law_one"] ["_law_box_here", "_law_many"] (defScope s20) := ⟨rfl, rfl, rfl, by decide +kernel, rfl, by decide +kernel, by decide +kernel⟩
abbrev D20 (K : PySem.W.Frag) (mg : Str → Option Value) := Df K mg "_law_draw" s20 ["_law_box_here", "_law_many"]
def spDraw : Sp := fun vs H Q _ => ∃ (b l : Addr) (m c : Int), vs = [.ref b, .int m] ∧ 1 ≤ m ∧ m ≤ 1000 ∧ Box H b l c ∧ c ≤ 1000000 ∧ ∀ H' r, Box H' b l (c + 1) → SameB b l H H' → 0 ≤ r → r < m → Q (.int r) H'
theorem ok_draw (D : D20 K mg) (T : Txt mg) : FnOk P w K mg base CX0 1 D.f D.fd ["_law_box_here", "_law_many"] spDraw := by
  refine D.F.ok sc20 (fun vs H Q E h => ?_) (fun cdv A outer s H vs Q E hr h => ?_)
  · obtain ⟨b, l, m, c, rfl, _⟩ := h
    rfl
  · obtain ⟨b, l, m, c, rfl, hm1, hm2, hB, hc, q⟩ := h
    have hbl := hB.ne
    have hB' := hB
    obtain ⟨hs, sd, cnt, hb, hl, c0, c1, hn⟩ := hB'
    refine ⟨_, (pss_cons (ps_if (pt_cmpR (op_neD hr.units) (pe_ix ix_list (pv 0) pe_int (fun _ _ => rfl)) (pe_lst pa_nil) (nomark _))
  (pss_cons (ps_set (i := 2) sc20.nd rfl (Or.inl rfl) (pe_op op_mod (pe_ix ix_list (pe_ix ix_list (pv 0) pe_int (fun _ _ => rfl)) pe_int (fun _ _ => rfl)) (pv 1)))
  (pss_cons (ps_asg (pe_op op_fdiv (pe_ix ix_list (pe_ix ix_list (pv 0) pe_int (fun _ _ => rfl)) pe_int (fun _ _ => rfl)) (pv 1)) (pg_sub (pe_ix ix_list (pv 0) pe_int (fun _ _ => rfl)) pe_int set_list))
  (pss_cons (ps_if (pt_cmpR op_eq (pe_ix ix_list (pe_ix ix_list (pv 0) pe_int (fun _ _ => rfl)) pe_int (fun _ _ => rfl)) pe_int (nomark _))
  (pss_one (ps_expr (pe_bm PySem.F.plainAttrs_list PySem.F.slot_list_pop PySem.F.type_list_pop mt_popAt (pe_ix ix_list (pv 0) pe_int (fun _ _ => rfl)) (pa_cons pe_int pa_nil))))
  pss_nil)
  (pss_one (ps_ret (pv 2))))))
  pss_nil)
  (pss_cons (ps_augS (pv 0) pe_int pget_list pe_int ip_add set_list)
  (pss_cons (ps_set (i := 3) sc20.nd rfl (Or.inl rfl) (pe_op op_mod (pe_op op_mul (pe_op op_add (pe_op op_add (pe_ix ix_list (pv 0) pe_int (fun _ _ => rfl)) (pe_op op_mul (pe_op op_mul (pe_ix ix_list (pv 0) pe_int (fun _ _ => rfl)) (pe_ix ix_list (pv 0) pe_int (fun _ _ => rfl))) pe_int)) (pe_ix ix_list (pv 0) pe_int (fun _ _ => rfl))) pe_int) pe_int))
  (pss_one (ps_ret (pe_op op_mod (pe_op op_fdiv (pe_op op_mod (pe_op op_mul (pv 3) (pv 3)) pe_int) pe_int) (pv 1))))))), ?_⟩
    refine ⟨_, rfl, b, _, 0, _, rfl, rfl, SqL.of hb, rfl, szle (Nat.zero_le _), fun p np => ?_⟩
    have sp : Same H (upd H p (.lst [])) := same_new np
    have hp : (upd H p (.lst [])) p = some (.lst []) := upd_same
    have hb1 := sp _ _ hb
    have hl1 := sp _ _ hl
    generalize upd H p (.lst []) = H1 at sp hp hb1 hl1
    refine ⟨_, _, .lst (SqL.of hl1) (dpAll_ints _ hs), .lst (SqL.of hp) .nil, shaped_list (layAll_ints hs) (Nat.le_trans (depthAll_ints hs) (by decide)), by decide, ?_⟩
    rw [eqv_nil]
    refine ⟨_, rfl, ?_⟩
    by_cases ch : hs = []
    · subst ch
      refine iteF ?_
      have hat0 : ∀ c' : Int, atI [V.ref l, .int sd, .int c'] 0 = some (.ref l) := fun _ => rfl
      have hat1 : ∀ c' : Int, atI [V.ref l, .int sd, .int c'] 1 = some (.int sd) := fun _ => rfl
      have hat2 : ∀ c' : Int, atI [V.ref l, .int sd, .int c'] 2 = some (.int c') := fun _ => rfl
      refine ⟨_, rfl, b, _, 2, _, rfl, rfl, SqL.of hb1, hat2 _, cnt, 1, rfl, rfl, b, _, 2, 2, rfl, rfl, hb1, rfl, ?_⟩
      have s2 : SameB b l H (upd H1 b (.lst [.ref l, .int sd, .int (cnt + 1)])) := sp.sb.box
      have hb2 : (upd H1 b (.lst [.ref l, .int sd, .int (cnt + 1)])) b = some (.lst [.ref l, .int sd, .int (cnt + 1)]) := upd_same
      have hl2 : (upd H1 b (.lst [.ref l, .int sd, .int (cnt + 1)])) l = some (.lst (vI [])) := by rw [upd_ne (Ne.symm hbl)]; exact hl1
      generalize hH2 : upd H1 b (.lst [.ref l, .int sd, .int (cnt + 1)]) = H2 at s2 hb2 hl2
      have eH : upd H1 b (.lst ([V.ref l, .int sd, .int cnt].set 2 (.int (cnt + 1)))) = H2 := hH2
      rw [eH]
      have lim : ∀ x : Int, 0 ≤ x → x < 2147483647 → CMul x x := fun x h0 h1 => .inl ⟨by omega, by omega⟩
      refine ⟨_, rfl, b, _, 1, _, rfl, rfl, SqL.of hb2, hat1 _, _, rfl, b, _, 2, _, rfl, rfl, SqL.of hb2, hat2 _, _, rfl, b, _, 2, _, rfl, rfl, SqL.of hb2, hat2 _, _, _, rfl, rfl, lim _ (by omega) (by omega), _, _, rfl, rfl, .inr ⟨by decide, by decide⟩, _, _, rfl, rfl, ?_⟩
      refine ⟨_, rfl, b, _, 2, _, rfl, rfl, SqL.of hb2, hat2 _, _, _, rfl, rfl, _, _, rfl, rfl, .inr ⟨by decide, by decide⟩, _, _, rfl, rfl, (show (0 : Int) < 2147483647 by decide), ?_⟩
      refine ⟨_, rfl, _, rfl, _, _, rfl, rfl, lim _ (Int.emod_nonneg _ (by decide)) (Int.emod_lt_of_pos _ (by decide)), _, _, rfl, rfl, (show (0 : Int) < 2147483629 by decide), _, _, rfl, rfl, ⟨by decide, by decide⟩, ?_⟩
      exact ⟨_, rfl, _, _, rfl, rfl, by omega, q _ _ ⟨[], sd, cnt + 1, hb2, hl2, by omega, by omega, Nat.zero_le _⟩ s2 (Int.emod_nonneg _ (by omega)) (Int.emod_lt_of_pos _ (by omega))⟩
    · rw [decide_eq_false ch]
      refine iteT ?_
      obtain ⟨z, zs, rfl⟩ := List.exists_cons_of_ne_nil ch
      refine ⟨_, rfl, b, _, 0, _, rfl, rfl, SqL.of hb1, rfl, l, _, 0, _, rfl, rfl, SqL.of hl1, at_int (Int.le_refl 0) (vI_at (z := z) rfl), _, rfl, _, _, rfl, rfl, by omega, ?_⟩
      have hat : atI (vI (z :: zs)) 0 = some (.int z) := at_int (Int.le_refl 0) (vI_at (z := z) rfl)
      have hix : ∀ (y : Int) (ys : List Int), ixN (vI (y :: ys)).length 0 = some 0 := fun y ys => by
        unfold ixN
        rw [if_pos (Int.le_refl 0)]
        have : 0 < (vI (y :: ys)).length := Nat.zero_lt_succ _
        exact if_pos (by omega)
      refine ⟨_, rfl, b, _, 0, _, rfl, rfl, SqL.of hb1, rfl, l, _, 0, _, rfl, rfl, SqL.of hl1, hat, _, rfl, _, _, rfl, rfl, ⟨by omega, by omega⟩, _, rfl, b, _, 0, _, rfl, rfl, SqL.of hb1, rfl, l, _, 0, 0, rfl, rfl, hl1, hix _ _, ?_⟩
      have r0 : 0 ≤ z % m := Int.emod_nonneg _ (by omega)
      have r1 : z % m < m := Int.emod_lt_of_pos _ (by omega)
      have s2 : SameB b l H (upd H1 l (.lst (vI (z / m :: zs)))) := sp.sb.boxl
      have hb2 : (upd H1 l (.lst (vI (z / m :: zs)))) b = some (.lst [.ref l, .int sd, .int cnt]) := by rw [upd_ne hbl]; exact hb1
      have hl2 : (upd H1 l (.lst (vI (z / m :: zs)))) l = some (.lst (vI (z / m :: zs))) := upd_same
      show _
      generalize hH2 : upd H1 l (.lst (vI (z / m :: zs))) = H2 at s2 hb2 hl2
      have hat2 : atI (vI (z / m :: zs)) 0 = some (.int (z / m)) := at_int (Int.le_refl 0) (vI_at (z := z / m) rfl)
      have eH : upd H1 l (.lst ((vI (z :: zs)).set 0 (.int (z / m)))) = H2 := hH2
      rw [eH]
      refine ⟨_, rfl, b, _, 0, _, rfl, rfl, SqL.of hb2, rfl, l, _, 0, _, rfl, rfl, SqL.of hl2, hat2, rfl, _, rfl, ?_⟩
      by_cases cz : z / m = 0
      · rw [decide_eq_true (congrArg V.int cz)]
        refine iteT ?_
        refine ⟨_, rfl, b, _, 0, _, rfl, rfl, SqL.of hb2, rfl, .inl ⟨rfl, _, SqL.of hl2⟩, l, _, 0, 0, _, rfl, rfl, hl2, by decide, by decide, (ixN_seq (hix _ _)).1, rfl, ?_⟩
        refine ⟨_, rfl, q _ _ ⟨zs, sd, cnt, by rw [upd_ne hbl]; exact hb2, upd_same, c0, by omega, by rw [List.length_cons] at hn; omega⟩ s2.boxl r0 r1⟩
      · rw [decide_eq_false (fun e => cz (V.int.inj e))]
        refine iteF ?_
        exact ⟨_, rfl, q _ _ ⟨z / m :: zs, sd, cnt, hb2, hl2, c0, by omega, hn⟩ s2 r0 r1⟩
end
end K62

set_option Elab.async false
set_option linter.all false
set_option maxRecDepth 100000
set_option maxHeartbeats 4000000
namespace K62
open PySem PySem.Spec PyProof.Rows L2
section
variable {P : Program} {w : World} {K : PySem.W.Frag} {mg : Str → Option Value} {base : Heap}
/-- a list of ints that is no part of the box -/
def Own (H : Hp) (b l r : Addr) (ms : List Int) : Prop := r ≠ b ∧ r ≠ l ∧ H r = some (.lst (vI ms))
abbrev s21 : Stmt := topS 21
theorem sc21 : FnScope ["_law_box_here", "_law_things", "_law_made", "_law_thing"] ["_law_box_here", "_law_things"] (defScope s21) := ⟨rfl, rfl, rfl, by decide +kernel, rfl, by decide +kernel, by decide +kernel⟩
abbrev D21 (K : PySem.W.Frag) (mg : Str → Option Value) := Df K mg "_law_mixed_up" s21 ["_law_box_here", "_law_things"]
def spMix : Sp := fun vs H Q _ => ∃ (b l t : Addr) (ns : List Int) (c : Int), vs = [.ref b, .ref t] ∧ Box H b l c ∧ c ≤ 900000 ∧ Own H b l t ns ∧ ns.length ≤ 11 ∧ ∀ H' r ms, Box H' b l (c + 11) → SameB b l H H' → Own H' b l r ms → ms.Perm ns → Q (.ref r) H'
theorem insert_perm {α : Type} (ms : List α) (i : Nat) (y : α) : (ms.take i ++ [y] ++ ms.drop i).Perm (ms ++ [y]) := by
  have h : (ms.take i ++ [y] ++ ms.drop i).Perm (ms.take i ++ ms.drop i ++ [y]) := by
    rw [List.append_assoc, List.append_assoc]
    exact List.Perm.append_left _ List.perm_append_comm
  rw [List.take_append_drop] at h
  exact h
theorem ok_mix (D : D21 K mg) (T : Txt mg) (D__law_draw : D20 K mg) : FnOk P w K mg base CX0 2 D.f D.fd ["_law_box_here", "_law_things"] spMix := by
  have G__law_draw : FnOk P w K mg base CX0 1 _ _ _ _ := ok_draw D__law_draw T
  refine D.F.ok sc21 (fun vs H Q E h => ?_) (fun cdv A outer s H vs Q E hr h => ?_)
  · obtain ⟨b, l, t, ns, c, rfl, _⟩ := h
    rfl
  · obtain ⟨b, l, t, ns, c, rfl, hB, hc, hT, hn, q⟩ := h
    refine ⟨_, (pss_cons (ps_set (i := 2) sc21.nd rfl (Or.inl rfl) (pe_lst pa_nil))
  (pss_cons (ps_for PassesOwn.never rfl (pi_list (pv 1)) (pg_name (i := 3) sc21.nd rfl (Or.inl rfl) (Or.inr rfl))
  (pss_one (ps_expr (pe_bm PySem.F.plainAttrs_list PySem.F.slot_list_insert PySem.F.type_list_insert mt_insert (pv 2) (pa_cons (pe_call G__law_draw (hr.mono (by decide)) (by rfl) D__law_draw.g D__law_draw.F.kp D__law_draw.b .nil pass0 (pa_cons (pv 0) (pa_cons (pe_op op_add (pe_callB call_len_seq (by rfl) T.len (by decide +kernel) (pa_cons (pv 2) pa_nil)) pe_int) pa_nil))) (pa_cons (pv 3) pa_nil))))))
  (pss_one (ps_ret (pv 2))))), ?_⟩
    refine ⟨Nat.zero_le _, fun R nR => ?_⟩
    have hRb := hB.new nR
    have s1 : Same H (upd H R (.lst [])) := same_new nR
    have hR1 : (upd H R (.lst [])) R = some (.lst (vI [])) := upd_same
    have hB1 := hB.same s1
    generalize upd H R (.lst []) = H1 at s1 hR1 hB1
    refine ⟨_, rfl, t, rfl, ⟨_, SqL.of (s1 _ _ hT.2.2)⟩, for_it (walk_list (K := K) (a := t) (xs := vI ns)) (fun i σ H' => ∃ ms y, σ = [some (.ref b), some (.ref t), some (.ref R), y] ∧ SameB b l H H' ∧ Box H' b l (c + (i : Nat)) ∧ H' R = some (.lst (vI ms)) ∧ ms.Perm (ns.take i))
      ⟨[], _, rfl, s1.sb, hB1.le (by omega), hR1, by rw [List.take_zero]⟩ (fun i σ H' _ ⟨_, _, _, z, _⟩ => SqL.of (z _ _ hT.1 hT.2.1 hT.2.2)) ?_ ?_⟩
    · rintro i x σ H3 H4 hi ⟨ms, y, rfl, s3, hB3, hR3, hp⟩ ⟨rfl, hx⟩
      obtain ⟨z, hz, rfl⟩ := of_vI hx
      have hil : i < ns.length := (List.getElem?_eq_some_iff.mp hz).1
      have hml : ms.length = i := by rw [hp.length_eq, List.length_take]; omega
      refine ⟨_, rfl, .inl ⟨rfl, _, SqL.of hR3⟩, ?_⟩
      refine ⟨_, rfl, _, rfl, R, vI ms, rfl, .inl (SqL.of hR3), _, _, rfl, rfl, ?_⟩
      rw [List.length_map, hml]
      refine ⟨b, l, ((i : Nat) : Int) + 1, c + (i : Nat), rfl, by omega, by omega, hB3, by omega, fun H5 r hB5 s5 r0 r1 => ?_⟩
      have hR5 := s5 _ _ hRb.1 hRb.2 hR3
      refine ⟨_, rfl, R, _, r, _, rfl, rfl, hR5, szlt (by rw [List.length_map]; omega), r0, by omega, ?_⟩
      refine ⟨ms.take r.toNat ++ [z] ++ ms.drop r.toNat, _, rfl, (s3.trans s5).mut nR, ?_, ?_, ?_⟩
      · exact (hB5.upd hRb.1 hRb.2).le (by omega)
      · rw [upd_same]
        show _ = some (HO.lst (List.map V.int _))
        rw [List.map_append, List.map_append, List.map_take, List.map_drop]
        rfl
      · rw [List.take_add_one, hz]
        exact (insert_perm ms r.toNat z).trans (hp.append_right [z])
    · rintro σ H3 ⟨ms, y, rfl, s3, hB3, hR3, hp⟩
      have efull : ns.take (vI ns).length = ns := by rw [List.length_map]; exact List.take_length
      rw [efull] at hp
      exact ⟨_, rfl, q _ R ms (hB3.le (by rw [List.length_map]; omega)) s3 ⟨hRb.1, hRb.2, hR3⟩ hp⟩
/-! ### the digits from behind -/
abbrev s22 : Stmt := topS 22
theorem sc22 : FnScope ["_law_number", "_law_most", "_law_found", "_law_size"] ["_law_number", "_law_most"] (defScope s22) := ⟨rfl, rfl, rfl, by decide +kernel, rfl, by decide +kernel, by decide +kernel⟩
abbrev D22 (K : PySem.W.Frag) (mg : Str → Option Value) := Df K mg "_law_from_behind" s22 ["_law_number", "_law_most"]
def fbj (k : Nat) : Nat → Nat
  | 0 => 0
  | j + 1 => 2 * fbj k j + k / 2 ^ j % 2
abbrev fbk (k : Nat) : Int := ((fbj k 6 : Nat) : Int)
def spFb : Sp := fun vs H Q _ => ∃ (k : Nat), vs = [.int (k : Int), .int 64] ∧ ∀ H', Same H H' → Q (.int (fbk k)) H'
theorem ok_fb (D : D22 K mg) (T : Txt mg) : FnOk P w K mg base CX0 1 D.f D.fd ["_law_number", "_law_most"] spFb := by
  refine D.F.ok sc22 (fun vs H Q E h => ?_) (fun cdv A outer s H vs Q E hr h => ?_)
  · obtain ⟨k, rfl, _⟩ := h
    rfl
  · obtain ⟨k, rfl, q⟩ := h
    refine ⟨_, (pss_cons (ps_set (i := 2) sc22.nd rfl (Or.inl rfl) pe_int)
  (pss_cons (ps_set (i := 3) sc22.nd rfl (Or.inl rfl) pe_int)
  (pss_cons (ps_while PassesOwn.never (pt_cmpR op_lt (pv 3) (pv 1) (nomark _))
  (pss_cons (ps_set (i := 2) sc22.nd rfl (Or.inl rfl) (pe_op op_add (pe_op op_mul pe_int (pv 2)) (pe_op op_mod (pv 0) pe_int)))
  (pss_cons (ps_set (i := 0) sc22.nd rfl (Or.inl rfl) (pe_op op_fdiv (pv 0) pe_int))
  (pss_one (ps_set (i := 3) sc22.nd rfl (Or.inl rfl) (pe_op op_mul pe_int (pv 3)))))))
  (pss_one (ps_ret (pv 2)))))), ?_⟩
    refine ⟨fun m σ H' => ∃ j : Nat, m + j = 6 ∧ H' = H ∧ σ = [some (.int ((k / 2 ^ j : Nat) : Int)), some (.int 64), some (.int ((fbj k j : Nat) : Int)), some (.int ((2 ^ j : Nat) : Int))], ⟨6, 0, rfl, rfl, ?_⟩, ?_⟩
    · rw [Nat.pow_zero, Nat.div_one]
      rfl
    rintro m σ H1 ⟨j, hj, rfl, rfl⟩
    refine ⟨_, rfl, _, rfl, _, _, rfl, rfl, _, rfl, ?_⟩
    by_cases c : j < 6
    · have hlt : ((2 ^ j : Nat) : Int) < 64 := by
        have : 2 ^ j < 2 ^ 6 := Nat.pow_lt_pow_right (by decide) c
        omega
      rw [decide_eq_true hlt]
      refine iteT ?_
      refine ⟨fun σ' H' => H' = H1 ∧ σ' = [some (.int ((k / 2 ^ (j + 1) : Nat) : Int)), some (.int 64), some (.int ((fbj k (j + 1) : Nat) : Int)), some (.int ((2 ^ (j + 1) : Nat) : Int))], fun σ' H' hN => ⟨m - 1, by omega, j + 1, by omega, hN.1, hN.2⟩, ?_⟩
      refine ⟨_, rfl, _, _, rfl, rfl, .inl ⟨by decide, by decide⟩, _, rfl, _, _, rfl, rfl, (show (0 : Int) < 2 by decide), _, _, rfl, rfl, ?_⟩
      refine ⟨_, rfl, _, _, rfl, rfl, ⟨by decide, by decide⟩, ?_⟩
      refine ⟨_, rfl, _, _, rfl, rfl, .inl ⟨by decide, by decide⟩, ?_⟩
      refine ⟨rfl, ?_⟩
      have e1 : ((k / 2 ^ j : Nat) : Int) / 2 = ((k / 2 ^ (j + 1) : Nat) : Int) := by
        rw [Nat.pow_succ, ← Nat.div_div_eq_div_mul]
        exact (Int.natCast_ediv _ 2).symm
      have e2 : 2 * ((fbj k j : Nat) : Int) + ((k / 2 ^ j : Nat) : Int) % 2 = ((fbj k (j + 1) : Nat) : Int) := by
        show _ = ((2 * fbj k j + k / 2 ^ j % 2 : Nat) : Int)
        omega
      have e3 : 2 * ((2 ^ j : Nat) : Int) = ((2 ^ (j + 1) : Nat) : Int) := by
        rw [Nat.pow_succ]
        omega
      show [some (V.int (((k / 2 ^ j : Nat) : Int) / 2)), some (.int 64), some (.int (2 * ((fbj k j : Nat) : Int) + ((k / 2 ^ j : Nat) : Int) % 2)), some (.int (2 * ((2 ^ j : Nat) : Int)))] = _
      rw [e1, e2, e3]
    · have ej : j = 6 := by omega
      subst ej
      rw [decide_eq_false (by decide)]
      refine iteF ?_
      exact ⟨_, rfl, q _ (Same.refl _)⟩
theorem fbk_inj : ∀ i, i < 11 → ∀ j, j < 11 → fbj i 6 = fbj j 6 → i = j := by decide
end
end K62

set_option Elab.async false
set_option linter.all false
set_option maxRecDepth 100000
set_option maxHeartbeats 4000000
namespace K62
open PySem PySem.Spec PyProof.Rows L2
section
variable {P : Program} {w : World} {K : PySem.W.Frag} {mg : Str → Option Value} {base : Heap}
theorem rgV_vI (n : Nat) : rgV 0 (n : Int) = vI ((List.range n).map fun (i : Nat) => (i : Int)) := by
  unfold rgV
  have e : ((n : Int) - 0).toNat = n := by omega
  rw [e]
  show _ = List.map V.int _
  rw [List.map_map]
  refine List.map_congr_left fun i _ => ?_
  show V.int (0 + (i : Int)) = V.int (i : Int)
  rw [Int.zero_add]
theorem nodup_map {n : Nat} {f : Nat → Int} (h : ∀ i j, i < n → j < n → f i = f j → i = j) : ((List.range n).map f).Nodup := by
  rw [List.Nodup, List.pairwise_map]
  refine (List.Pairwise.and_mem.mp (List.pairwise_lt_range (n := n))).imp fun {i j} q e => ?_
  have := h i j (List.mem_range.mp q.1) (List.mem_range.mp q.2.1) e
  omega
theorem filt_vI (n : Nat) (p : Nat → Bool) (g : Nat → Int) : ((List.range n).filter p).map (fun i => V.int (g i)) = vI (((List.range n).filter p).map g) := by
  show _ = List.map V.int _
  rw [List.map_map]; rfl
abbrev s23 : Stmt := topS 23
theorem sc23 : FnScope ["_law_box_here", "_law_many", "_law_way", "_law_size", "_law_parts", "_law_block", "_law_k"] ["_law_box_here", "_law_many"] (defScope s23) := ⟨rfl, rfl, rfl, by decide +kernel, rfl, by decide +kernel, by decide +kernel⟩
abbrev D23 (K : PySem.W.Frag) (mg : Str → Option Value) := Df K mg "_law_places" s23 ["_law_box_here", "_law_many"]
def spPlaces : Sp := fun vs H Q _ => ∃ (b l : Addr) (n : Nat) (c : Int), vs = [.ref b, .int (n : Int)] ∧ Box H b l c ∧ c ≤ 800000 ∧ 1 ≤ n ∧ n ≤ 11 ∧
  ∀ H' r ps, Box H' b l (c + 20) → SameB b l H H' → Own H' b l r ps → ps.Nodup → ps.length = n → Q (.ref r) H'
theorem ok_places (D : D23 K mg) (T : Txt mg) (D__law_draw : D20 K mg) (D__law_mixed_up : D21 K mg) (D__law_from_behind : D22 K mg) : FnOk P w K mg base CX0 3 D.f D.fd ["_law_box_here", "_law_many"] spPlaces := by
  have G__law_draw : FnOk P w K mg base CX0 1 _ _ _ _ := ok_draw D__law_draw T
  have G__law_mixed_up : FnOk P w K mg base CX0 2 _ _ _ _ := ok_mix D__law_mixed_up T D__law_draw
  have G__law_from_behind : FnOk P w K mg base CX0 1 _ _ _ _ := ok_fb D__law_from_behind T
  refine D.F.ok sc23 (fun vs H Q E h => ?_) (fun cdv A outer s H vs Q E hr h => ?_)
  · obtain ⟨b, l, n, c, rfl, _⟩ := h
    rfl
  · obtain ⟨b, l, n, c, rfl, hB, hc, hn1, hn2, q⟩ := h
    refine ⟨_, (pss_cons (ps_set (i := 2) sc23.nd rfl (Or.inl rfl) (pe_call G__law_draw (hr.mono (by decide)) (by rfl) D__law_draw.g D__law_draw.F.kp D__law_draw.b .nil pass0 (pa_cons (pv 0) (pa_cons pe_int pa_nil))))
  (pss_cons (ps_if (pt_cmpR op_lt (pv 2) pe_int (nomark _))
  (pss_one (ps_ret (pe_call G__law_mixed_up (hr.mono (by decide)) (by rfl) D__law_mixed_up.g D__law_mixed_up.F.kp D__law_mixed_up.b .nil pass0 (pa_cons (pv 0) (pa_cons (pe_listRg rfl (by rfl) T.list (prg_1 (by rfl) T.range (pv 1))) pa_nil)))))
  pss_nil)
  (pss_cons (ps_if (pt_cmpR op_eq (pv 2) pe_int (nomark _))
  (pss_one (ps_ret (pe_listRg rfl (by rfl) T.list (prg_1 (by rfl) T.range (pv 1)))))
  pss_nil)
  (pss_cons (ps_if (pt_cmpR op_eq (pv 2) pe_int (nomark _))
  (pss_one (ps_ret (pe_listRg3 rfl (by rfl) T.list (by rfl) T.range (pa_cons (pe_op op_sub (pv 1) pe_int) (pa_cons (pe_un un_neg pe_int) (pa_cons (pe_un un_neg pe_int) pa_nil))))))
  pss_nil)
  (pss_cons (ps_if (pt_cmpR op_eq (pv 2) pe_int (nomark _))
  (pss_cons (ps_setLc (i := 4) (own := [("_law_size", 3)]) (g := (gName 3)) (tt := (tTest (tOp (rEq) (tOp (rModI) (tVar 1) (tVar 3)) (tC (.int 0))))) (te := (tVar 3)) rfl sc23.nd rfl rfl (sw_true rfl rfl rfl (by decide +kernel)) (pi_range2 (by rfl) T.range (pa_cons pe_int (pa_cons (pe_op op_add (pv 1) pe_int) pa_nil))) (blkOk_by (N := ["_law_box_here", "_law_many", "_law_way", "_law_size", "_law_parts", "_law_block", "_law_k"]) (sc := defScope (topS 23)) (by decide +kernel)) (fun _ _ _ _ _ => (pg_name (i := 3) sc23.nd rfl (Or.inl rfl) (Or.inr rfl))) (fun _ _ _ _ _ => (pts_one (pt_cmpR op_eq (pe_op op_mod (pv 1) (pv 3)) pe_int (nomark _)))) (fun _ _ _ _ _ => (pv 3)))
  (pss_cons (ps_set (i := 3) sc23.nd rfl (Or.inr rfl) (pe_ix ix_list (pv 4) (pe_call G__law_draw (hr.mono (by decide)) (by rfl) D__law_draw.g D__law_draw.F.kp D__law_draw.b .nil pass0 (pa_cons (pv 0) (pa_cons (pe_callB call_len_seq (by rfl) T.len (by decide +kernel) (pa_cons (pv 4) pa_nil)) pa_nil))) (fun _ _ => rfl)))
  (pss_cons (ps_set (i := 5) sc23.nd rfl (Or.inr rfl) (pe_call G__law_mixed_up (hr.mono (by decide)) (by rfl) D__law_mixed_up.g D__law_mixed_up.F.kp D__law_mixed_up.b .nil pass0 (pa_cons (pv 0) (pa_cons (pe_listRg rfl (by rfl) T.list (prg_1 (by rfl) T.range (pv 3))) pa_nil))))
  (pss_one (ps_ret (pe_lc (own := [("_law_k", 6)]) (g := (gName 6)) (tt := tYes) (te := (tOp (rAddI) (tOp (rMulI) (tOp (rIxL K) (tVar 5) (tOp (rModI) (tVar 6) (tVar 3))) (tVar 1)) (tOp (rDivI) (tVar 6) (tVar 3)))) rfl sc23.nd (pi_range1 (by rfl) T.range (pa_cons (pv 1) pa_nil)) (blkOk_by (N := ["_law_box_here", "_law_many", "_law_way", "_law_size", "_law_parts", "_law_block", "_law_k"]) (sc := defScope (topS 23)) (by decide +kernel)) (fun _ _ _ _ _ => (pg_name (i := 6) sc23.nd rfl (Or.inl rfl) (Or.inr rfl))) (fun _ _ _ _ _ => pts_nil) (fun _ _ _ _ _ => (pe_op op_add (pe_op op_mul (pe_ix ix_list (pv 5) (pe_op op_mod (pv 6) (pv 3)) (fun _ _ => rfl)) (pv 1)) (pe_op op_fdiv (pv 6) (pv 3))))))))))
  pss_nil)
  (pss_one (ps_ret (pe_lc (own := [("_law_k", 6)]) (g := (gName 6)) (tt := tYes) (te := (tCall (spFb) [] E0 (tCons (tVar 6) (tCons (tC (.int 64)) tNil)))) rfl sc23.nd (pi_range1 (by rfl) T.range (pa_cons (pv 1) pa_nil)) (blkOk_by (N := ["_law_box_here", "_law_many", "_law_way", "_law_size", "_law_parts", "_law_block", "_law_k"]) (sc := defScope (topS 23)) (by decide +kernel)) (fun _ _ _ _ _ => (pg_name (i := 6) sc23.nd rfl (Or.inl rfl) (Or.inr rfl))) (fun _ _ _ _ _ => pts_nil) (fun _ _ _ _ _ => (pe_call G__law_from_behind (hr.mono (by decide)) (by rfl) D__law_from_behind.g D__law_from_behind.F.kp D__law_from_behind.b .nil pass0 (pa_cons (pv 6) (pa_cons pe_int pa_nil)))))))))))), ?_⟩
    refine ⟨_, rfl, b, l, 6, c, rfl, by omega, by omega, hB, by omega, fun H1 r hB1 s1 r0 r1 => ?_⟩
    refine ⟨_, rfl, _, _, rfl, rfl, _, rfl, ?_⟩
    by_cases c1 : r < 2
    · rw [decide_eq_true c1]
      refine iteT ?_
      refine ⟨_, rfl, _, rfl, _, rfl, RgOk.of_le (by omega) (by omega) (by omega) (by omega), fun t nt => ?_⟩
      rw [rgV_vI]
      have ht := hB1.new nt
      have st := same_new (o := .lst (vI ((List.range n).map fun (i : Nat) => (i : Int)))) nt
      refine ⟨b, l, t, _, c + 1, rfl, hB1.same st, by omega, ⟨ht.1, ht.2, upd_same⟩, by rw [List.length_map, List.length_range]; exact hn2, fun H2 p ms hB2 s2 hO hp => ?_⟩
      refine q _ p ms (hB2.le (by omega)) (s1.trans (st.sb.trans s2)) hO (hp.nodup_iff.mpr (nodup_map fun i j _ _ e => by omega)) ?_
      rw [hp.length_eq, List.length_map, List.length_range]
    rw [decide_eq_false c1]
    refine iteF ?_
    refine ⟨_, rfl, rfl, _, rfl, ?_⟩
    by_cases c2 : r = 2
    · rw [decide_eq_true (congrArg V.int c2)]
      refine iteT ?_
      refine ⟨_, rfl, _, rfl, RgOk.of_le (by omega) (by omega) (by omega) (by omega), fun t nt => ?_⟩
      rw [rgV_vI]
      have ht := hB1.new nt
      have st := same_new (o := .lst (vI ((List.range n).map fun (i : Nat) => (i : Int)))) nt
      exact q _ t _ ((hB1.same st).le (by omega)) (s1.trans st.sb) ⟨ht.1, ht.2, upd_same⟩ (nodup_map fun i j _ _ e => by omega) (by rw [List.length_map, List.length_range])
    rw [decide_eq_false (fun e => c2 (V.int.inj e))]
    refine iteF ?_
    refine ⟨_, rfl, rfl, _, rfl, ?_⟩
    by_cases c3 : r = 3
    · rw [decide_eq_true (congrArg V.int c3)]
      refine iteT ?_
      have erg : ((n : Int) - 1 - -1).toNat = n := by omega
      have hrg : RgC ((n : Int) - 1) (-1) (-1) n := by
        have := RgC.neg (i := (n : Int) - 1) (j := -1) (by omega) (by omega) (by omega) (by omega)
        rw [erg] at this
        exact this
      refine ⟨_, rfl, _, _, rfl, rfl, _, rfl, _, rfl, _, _, _, n, rfl, hrg, by omega, fun t nt => ?_⟩
      have ev : ((List.range n).map fun (m : Nat) => V.int ((n : Int) - 1 + m * -1)) = vI ((List.range n).map fun (m : Nat) => (n : Int) - 1 + m * -1) := by
        show _ = List.map V.int _
        rw [List.map_map]; rfl
      rw [ev]
      have ht := hB1.new nt
      have st := same_new (o := .lst (vI ((List.range n).map fun (m : Nat) => (n : Int) - 1 + m * -1))) nt
      exact q _ t _ ((hB1.same st).le (by omega)) (s1.trans st.sb) ⟨ht.1, ht.2, upd_same⟩ (nodup_map fun i j _ _ e => by omega) (by rw [List.length_map, List.length_range])
    rw [decide_eq_false (fun e => c3 (V.int.inj e))]
    refine iteF ?_
    refine ⟨_, rfl, rfl, _, rfl, ?_⟩
    by_cases c4 : r = 4
    · rw [decide_eq_true (congrArg V.int c4)]
      refine iteT ?_
      refine ⟨_, rfl, _, _, rfl, rfl, 1, (n : Int) + 1, rfl, ⟨by omega, by omega, by omega, by omega⟩, fun A1 nA1 => ?_⟩
      have en1 : ((n : Int) + 1 - 1).toNat = n := by omega
      rw [en1]
      refine lc_vals walk_range (fun i => decide ((n : Int) % (1 + (i : Nat)) = 0)) (fun i => .int (1 + (i : Nat))) nA1 (by omega) (fun _ _ => trivial) yFn_same ?_ ?_
      · rintro i x H2 H3 hi s2 ⟨rfl, rfl⟩ k k0 hk hk0
        refine ⟨rfl, ?_⟩
        refine ⟨_, rfl, _, rfl, _, _, rfl, rfl, (show (0 : Int) < 1 + (i : Nat) by omega), rfl, _, rfl, ?_⟩
        cases hb : decide ((n : Int) % (1 + (i : Nat)) = 0) with
        | true =>
          rw [decide_eq_true (congrArg V.int (of_decide_eq_true hb))]
          exact ⟨_, rfl, hk hb _ (Same.refl _)⟩
        | false =>
          rw [decide_eq_false (fun e => of_decide_eq_false hb (V.int.inj e))]
          exact hk0 hb _ (Same.refl _)
      · intro H2 s2 hA
        rw [filt_vI] at hA
        have hA0 := hB1.new nA1
        generalize hps : ((List.range n).filter fun i => decide ((n : Int) % (1 + (i : Nat)) = 0)).map (fun (i : Nat) => 1 + (i : Int)) = ps at hA
        have pmem : ∀ z ∈ ps, 1 ≤ z ∧ z ≤ n := fun z hz => by
          rw [← hps] at hz
          obtain ⟨i, hi, rfl⟩ := List.mem_map.mp hz
          have := List.mem_range.mp (List.mem_filter.mp hi).1
          omega
        have plen : ps.length ≤ n := by
          rw [← hps, List.length_map]
          exact Nat.le_trans (List.length_filter_le _ _) (by rw [List.length_range]; exact Nat.le_refl _)
        have ppos : 0 < ps.length := by
          refine List.length_pos_of_mem (a := 1) ?_
          rw [← hps]
          refine List.mem_map.mpr ⟨0, List.mem_filter.mpr ⟨List.mem_range.mpr (by omega), decide_eq_true ?_⟩, rfl⟩
          show (n : Int) % 1 = 0
          omega
        refine ⟨_, rfl, _, rfl, _, rfl, A1, _, rfl, .inl (SqL.of hA), ?_⟩
        rw [List.length_map]
        refine ⟨b, l, _, c + 1, rfl, by omega, by omega, hB1.same s2, by omega, fun H3 k hB3 s3 k0 k1 => ?_⟩
        have hA3 := s3 _ _ hA0.1 hA0.2 hA
        have hk : k.toNat < ps.length := by omega
        have hz : ps[k.toNat]? = some ps[k.toNat] := List.getElem?_eq_getElem hk
        have hzb := pmem _ (List.getElem_mem hk)
        generalize ps[k.toNat] = z at hz hzb
        obtain ⟨sz, rfl⟩ : ∃ sz : Nat, z = sz := ⟨z.toNat, by omega⟩
        refine ⟨_, _, _, _, rfl, rfl, SqL.of hA3, at_int k0 (vI_at hz), ?_⟩
        refine ⟨_, rfl, _, rfl, _, rfl, RgOk.of_le (by omega) (by omega) (by omega) (by omega), fun t nt => ?_⟩
        rw [rgV_vI]
        have ht := hB3.new nt
        have st := same_new (o := .lst (vI ((List.range sz).map fun (i : Nat) => (i : Int)))) nt
        refine ⟨b, l, t, _, c + 1 + 1, rfl, hB3.same st, by omega, ⟨ht.1, ht.2, upd_same⟩, by rw [List.length_map, List.length_range]; omega, fun H4 p ms hB4 s4 hO hp => ?_⟩
        have mlen : ms.length = sz := by rw [hp.length_eq, List.length_map, List.length_range]
        have mnd : ms.Nodup := hp.nodup_iff.mpr (nodup_map fun i j _ _ e => by omega)
        have mmem : ∀ y ∈ ms, 0 ≤ y ∧ y < sz := fun y hy => by
          have := hp.mem_iff.mp hy
          obtain ⟨i, hi, rfl⟩ := List.mem_map.mp this
          have := List.mem_range.mp hi
          omega
        refine ⟨_, rfl, (n : Int), rfl, by omega, by omega, fun L nL => ?_⟩
        refine lc_vals walk_range (fun _ => true) (fun i => .int (ms.getD (i % sz) 0 * n + ((i / sz : Nat) : Int))) nL (by omega) (fun _ _ => trivial) yFn_same ?_ ?_
        · rintro i x H5 H6 hi s5 ⟨rfl, rfl⟩ k k0 hk hk0
          have i0 : (0 : Int) + (i : Nat) = (i : Int) := by omega
          dsimp only
          rw [i0]
          have hlt : i % sz < ms.length := by rw [mlen]; exact Nat.mod_lt _ (by omega)
          have hg : ms[i % sz]? = some (ms.getD (i % sz) 0) := by rw [List.getD_eq_getElem?_getD, List.getElem?_eq_getElem hlt]; rfl
          have hm := mmem _ (List.mem_of_getElem? hg)
          have em : ((i : Int) % (sz : Int)).toNat = i % sz := by rw [← Int.natCast_emod]; exact Int.toNat_natCast _
          refine ⟨rfl, yesT ?_⟩
          refine ⟨_, rfl, _, rfl, _, rfl, _, _, rfl, rfl, (show (0 : Int) < sz by omega), p, vI ms, _, _, rfl, rfl, SqL.of (s5 _ _ hO.2.2), at_int (Int.emod_nonneg _ (by omega)) (vI_at (by rw [em]; exact hg)), ?_⟩
          refine ⟨_, rfl, _, _, rfl, rfl, .inl ⟨by omega, by omega⟩, _, rfl, _, rfl, _, _, rfl, rfl, ⟨by omega, by omega⟩, _, _, rfl, rfl, ?_⟩
          have := hk rfl _ (Same.refl _)
          rw [Int.natCast_ediv] at this
          exact this
        · intro H5 s5 hL
          rw [filt_vI, filter_all] at hL
          have hL0 := hB4.new nL
          have en : ((n : Int)).toNat = n := by omega
          rw [en] at hL
          refine q _ L _ ((hB4.same s5).le (by omega)) (s1.trans (s2.sb.trans (s3.trans (st.sb.trans (s4.trans s5.sb))))) ⟨hL0.1, hL0.2, hL⟩ (nodup_map fun i j hi hj e => ?_) (by rw [List.length_map, List.length_range])
          have hlt : ∀ i, i % sz < ms.length := fun i => by rw [mlen]; exact Nat.mod_lt _ (by omega)
          have hgi : ∀ i, ms.getD (i % sz) 0 = ms[i % sz]'(hlt i) := fun i => by rw [List.getD_eq_getElem?_getD, List.getElem?_eq_getElem (hlt i)]; rfl
          have e1 : ms.getD (i % sz) 0 * (n : Int) + ((i / sz : Nat) : Int) = ms.getD (j % sz) 0 * (n : Int) + ((j / sz : Nat) : Int) := e
          have hq : ∀ i, i < n → i / sz < n := fun i h => Nat.lt_of_le_of_lt (Nat.div_le_self _ _) h
          have d1 : ms.getD (i % sz) 0 = ms.getD (j % sz) 0 ∧ i / sz = j / sz := by
            have h1 := hq i hi
            have h2 := hq j hj
            generalize ms.getD (i % sz) 0 = u at e1
            generalize ms.getD (j % sz) 0 = v at e1
            generalize i / sz = a1 at e1 h1
            generalize j / sz = b1 at e1 h2
            have m1 : (u * (n : Int) + (a1 : Int)) / (n : Int) = u := by
              rw [Int.add_comm, Int.add_mul_ediv_right _ _ (by omega), Int.ediv_eq_zero_of_lt (by omega) (by omega), Int.zero_add]
            have m2 : (v * (n : Int) + (b1 : Int)) / (n : Int) = v := by
              rw [Int.add_comm, Int.add_mul_ediv_right _ _ (by omega), Int.ediv_eq_zero_of_lt (by omega) (by omega), Int.zero_add]
            have uv : u = v := by rw [← m1, ← m2, e1]
            subst uv
            exact ⟨rfl, by omega⟩
          have d2 : i % sz = j % sz := by
            have := d1.1
            rw [hgi, hgi] at this
            have pw := List.pairwise_iff_getElem.mp mnd
            rcases Nat.lt_trichotomy (i % sz) (j % sz) with z | z | z
            · exact absurd this (pw _ _ (hlt i) (hlt j) z)
            · exact z
            · exact absurd this.symm (pw _ _ (hlt j) (hlt i) z)
          have := Nat.div_add_mod i sz
          have := Nat.div_add_mod j sz
          rw [← d2, ← d1.2] at this
          omega
    rw [decide_eq_false (fun e => c4 (V.int.inj e))]
    refine iteF ?_
    refine ⟨_, rfl, (n : Int), rfl, by omega, by omega, fun L nL => ?_⟩
    refine lc_vals walk_range (fun _ => true) (fun i => .int (fbk i)) nL (by omega) (fun _ _ => trivial) yFn_same ?_ ?_
    · rintro i x H2 H3 hi s2 ⟨rfl, rfl⟩ k k0 hk hk0
      have i0 : (0 : Int) + (i : Nat) = (i : Int) := by omega
      dsimp only
      rw [i0]
      refine ⟨rfl, yesT ?_⟩
      exact ⟨_, rfl, i, rfl, fun H4 s4 => hk rfl _ s4⟩
    · intro H2 s2 hL
      rw [filt_vI, filter_all] at hL
      have hL0 := hB1.new nL
      refine q _ L _ ((hB1.same s2).le (by omega)) (s1.trans s2.sb) ⟨hL0.1, hL0.2, hL⟩ (nodup_map fun i j hi hj e => ?_) (by rw [List.length_map, List.length_range]; omega)
      have e' : ((fbj i 6 : Nat) : Int) = ((fbj j 6 : Nat) : Int) := e
      exact fbk_inj i (by omega) j (by omega) (by omega)
end
end K62

set_option Elab.async false
set_option linter.all false
set_option maxRecDepth 100000
set_option maxHeartbeats 4000000
namespace K62
open PySem PySem.Spec PyProof.Rows L2
section
variable {P : Program} {w : World} {K : PySem.W.Frag} {mg : Str → Option Value} {base : Heap}
abbrev s27 : Stmt := topS 27
theorem sc27 : FnScope ["_law_box_here", "_law_most", "_law_many", "_law_places_here", "_law_gap", "_law_place"] ["_law_box_here", "_law_most"] (defScope s27) := ⟨rfl, rfl, rfl, by decide +kernel, rfl, by decide +kernel, by decide +kernel⟩
abbrev D27 (K : PySem.W.Frag) (mg : Str → Option Value) := Df K mg "_law_small_ring" s27 ["_law_box_here", "_law_most"]
def spSmall : Sp := fun vs H Q _ => ∃ (b l : Addr) (c : Int), vs = [.ref b, .int 11] ∧ Box H b l c ∧ c ≤ 700000 ∧
  ∀ H' r ring, Box H' b l (c + 30) → SameB b l H H' → IntsT H' r ring → 0 < ring.length → ring.length ≤ 11 → ring.Nodup → Q (.ref r) H'
theorem ok_small (D : D27 K mg) (T : Txt mg) (D__law_places : D23 K mg) (D__law_draw : D20 K mg) (D__law_mixed_up : D21 K mg) (D__law_from_behind : D22 K mg) : FnOk P w K mg base CX0 4 D.f D.fd ["_law_box_here", "_law_most"] spSmall := by
  have G__law_draw : FnOk P w K mg base CX0 1 _ _ _ _ := ok_draw D__law_draw T
  have G__law_places : FnOk P w K mg base CX0 3 _ _ _ _ := ok_places D__law_places T D__law_draw D__law_mixed_up D__law_from_behind
  refine D.F.ok sc27 (fun vs H Q E h => ?_) (fun cdv A outer s H vs Q E hr h => ?_)
  · obtain ⟨b, l, c, rfl, _⟩ := h
    rfl
  · obtain ⟨b, l, c, rfl, hB, hc, q⟩ := h
    refine ⟨_, (pss_cons (ps_set (i := 2) sc27.nd rfl (Or.inl rfl) (pe_op op_add pe_int (pe_call G__law_draw (hr.mono (by decide)) (by rfl) D__law_draw.g D__law_draw.F.kp D__law_draw.b .nil pass0 (pa_cons (pv 0) (pa_cons (pv 1) pa_nil)))))
  (pss_cons (ps_set (i := 3) sc27.nd rfl (Or.inl rfl) (pe_call G__law_places (hr.mono (by decide)) (by rfl) D__law_places.g D__law_places.F.kp D__law_places.b .nil pass0 (pa_cons (pv 0) (pa_cons (pv 2) pa_nil))))
  (pss_cons (ps_set (i := 4) sc27.nd rfl (Or.inr rfl) (pe_op op_add pe_int (pe_call G__law_draw (hr.mono (by decide)) (by rfl) D__law_draw.g D__law_draw.F.kp D__law_draw.b .nil pass0 (pa_cons (pv 0) (pa_cons pe_int pa_nil)))))
  (pss_one (ps_ret (pe_callTy call_tuple_of (by rfl) T.tuple (by decide +kernel) (pa_cons (pe_lc (own := [("_law_place", 5)]) (g := (gName 5)) (tt := tYes) (te := (tOp (rAddI) (tOp (rMulI) (tVar 4) (tVar 5)) (tC (.int 5)))) rfl sc27.nd (pi_list (pv 3)) (blkOk_by (N := ["_law_box_here", "_law_most", "_law_many", "_law_places_here", "_law_gap", "_law_place"]) (sc := defScope (topS 27)) (by decide +kernel)) (fun _ _ _ _ _ => (pg_name (i := 5) sc27.nd rfl (Or.inl rfl) (Or.inr rfl))) (fun _ _ _ _ _ => pts_nil) (fun _ _ _ _ _ => (pe_op op_add (pe_op op_mul (pv 4) (pv 5)) pe_int))) pa_nil))))))), ?_⟩
    refine ⟨_, rfl, _, rfl, b, l, 11, c, rfl, by omega, by omega, hB, by omega, fun H1 r hB1 s1 r0 r1 => ?_⟩
    obtain ⟨n, rfl⟩ : ∃ n : Nat, r = n := ⟨r.toNat, by omega⟩
    refine ⟨_, _, rfl, rfl, ?_⟩
    have e1 : (1 : Int) + (n : Int) = ((n + 1 : Nat) : Int) := by omega
    refine ⟨_, rfl, _, rfl, b, l, n + 1, c + 1, by rw [← e1]; rfl, hB1, by omega, by omega, by omega, fun H2 p ps hB2 s2 hO nd hlen => ?_⟩
    refine ⟨_, rfl, b, l, 9, c + 1 + 20, rfl, by omega, by omega, hB2, by omega, fun H3 g hB3 s3 g0 g1 => ?_⟩
    refine ⟨_, _, rfl, rfl, ?_⟩
    have hp3 := s3 _ _ hO.1 hO.2.1 hO.2.2
    refine ⟨_, rfl, p, rfl, ⟨_, SqL.of hp3⟩, fun L nL => ?_⟩
    refine lc_vals (walk_list (K := K) (a := p) (xs := vI ps)) (fun _ => true) (fun i => .int ((1 + g) * ps.getD i 0 + 5)) nL (by rw [List.length_map]; omega) (fun H5 s5 => SqL.of (s5 _ _ hp3)) yAt_same ?_ ?_
    · rintro i x H5 H6 hi s5 ⟨rfl, hx⟩ k k0 hk hk0
      obtain ⟨z, hz, rfl⟩ := of_vI hx
      have eg : ps.getD i 0 = z := by rw [List.getD_eq_getElem?_getD, hz]; rfl
      rw [eg] at hk
      refine ⟨rfl, yesT ?_⟩
      exact ⟨_, rfl, _, rfl, _, _, rfl, rfl, .inl ⟨by omega, by omega⟩, _, _, rfl, rfl, hk rfl _ (Same.refl _)⟩
    · intro H5 s5 hL
      have e2 : ((List.range (vI ps).length).filter (fun _ => true)).map (fun i => V.int ((1 + g) * ps.getD i 0 + 5)) = vI (ps.map fun x => (1 + g) * x + 5) := by
        rw [filter_all, List.length_map, range_map_getD ps 0 (fun x => V.int ((1 + g) * x + 5))]
        show _ = List.map V.int _
        rw [List.map_map]
        rfl
      rw [e2] at hL
      refine ⟨L, _, rfl, .inl ⟨SqL.of hL, fun t nt => ?_⟩⟩
      have st := same_new (o := .tup (vI (ps.map fun x => (1 + g) * x + 5))) nt
      refine q _ t _ (((hB3.same s5).same st).le (by omega)) (s1.trans (s2.trans (s3.trans (s5.sb.trans st.sb)))) tup_new (by rw [List.length_map]; omega) (by rw [List.length_map]; omega) ?_
      rw [List.Nodup, List.pairwise_map]
      refine nd.imp fun {x y} hxy e => hxy ?_
      have e' : (1 + g) * x = (1 + g) * y := by omega
      exact Int.eq_of_mul_eq_mul_left (by omega) e'
end
end K62

set_option Elab.async false
set_option linter.all false
set_option maxRecDepth 100000
set_option maxHeartbeats 4000000
namespace K62
open PySem PySem.Spec PyProof.Rows L2
theorem eqvAll_ints : ∀ xs ys : List Int, PyData.eqvAll (xs.map PyData.int) (ys.map PyData.int) = decide (xs = ys)
  | [], [] => rfl
  | [], _ :: _ => by rw [decide_eq_false (by intro e; cases e)]; rfl
  | _ :: _, [] => by rw [decide_eq_false (by intro e; cases e)]; rfl
  | x :: xs, y :: ys => by
    show ((x == y) && PyData.eqvAll (xs.map PyData.int) (ys.map PyData.int)) = _
    rw [eqvAll_ints xs ys]
    by_cases h : x = y
    · subst h
      by_cases h2 : xs = ys
      · subst h2; simp
      · simp [h2]
    · simp [h]
theorem shaped_tup {ds : List PyData} (h1 : PyData.canLayAll0 ds = true) (h2 : PyData.depthAll ds ≤ 60) : SeqAt.shaped (.tuple ds) = true := by
  show (PyData.canLayAll0 ds && decide (PyData.depth (.tuple ds) ≤ 64)) = true
  rw [h1, Bool.true_and]
  refine decide_eq_true ?_
  show PyData.depthAll ds + 1 ≤ 64
  omega
/-- a tuple of ints as data -/
theorem dp_tup {K : PySem.W.Frag} {H : Hp} {a : Addr} (ns : List Int) (h : TupA H a (vI ns)) : Dp K H (.ref a) (.tuple (ns.map PyData.int)) := .tup (tup_sq h) (dpAll_ints _ ns)
theorem shaped_ints (ns : List Int) : SeqAt.shaped (.tuple (ns.map PyData.int)) = true := shaped_tup (layAll_ints ns) (Nat.le_trans (depthAll_ints ns) (by decide))
theorem eqv_tup (xs ys : List Int) : PyData.eqv (.tuple (xs.map PyData.int)) (.tuple (ys.map PyData.int)) = decide (xs = ys) := eqvAll_ints xs ys
abbrev rowD (row : List Int) : PyData := .list (row.map PyData.int)
theorem eqvAll_rows : ∀ xs ys : List (List Int), PyData.eqvAll (xs.map rowD) (ys.map rowD) = decide (xs = ys)
  | [], [] => rfl
  | [], _ :: _ => by rw [decide_eq_false (by intro e; cases e)]; rfl
  | _ :: _, [] => by rw [decide_eq_false (by intro e; cases e)]; rfl
  | x :: xs, y :: ys => by
    show (PyData.eqvAll (x.map PyData.int) (y.map PyData.int) && PyData.eqvAll (xs.map rowD) (ys.map rowD)) = _
    rw [eqvAll_rows xs ys, eqvAll_ints]
    by_cases h : x = y
    · subst h
      by_cases h2 : xs = ys
      · subst h2; simp
      · simp [h2]
    · simp [h]
theorem layAll_rows : ∀ ns : List (List Int), PyData.canLayAll0 (ns.map rowD) = true
  | [] => rfl
  | n :: ns => by
    show (PyData.canLayAll0 (n.map PyData.int) && PyData.canLayAll0 (ns.map rowD)) = true
    rw [layAll_rows ns, layAll_ints]
    rfl
theorem depthAll_rows : ∀ ns : List (List Int), PyData.depthAll (ns.map rowD) ≤ 2
  | [] => by decide
  | n :: ns => by
    have h := depthAll_rows ns
    have h1 := depthAll_ints n
    show max (PyData.depthAll (n.map PyData.int) + 1) (PyData.depthAll (ns.map rowD)) ≤ 2
    omega
section
variable {J : It} {n : Nat} {G : Hp → Prop} {Y : Nat → Hp → V → Hp → Prop} {g : TG} {tt : TT} {te : TE} {vs : List Nat} {σ : L2.St} {H0 : Hp} {D : Addr} {Qd : Hp → Prop}
/-- things at addresses that are not the list itself -/
theorem lc_refsD {α : Type} (F : Hp → Addr → α → Prop) (hF : ∀ H H' b x, Same H H' → F H b x → F H' b x) (hFD : ∀ H b x xs ys, H D = some (.lst xs) → F H b x → F (upd H D (.lst ys)) b x)
    (w : Walk J n G Y) (f : Nat → α) (hD : H0 D = none) (hn : n ≤ 1000) (hG : ∀ H, Same H0 H → G H) (hY : ∀ i H x H', Y i H x H' → Same H H')
    (hs : ∀ i x H H' u, i < n → Same H0 H → Y i H x H' → H' D = some u → ∀ (k : V → Hp → Prop) (k0 : Hp → Prop), (∀ b H4, Same H' H4 → F H4 b (f i) → k (.ref b) H4) →
      g x (wipe σ vs) H' fun σ2 H2 => wipe σ2 vs = wipe σ vs ∧ tt σ2 H2 fun b H3 => if b = true then te σ2 H3 k else k0 H3)
    (hd : ∀ H, Same H0 H → LstOf F H D ((List.range n).map f) → Qd H) :
    ∃ W : Nat → Nat → Hp → Prop, (∃ m, W 0 m (upd H0 D (.lst []))) ∧ ∀ i m H, W i m H →
      (J.stop i H ∧ Qd H) ∨ (J.go i H ∧ ∃ Nx : Hp → Prop, (∀ H', Nx H' → ∃ m', m' < m ∧ W (i + 1) m' H') ∧ ∀ x H', J.yld i H x H' → g x (wipe σ vs) H' fun σ2 H2 => wipe σ2 vs = wipe σ vs ∧ tt σ2 H2 fun b H3 =>
        if b = true then te σ2 H3 fun y H4 => ∃ acc, H4 D = some (.lst acc) ∧ acc.length < sizeLine ∧ Nx (upd H4 D (.lst (acc ++ [y]))) else Nx H3) := by
  refine lc_it w (fun i H => Same H0 H ∧ LstOf F H D ((List.range i).map f)) ⟨same_new hD, [], upd_same, .nil⟩ (fun i H _ h => hG H h.1) (fun i x H H' hi h y => ?_) (fun H h => hd H h.1 h.2)
  obtain ⟨h1, as, h2, h3⟩ := h
  have sY := hY _ _ _ _ y
  have hlen : (vR as).length ≤ 1000 := by
    rw [List.length_map, Paired.length h3, List.length_map, List.length_range]
    omega
  refine hs i x H H' _ hi h1 y (sY _ _ h2) _ _ (fun b H4 s4 hb => ?_)
  have e4 := s4 _ _ (sY _ _ h2)
  refine ⟨_, e4, szlt hlen, same_mut (h1.trans (sY.trans s4)) hD, as ++ [b], ?_, ?_⟩
  · rw [upd_same, vR_snoc]
  · rw [List.range_succ, List.map_append, List.map_singleton]
    exact PySem.Paired.snoc (L2.Paired.mapP h3 fun _ _ q => hFD _ _ _ _ _ e4 (hF _ _ _ _ (sY.trans s4) q)) (hFD _ _ _ _ _ e4 hb)
end
theorem filt_list {α β : Type} (l : List α) (d : α) (p : α → Bool) (g : α → β) : ((List.range l.length).filter fun i => p (l.getD i d)).map (fun i => g (l.getD i d)) = (l.filter p).map g := by
  have e : (List.range l.length).map (fun i => l.getD i d) = l := by
    have := range_map_getD l d id
    rw [List.map_id] at this
    exact this
  have h2 : (((List.range l.length).map fun i => l.getD i d).filter p).map g = (l.filter p).map g := by rw [e]
  rw [← h2, List.filter_map, List.map_map]
  rfl
section
variable {P : Program} {w : World} {K : PySem.W.Frag} {mg : Str → Option Value} {base : Heap}
abbrev s25 : Stmt := topS 25
theorem sc25 : FnScope ["_law_turn", "_law_house", "_law_side", "_law_letters", "_law_one", "_law_which"] ["_law_turn", "_law_house", "_law_side"] (defScope s25) := ⟨rfl, rfl, rfl, by decide +kernel, rfl, by decide +kernel, by decide +kernel⟩
abbrev D25 (K : PySem.W.Frag) (mg : Str → Option Value) := Df K mg "_law_told" s25 ["_law_turn", "_law_house", "_law_side"]
def spLTold : Sp := fun vs H Q _ => ∃ (a : Addr) (h s : Int) (t : Tr), vs = [.ref a, .int h, .int s] ∧ TurnT H a t ∧ t.length ≤ 900 ∧ ∀ H', Same H H' → Q (.int (tl t h s)) H'
theorem ok_ltold (D : D25 K mg) (T : Txt mg) : FnOk P w K mg base CX0 1 D.f D.fd ["_law_turn", "_law_house", "_law_side"] spLTold := by
  refine D.F.ok sc25 (fun vs H Q E h => ?_) (fun cdv A outer s H vs Q E hr h => ?_)
  · obtain ⟨a, h, s, t, rfl, _⟩ := h
    rfl
  · obtain ⟨a, h, sd, t, rfl, ⟨as, hA, hP⟩, hlen, q⟩ := h
    have hl := Paired.length hP
    refine ⟨_, (pss_one (ps_ret (pe_callB (cr_sum rfl) (by rfl) T.sum (by decide +kernel) (pa_cons (pe_lc (own := [("_law_one", 4), ("_law_which", 5), ("_law_letters", 3)]) (g := (gTup K 3 (gCons (gName 4) (gCons (gName 5) (gCons (gName 3) gNil))))) (tt := (tTest (tOp (rEqD K) (tTup (tCons (tVar 4) (tCons (tVar 5) tNil))) (tTup (tCons (tVar 1) (tCons (tVar 2) tNil)))))) (te := (tVar 3)) rfl sc25.nd (pi_tup (pv 0)) (blkOk_by (N := ["_law_turn", "_law_house", "_law_side", "_law_letters", "_law_one", "_law_which"]) (sc := defScope (topS 25)) (by decide +kernel)) (fun _ _ _ _ _ => (pg_tup (n := 3) rfl (pgs_cons (pg_name (i := 4) sc25.nd rfl (Or.inl rfl) (Or.inr rfl)) (pgs_cons (pg_name (i := 5) sc25.nd rfl (Or.inl rfl) (Or.inr rfl)) (pgs_cons (pg_name (i := 3) sc25.nd rfl (Or.inl rfl) (Or.inr rfl)) pgs_nil))) rfl rfl)) (fun _ _ _ _ _ => (pts_one (pt_cmpR (op_eqD hr.units) (pe_tup (pa_cons (pv 4) (pa_cons (pv 5) pa_nil))) (pe_tup (pa_cons (pv 1) (pa_cons (pv 2) pa_nil))) (nomark _)))) (fun _ _ _ _ _ => (pv 3))) pa_nil)))), ?_⟩
    refine ⟨_, rfl, a, rfl, ⟨_, tup_sq hA⟩, fun L nL => ?_⟩
    refine lc_vals (walk_tup (K := K) (a := a) (xs := vR as)) (fun i => decide ((t.getD i (0, 0, 0)).1 = h ∧ (t.getD i (0, 0, 0)).2.1 = sd)) (fun i => .int (t.getD i (0, 0, 0)).2.2) nL (by rw [List.length_map]; omega) (fun H1 s1 => tup_sq (TupA.same s1 hA)) yAt_same ?_ ?_
    · rintro i x H1 H2 hi s1 ⟨rfl, hx⟩ k k0 hk hk0
      obtain ⟨b, hb, rfl⟩ := of_vR hx
      obtain ⟨e, he, hE⟩ := paired_get hP hb
      have hE1 : TripT H2 b e := TupA.same s1 hE
      have eg : t.getD i (0, 0, 0) = e := by rw [List.getD_eq_getElem?_getD, he]; rfl
      rw [eg] at hk hk0
      refine ⟨b, _, rfl, tup_sq hE1, rfl, _, _, rfl, _, _, rfl, _, _, rfl, rfl, ?_⟩
      refine ⟨rfl, ?_⟩
      refine ⟨_, rfl, _, rfl, small2, fun p np => ?_⟩
      refine ⟨_, rfl, _, rfl, small2, fun p2 np2 => ?_⟩
      have s3 := (same_new (o := .tup [.int e.1, .int e.2.1]) np).trans (same_new (o := .tup [.int h, .int sd]) np2)
      refine ⟨_, _, dp_tup [e.1, e.2.1] (TupA.same (same_new np2) tup_new), dp_tup [h, sd] tup_new, shaped_ints _, shaped_ints _, ?_⟩
      rw [eqv_tup]
      refine ⟨_, rfl, ?_⟩
      have ed : decide ([e.1, e.2.1] = [h, sd]) = decide (e.1 = h ∧ e.2.1 = sd) := by
        by_cases c : e.1 = h ∧ e.2.1 = sd
        · rw [decide_eq_true c, c.1, c.2]; exact decide_eq_true rfl
        · rw [decide_eq_false c]
          refine decide_eq_false fun z => c ?_
          injection z with z1 z2
          injection z2 with z2 z3
          exact ⟨z1, z2⟩
      rw [ed]
      cases hb : decide (e.1 = h ∧ e.2.1 = sd) with
      | true => exact ⟨_, rfl, hk hb _ s3⟩
      | false => exact hk0 hb _ s3
    · intro H1 s1 hL
      have e1 : ((List.range (vR as).length).filter (fun i => decide ((t.getD i (0, 0, 0)).1 = h ∧ (t.getD i (0, 0, 0)).2.1 = sd))).map (fun i => V.int (t.getD i (0, 0, 0)).2.2) = vI ((t.filter fun e => decide (e.1 = h ∧ e.2.1 = sd)).map (·.2.2)) := by
        show _ = List.map V.int _
        rw [List.length_map, hl, filt_list t (0, 0, 0) (fun e => decide (e.1 = h ∧ e.2.1 = sd)) (fun e => V.int e.2.2), List.map_map]
        rfl
      rw [e1] at hL
      exact ⟨L, _, rfl, SqL.of hL, q _ s1⟩
/-! ### how names stand to each other -/
abbrev s24 : Stmt := topS 24
theorem sc24 : FnScope ["_law_ring", "_law_house", "_law_sight", "_law_many", "_law_names", "_law_step", "_law_one", "_law_other"] ["_law_ring", "_law_house", "_law_sight"] (defScope s24) := ⟨rfl, rfl, rfl, by decide +kernel, rfl, by decide +kernel, by decide +kernel⟩
abbrev D24 (K : PySem.W.Frag) (mg : Str → Option Value) := Df K mg "_law_order" s24 ["_law_ring", "_law_house", "_law_sight"]
def sgn (x y : Int) : Int := (if decide (x < y) then 1 else 0) - (if decide (y < x) then 1 else 0)
def mat (ns : List Int) : List (List Int) := ns.map fun x => ns.map fun y => sgn x y
/-- a new list of new lists -/
def MatN (H H' : Hp) (r : Addr) (m : List (List Int)) : Prop := H r = none ∧ LstOf (fun H' b row => H b = none ∧ H' b = some (.lst (vI row))) H' r m
def spLOrder : Sp := fun vs H Q _ => ∃ (a p : Addr) (h l r : Int) (ring : List Int), vs = [.ref a, .int h, .ref p] ∧ IntsT H a ring ∧ PairT H p (l, r) ∧ 0 < ring.length ∧ ring.length ≤ 900 ∧ 0 ≤ l ∧ 0 ≤ r ∧ l + r ≤ 60 ∧
  ∀ H' q, Same H H' → MatN H H' q (mat (namesAt ring h l r)) → Q (.ref q) H'
theorem ok_lorder (D : D24 K mg) (T : Txt mg) : FnOk P w K mg base CX0 1 D.f D.fd ["_law_ring", "_law_house", "_law_sight"] spLOrder := by
  refine D.F.ok sc24 (fun vs H Q E h => ?_) (fun cdv A outer s H vs Q E hr h => ?_)
  · obtain ⟨a, p, h, l, r, ring, rfl, _⟩ := h
    rfl
  · obtain ⟨a, p, h, l, r, ring, rfl, hR, hS, hn, hn2, hl, hrr, hlr, q⟩ := h
    have hlen : ((vI ring).length : Int) = (ring.length : Int) := by rw [List.length_map]
    refine ⟨_, (pss_cons (ps_set (i := 3) sc24.nd rfl (Or.inr rfl) (pe_callB call_len_seq (by rfl) T.len (by decide +kernel) (pa_cons (pv 0) pa_nil)))
  (pss_cons (ps_set (i := 4) sc24.nd rfl (Or.inr rfl) (pe_lc (own := [("_law_step", 5)]) (g := (gName 5)) (tt := tYes) (te := (tOp (rIxT K) (tVar 0) (tOp (rModI) (tOp (rAddI) (tVar 1) (tVar 5)) (tVar 3)))) rfl sc24.nd (pi_range2 (by rfl) T.range (pa_cons (pe_un un_neg (pe_ix ix_tup (pv 2) pe_int (fun _ _ => rfl))) (pa_cons (pe_op op_add (pe_ix ix_tup (pv 2) pe_int (fun _ _ => rfl)) pe_int) pa_nil))) (blkOk_by (N := ["_law_ring", "_law_house", "_law_sight", "_law_many", "_law_names", "_law_step", "_law_one", "_law_other"]) (sc := defScope (topS 24)) (by decide +kernel)) (fun _ _ _ _ _ => (pg_name (i := 5) sc24.nd rfl (Or.inl rfl) (Or.inr rfl))) (fun _ _ _ _ _ => pts_nil) (fun _ _ _ _ _ => (pe_ix ix_tup (pv 0) (pe_op op_mod (pe_op op_add (pv 1) (pv 5)) (pv 3)) (fun _ _ => rfl)))))
  (pss_one (ps_ret (pe_lc (own := [("_law_one", 6)]) (g := (gName 6)) (tt := tYes) (te := (tLc (iList K (tVar 4)) (gName 7) tYes (tOp (rSubI) (tCB (rIntQ) (tCons (tOp (rLtI) (tVar 6) (tVar 7)) tNil)) (tCB (rIntQ) (tCons (tOp (rGtI) (tVar 6) (tVar 7)) tNil))) [7])) rfl sc24.nd (pi_list (pv 4)) (blkOk_by (N := ["_law_ring", "_law_house", "_law_sight", "_law_many", "_law_names", "_law_step", "_law_one", "_law_other"]) (sc := defScope (topS 24)) (by decide +kernel)) (fun _ _ _ _ _ => (pg_name (i := 6) sc24.nd rfl (Or.inr rfl) (Or.inl rfl))) (fun _ _ _ _ _ => pts_nil) (fun _ _ _ _ _ => (pe_lc (own := [("_law_other", 7)]) (g := (gName 7)) (tt := tYes) (te := (tOp (rSubI) (tCB (rIntQ) (tCons (tOp (rLtI) (tVar 6) (tVar 7)) tNil)) (tCB (rIntQ) (tCons (tOp (rGtI) (tVar 6) (tVar 7)) tNil)))) rfl sc24.nd (pi_list (pv 4)) (blkOk_by (N := ["_law_ring", "_law_house", "_law_sight", "_law_many", "_law_names", "_law_step", "_law_one", "_law_other"]) (sc := relS { kind := .function, names := [(".0", .local), ("_law_one", .cell), ("_law_names", .free)], isGenerator := false, isCoroutine := false } (defScope (topS 24))) (by decide +kernel)) (fun _ _ _ _ _ => (pg_name (i := 7) sc24.nd rfl (Or.inl rfl) (Or.inr rfl))) (fun _ _ _ _ _ => pts_nil) (fun _ _ _ _ _ => (pe_op op_sub (pe_callTy call_int1 (by rfl) T.int (by decide +kernel) (pa_cons (pe_cmpR op_lt (pv 6) (pv 7) (nomark _)) pa_nil)) (pe_callTy call_int1 (by rfl) T.int (by decide +kernel) (pa_cons (pe_cmpR op_gt (pv 6) (pv 7) (nomark _)) pa_nil))))))))))), ?_⟩
    refine ⟨_, rfl, a, vI ring, rfl, .inr (tup_sq hR), ?_⟩
    rw [hlen]
    refine ⟨_, rfl, p, _, 0, _, rfl, rfl, tup_sq hS, rfl, l, rfl, _, rfl, p, _, 1, _, rfl, rfl, tup_sq hS, rfl, r, 1, rfl, rfl, -l, r + 1, rfl, ⟨by omega, by omega, by omega, by omega⟩, fun N nN => ?_⟩
    have enum : (r + 1 - -l).toNat = (r + 1 + l).toNat := by omega
    rw [enum]
    refine lc_vals walk_range (fun _ => true) (fun i => .int (nm ring (h + (-l + (i : Nat))))) nN (by omega) (fun _ _ => trivial) yFn_same ?_ ?_
    · rintro i x H1 H2 hi s1 ⟨rfl, rfl⟩ k k0 hk hk0
      refine ⟨rfl, yesT ?_⟩
      refine ⟨_, rfl, _, rfl, _, rfl, _, _, rfl, rfl, _, rfl, _, _, rfl, rfl, by omega, a, vI ring, _, _, rfl, rfl, tup_sq (TupA.same s1 hR), at_int (Int.emod_nonneg _ (by omega)) (vI_at (nm_get hn _)), ?_⟩
      exact hk rfl _ (Same.refl _)
    · intro H1 s1 hN
      have eN : ((List.range (r + 1 + l).toNat).filter (fun _ => true)).map (fun i => V.int (nm ring (h + (-l + ((i : Nat) : Int))))) = vI (namesAt ring h l r) := by
        rw [filter_all, namesAt, vI, List.map_map]
        rfl
      rw [eN] at hN
      generalize hns : namesAt ring h l r = ns at hN q
      have nlen : ns.length ≤ 61 := by rw [← hns, namesAt_length]; omega
      refine ⟨_, rfl, N, rfl, ⟨_, SqL.of hN⟩, fun R nR => ?_⟩
      have nRH : H R = none := s1.free nR
      refine lc_refsD (fun H' b row => b ≠ R ∧ H b = none ∧ H' b = some (.lst (vI row))) (fun _ _ b x s h => ⟨h.1, h.2.1, s _ _ h.2.2⟩) (fun _ b x xs ys _ h => ⟨h.1, h.2.1, by rw [upd_ne h.1]; exact h.2.2⟩) (walk_list (K := K) (a := N) (xs := vI ns)) (fun i => ns.map fun y => sgn (ns.getD i 0) y) nR (by rw [List.length_map]; omega) (fun H5 s5 => SqL.of (s5 _ _ hN)) yAt_same ?_ ?_
      · rintro i x H2 H3 u hi s2 ⟨rfl, hx⟩ hu k k0 hk
        obtain ⟨z, hz, rfl⟩ := of_vI hx
        have eg : ns.getD i 0 = z := by rw [List.getD_eq_getElem?_getD, hz]; rfl
        rw [eg] at hk
        refine ⟨rfl, yesT ?_⟩
        have hN3 := s2 _ _ hN
        refine ⟨_, rfl, N, rfl, ⟨_, SqL.of hN3⟩, fun L nL => ?_⟩
        refine lc_vals (walk_list (K := K) (a := N) (xs := vI ns)) (fun _ => true) (fun i => .int (sgn z (ns.getD i 0))) nL (by rw [List.length_map]; omega) (fun H5 s5 => SqL.of (s5 _ _ hN3)) yAt_same ?_ ?_
        · rintro j x H4 H5 hj s4 ⟨rfl, hx⟩ k2 k02 hk2 hk02
          obtain ⟨y, hy, rfl⟩ := of_vI hx
          have eg2 : ns.getD j 0 = y := by rw [List.getD_eq_getElem?_getD, hy]; rfl
          rw [eg2] at hk2
          refine ⟨rfl, yesT ?_⟩
          refine ⟨_, rfl, _, rfl, _, _, rfl, rfl, .inr ⟨_, rfl, ?_⟩⟩
          refine ⟨_, rfl, _, rfl, _, _, rfl, rfl, .inr ⟨_, rfl, ?_⟩⟩
          exact ⟨_, _, rfl, rfl, hk2 rfl _ (Same.refl _)⟩
        · intro H4 s4 hL
          have e2 : ((List.range (vI ns).length).filter (fun _ => true)).map (fun i => V.int (sgn z (ns.getD i 0))) = vI (ns.map fun y => sgn z y) := by
            show _ = List.map V.int _
            rw [filter_all, List.length_map, range_map_getD ns 0 (fun y => V.int (sgn z y)), List.map_map]
            rfl
          rw [e2] at hL
          refine hk L _ s4 ⟨ne_of_none hu nL |>.symm, (s1.trans s2).free nL, hL⟩
      · intro H2 s2 hM
        have e2 : (List.range (vI ns).length).map (fun i => ns.map fun y => sgn (ns.getD i 0) y) = mat ns := by
          rw [List.length_map, range_map_getD ns 0 (fun x => ns.map fun y => sgn x y)]
          rfl
        rw [e2] at hM
        obtain ⟨as, ha, hp⟩ := hM
        exact q _ R (s1.trans s2) ⟨nRH, as, ha, L2.Paired.mapP hp fun _ _ h => h.2⟩
end
end K62

set_option Elab.async false
set_option linter.all false
set_option maxRecDepth 100000
set_option maxHeartbeats 4000000
namespace K62
open PySem PySem.Spec PyProof.Rows L2
theorem sgn_lt {x y a b : Int} (h : sgn x y = sgn a b) : x < y ↔ a < b := by
  unfold sgn at h
  by_cases c1 : x < y <;> by_cases c2 : y < x <;> by_cases c3 : a < b <;> by_cases c4 : b < a <;> simp [c1, c2, c3, c4] at h ⊢ <;> omega
theorem sgn_of {x y a b : Int} (h1 : x < y ↔ a < b) (h2 : y < x ↔ b < a) : sgn x y = sgn a b := by
  unfold sgn
  by_cases c1 : x < y <;> by_cases c2 : y < x <;> simp [c1, c2, ← h1, ← h2]
theorem mat_alike {xs ys : List Int} (h : mat xs = mat ys) : Alike xs ys := by
  have hl : xs.length = ys.length := by
    have := congrArg List.length h
    unfold mat at this
    rw [List.length_map, List.length_map] at this
    exact this
  refine ⟨hl, fun i j hi hj hi' hj' => sgn_lt ?_⟩
  have h1 : ((mat xs)[i]?).bind (fun r => r[j]?) = ((mat ys)[i]?).bind (fun r => r[j]?) := by rw [h]
  unfold mat at h1
  rw [List.getElem?_map, List.getElem?_map, List.getElem?_eq_getElem hi, List.getElem?_eq_getElem hi'] at h1
  simp only [Option.map_some, Option.bind_some, List.getElem?_map, List.getElem?_eq_getElem hj, List.getElem?_eq_getElem hj'] at h1
  exact Option.some.inj h1
theorem mat_of {xs ys : List Int} (h : Alike xs ys) : mat xs = mat ys := by
  obtain ⟨hl, h⟩ := h
  unfold mat
  refine List.ext_getElem (by rw [List.length_map, List.length_map, hl]) fun i h1 h2 => ?_
  rw [List.length_map] at h1 h2
  rw [List.getElem_map, List.getElem_map]
  refine List.ext_getElem (by rw [List.length_map, List.length_map, hl]) fun j h3 h4 => ?_
  rw [List.length_map] at h3 h4
  rw [List.getElem_map, List.getElem_map]
  exact sgn_of (h i j h1 h3 h2 h4) (h j i h3 h1 h4 h2)
theorem mat_ord {xs ys : List Int} : mat xs = mat ys ↔ ordOf xs = ordOf ys :=
  ⟨fun h => ord_of_alike (mat_alike h), fun h => mat_of (alike_of_ord h)⟩
theorem heard_iff {row : List Int} {t : Tr} {s a b : Int} (h0 : ∀ x, 0 ≤ tl t x s) :
    heard row t a s = heard row t b s ↔ tl t a s = tl t b s ∧ (0 < tl t b s → gI row a = gI row b) := by
  have ha := h0 a
  have hb := h0 b
  unfold heard
  by_cases c1 : 0 < tl t a s <;> by_cases c2 : 0 < tl t b s
  · rw [if_pos c1, if_pos c2]
    exact ⟨fun e => ⟨(Prod.mk.inj e).1, fun _ => (Prod.mk.inj e).2⟩, fun ⟨e1, e2⟩ => by rw [e1, e2 c2]⟩
  · rw [if_pos c1, if_neg c2]
    exact ⟨fun e => by have := (Prod.mk.inj e).1; omega, fun ⟨e1, _⟩ => by omega⟩
  · rw [if_neg c1, if_pos c2]
    exact ⟨fun e => by have := (Prod.mk.inj e).1; omega, fun ⟨e1, _⟩ => by omega⟩
  · rw [if_neg c1, if_neg c2]
    exact ⟨fun _ => ⟨by omega, fun z => absurd z c2⟩, fun _ => rfl⟩
/-- what is heard, without the tellers' numbers -/
def hd2 (n : Nat) (t : Tr) (h : Int) : Int × Int := (tl t (prv n h) 1, tl t (nxt n h) (-1))
theorem key_like {ring row : List Int} {t : Tr} {s : List (Int × Int)} (h0 : ∀ x d, 0 ≤ tl t x d) (a b : Int) :
    keyAt ring row t s a = keyAt ring row t s b ↔
      ((((gI row a = gI row b ∧ hd2 ring.length t a = hd2 ring.length t b ∧ gS s a = gS s b) ∧ (0 < (hd2 ring.length t b).1 → gI row (prv ring.length a) = gI row (prv ring.length b)))
        ∧ (0 < (hd2 ring.length t b).2 → gI row (nxt ring.length a) = gI row (nxt ring.length b)))
        ∧ mat (namesAt ring a (gS s a).1 (gS s a).2) = mat (namesAt ring b (gS s b).1 (gS s b).2)) := by
  unfold keyAt hd2
  rw [mat_ord]
  simp only [Prod.mk.injEq]
  rw [heard_iff (fun x => h0 x 1), heard_iff (fun x => h0 x (-1))]
  constructor
  · rintro ⟨h1, ⟨⟨h2, h3⟩, h4, h5⟩, h6, h7⟩
    exact ⟨⟨⟨⟨h1, ⟨h2, h4⟩, h6⟩, h3⟩, h5⟩, h7⟩
  · rintro ⟨⟨⟨⟨h1, ⟨h2, h4⟩, h6⟩, h3⟩, h5⟩, h7⟩
    exact ⟨h1, ⟨⟨h2, h3⟩, h4, h5⟩, h6, h7⟩
theorem prv_at {n i : Nat} (hi : i < n) : (prv n i).toNat = if i = 0 then n - 1 else i - 1 := by
  unfold prv
  by_cases c : i = 0
  · subst c
    rw [if_pos rfl]
    have : ((0 : Nat) : Int) - 1 = ((n : Int) - 1) + (n : Int) * (-1) := by omega
    rw [this, Int.add_mul_emod_self_left, Int.emod_eq_of_lt (by omega) (by omega)]
    omega
  · rw [if_neg c, Int.emod_eq_of_lt (by omega) (by omega)]
    omega
/-- xs[i - 1] with the end before the start -/
theorem atI_prv {xs : List V} {n i : Nat} (hl : xs.length = n) (hi : i < n) {v : V} (h : xs[(prv n i).toNat]? = some v) : atI xs ((i : Int) - 1) = some v := by
  rw [prv_at hi] at h
  unfold atI ixN
  by_cases c : i = 0
  · subst c
    rw [if_pos rfl] at h
    rw [if_neg (by omega), if_pos (by omega)]
    have : (((0 : Nat) : Int) - 1 + (xs.length : Int)).toNat = n - 1 := by omega
    rw [this]
    exact h
  · rw [if_neg c] at h
    rw [if_pos (by omega), if_pos (by omega)]
    have : ((i : Int) - 1).toNat = i - 1 := by omega
    rw [this]
    exact h
end K62

set_option Elab.async false
set_option linter.all false
set_option maxRecDepth 100000
set_option maxHeartbeats 4000000
namespace K62
open PySem PySem.Spec PyProof.Rows L2
theorem LstOf.to {α : Type} {F F' : Hp → Addr → α → Prop} {H : Hp} {a : Addr} {xs : List α} (h : LstOf F H a xs) (f : ∀ b x, F H b x → F' H b x) : LstOf F' H a xs :=
  let ⟨as, h1, h2⟩ := h; ⟨as, h1, L2.Paired.mapP h2 f⟩
theorem TurnOk.nn {n : Nat} {t : Tr} (h : TurnOk n t) : ∀ x d, 0 ≤ tl t x d := fun x d => tl_nonneg t (fun e he => (h.2 e he).2.2.2) x d
/-- a list of lists of ints -/
abbrev MatL (H : Hp) (b : Addr) (m : List (List Int)) : Prop := LstOf (fun H c row => H c = some (.lst (vI row))) H b m
theorem MatL.same {H H' : Hp} (s : Same H H') {b : Addr} {m : List (List Int)} (h : MatL H b m) : MatL H' b m := LstOf.mono (fun _ h => s _ _ h) (fun _ _ h => s _ _ h) h
theorem dpAll_rows {K : PySem.W.Frag} {H : Hp} : ∀ {as : List Addr} {m : List (List Int)}, Paired (fun c row => H c = some (.lst (vI row))) as m → DpAll K H (vR as) (m.map rowD)
  | _, _, .nil => .nil
  | _, _, .cons h r => .cons (.lst (SqL.of h) (dpAll_ints _ _)) (dpAll_rows r)
theorem dp_mat {K : PySem.W.Frag} {H : Hp} {b : Addr} {m : List (List Int)} (h : MatL H b m) : Dp K H (.ref b) (.list (m.map rowD)) := by
  obtain ⟨as, h1, h2⟩ := h
  exact .lst (SqL.of h1) (dpAll_rows h2)
theorem shaped_mat (m : List (List Int)) : SeqAt.shaped (.list (m.map rowD)) = true := shaped_list (layAll_rows m) (Nat.le_trans (depthAll_rows m) (by decide))
theorem eqv_mat (xs ys : List (List Int)) : PyData.eqv (.list (xs.map rowD)) (.list (ys.map rowD)) = decide (xs = ys) := eqvAll_rows xs ys
theorem eqv_pair (p q : Int × Int) : PyData.eqv (.tuple ([p.1, p.2].map PyData.int)) (.tuple ([q.1, q.2].map PyData.int)) = decide (p = q) := by
  rw [eqv_tup]
  obtain ⟨a, b⟩ := p
  obtain ⟨c, d⟩ := q
  by_cases h : a = c ∧ b = d
  · obtain ⟨rfl, rfl⟩ := h
    rw [decide_eq_true rfl, decide_eq_true rfl]
  · rw [decide_eq_false (fun e => h ⟨(Prod.mk.inj e).1, (Prod.mk.inj e).2⟩)]
    refine decide_eq_false fun z => h ?_
    injection z with z1 z2
    injection z2 with z2 z3
    exact ⟨z1, z2⟩
theorem dp_pp {K : PySem.W.Frag} {H : Hp} {a : Addr} {p : Int × Int} (h : PairT H a p) : Dp K H (.ref a) (.tuple ([p.1, p.2].map PyData.int)) := dp_tup [p.1, p.2] h
def hdl (n : Nat) (t : Tr) : List (Int × Int) := (List.range n).map fun (i : Nat) => hd2 n t (i : Int)
theorem hdl_at {n : Nat} {t : Tr} {i : Nat} (h : i < n) : (hdl n t)[i]? = some (hd2 n t (i : Int)) := by
  unfold hdl
  rw [List.getElem?_map, List.getElem?_range h]
  rfl
section
variable {P : Program} {w : World} {K : PySem.W.Frag} {mg : Str → Option Value} {base : Heap}
abbrev bS (a r sA tA : Addr) (n : Nat) (Lf Hd Lt : Addr) (rest : L2.St) : L2.St := some (.ref a) :: some (.ref r) :: some (.ref sA) :: some (.ref tA) :: some (.int (n : Int)) :: some (.ref Lf) :: some (.ref Hd) :: some (.ref Lt) :: rest
abbrev s26 : Stmt := topS 26
theorem sc26 : FnScope ["_law_ring", "_law_row", "_law_sights", "_law_turn", "_law_many", "_law_left", "_law_heard", "_law_later", "_law_house", "_law_near", "_law_right_here", "_law_orders", "_law_made", "_law_found", "_law_other", "_law_like"] ["_law_ring", "_law_row", "_law_sights", "_law_turn"] (defScope s26) := ⟨rfl, rfl, rfl, by decide +kernel, rfl, by decide +kernel, by decide +kernel⟩
abbrev D26 (K : PySem.W.Frag) (mg : Str → Option Value) := Df K mg "_law_behind" s26 ["_law_ring", "_law_row", "_law_sights", "_law_turn"]
def spLBehind : Sp := fun vs H Q _ => ∃ (a r sA tA : Addr) (ring row : List Int) (ss : List (Int × Int)) (t : Tr), vs = [.ref a, .ref r, .ref sA, .ref tA] ∧ IntsT H a ring ∧ IntsT H r row ∧ SightsL H sA ss ∧ TurnT H tA t ∧
  TurnOk ring.length t ∧ t.length ≤ 900 ∧ 0 < ring.length ∧ ring.length ≤ 11 ∧ row.length = ring.length ∧ ss.length = ring.length ∧ See ring.length (sightsB ss t) ∧
  ∀ H' p r' s', Same H H' → H s' = none → TupA H' p [.ref r', .ref s'] → RowF H' r' (rowB ring row t (sightsB ss t)) → SightsL H' s' (sightsB ss t) → Q (.ref p) H'
theorem ok_lbehind (D : D26 K mg) (T : Txt mg) (D__law_told : D25 K mg) (D__law_order : D24 K mg) : FnOk P w K mg base CX0 2 D.f D.fd ["_law_ring", "_law_row", "_law_sights", "_law_turn"] spLBehind := by
  have G__law_told : FnOk P w K mg base CX0 1 _ _ _ _ := ok_ltold D__law_told T
  have G__law_order : FnOk P w K mg base CX0 1 _ _ _ _ := ok_lorder D__law_order T
  refine D.F.ok sc26 (fun vs H Q E h => ?_) (fun cdv A outer s H vs Q E hr h => ?_)
  · obtain ⟨a, r, sA, tA, ring, row, ss, t, rfl, _⟩ := h
    rfl
  · obtain ⟨a, r, sA, tA, ring, row, ss, t, rfl, hR, hW, ⟨ass, hA, hP⟩, hT, hok, htl, hn, hn2, hrl, hsl, hsee, q⟩ := h
    have hnn := hok.nn
    have hlen : ((vI ring).length : Int) = (ring.length : Int) := by rw [List.length_map]
    have eN : ((ring.length : Int)).toNat = ring.length := by omega
    refine ⟨_, (pss_cons (ps_set (i := 4) sc26.nd rfl (Or.inr rfl) (pe_callB call_len_seq (by rfl) T.len (by decide +kernel) (pa_cons (pv 0) pa_nil)))
  (pss_cons (ps_set (i := 5) sc26.nd rfl (Or.inr rfl) (pe_lc (own := [("_law_house", 8)]) (g := (gName 8)) (tt := tYes) (te := (tCall (spLTold) [] E0 (tCons (tVar 3) (tCons (tOp (rModI) (tOp (rSubI) (tVar 8) (tC (.int 1))) (tVar 4)) (tCons (tC (.int 1)) tNil))))) rfl sc26.nd (pi_range1 (by rfl) T.range (pa_cons (pv 4) pa_nil)) (blkOk_by (N := ["_law_ring", "_law_row", "_law_sights", "_law_turn", "_law_many", "_law_left", "_law_heard", "_law_later", "_law_house", "_law_near", "_law_right_here", "_law_orders", "_law_made", "_law_found", "_law_other", "_law_like"]) (sc := defScope (topS 26)) (by decide +kernel)) (fun _ _ _ _ _ => (pg_name (i := 8) sc26.nd rfl (Or.inl rfl) (Or.inr rfl))) (fun _ _ _ _ _ => pts_nil) (fun _ _ _ _ _ => (pe_call G__law_told (hr.mono (by decide)) (by rfl) D__law_told.g D__law_told.F.kp D__law_told.b .nil pass0 (pa_cons (pv 3) (pa_cons (pe_op op_mod (pe_op op_sub (pv 8) pe_int) (pv 4)) (pa_cons pe_int pa_nil)))))))
  (pss_cons (ps_setLc (i := 6) (own := [("_law_house", 8)]) (g := (gName 8)) (tt := tYes) (te := (tTup (tCons (tOp (rIxL K) (tVar 5) (tVar 8)) (tCons (tCall (spLTold) [] E0 (tCons (tVar 3) (tCons (tOp (rModI) (tOp (rAddI) (tVar 8) (tC (.int 1))) (tVar 4)) (tCons (tUn (rU fun i => .int (-i)) (tC (.int 1))) tNil)))) tNil)))) rfl sc26.nd rfl rfl (sw_true rfl rfl rfl (by decide +kernel)) (pi_range1 (by rfl) T.range (pa_cons (pv 4) pa_nil)) (blkOk_by (N := ["_law_ring", "_law_row", "_law_sights", "_law_turn", "_law_many", "_law_left", "_law_heard", "_law_later", "_law_house", "_law_near", "_law_right_here", "_law_orders", "_law_made", "_law_found", "_law_other", "_law_like"]) (sc := defScope (topS 26)) (by decide +kernel)) (fun _ _ _ _ _ => (pg_name (i := 8) sc26.nd rfl (Or.inl rfl) (Or.inr rfl))) (fun _ _ _ _ _ => pts_nil) (fun _ _ _ _ _ => (pe_tup (pa_cons (pe_ix ix_list (pv 5) (pv 8) (fun _ _ => rfl)) (pa_cons (pe_call G__law_told (hr.mono (by decide)) (by rfl) D__law_told.g D__law_told.F.kp D__law_told.b .nil pass0 (pa_cons (pv 3) (pa_cons (pe_op op_mod (pe_op op_add (pv 8) pe_int) (pv 4)) (pa_cons (pe_un un_neg pe_int) pa_nil)))) pa_nil)))))
  (pss_cons (ps_set (i := 7) sc26.nd rfl (Or.inr rfl) (pe_lst pa_nil))
  (pss_cons (ps_for PassesOwn.never rfl (pi_range1 (by rfl) T.range (pa_cons (pv 4) pa_nil)) (pg_name (i := 8) sc26.nd rfl (Or.inl rfl) (Or.inr rfl))
  (pss_cons (ps_asg (pe_ix ix_list (pv 2) (pv 8) (fun _ _ => rfl)) (pg_tup (n := 2) rfl (pgs_cons (pg_name (i := 9) sc26.nd rfl (Or.inl rfl) (Or.inr rfl)) (pgs_cons (pg_name (i := 10) sc26.nd rfl (Or.inl rfl) (Or.inr rfl)) pgs_nil)) rfl rfl))
  (C8.pss_cut (ps_if (pt_cmpR op_gt (pe_ix ix_tup (pe_ix ix_list (pv 6) (pv 8) (fun _ _ => rfl)) pe_int (fun _ _ => rfl)) pe_int (nomark _))
  (pss_one (ps_set (i := 9) sc26.nd rfl (Or.inl rfl) (pe_callB (call_max2 rfl) (by rfl) T.max (by decide +kernel) (pa_cons (pv 9) (pa_cons (pe_op op_add (pe_ix ix_tup (pe_ix ix_list (pv 2) (pe_op op_sub (pv 8) pe_int) (fun _ _ => rfl)) pe_int (fun _ _ => rfl)) pe_int) pa_nil)))))
  pss_nil)
  (C8.pss_cut (ps_if (pt_cmpR op_gt (pe_ix ix_tup (pe_ix ix_list (pv 6) (pv 8) (fun _ _ => rfl)) pe_int (fun _ _ => rfl)) pe_int (nomark _))
  (pss_one (ps_set (i := 10) sc26.nd rfl (Or.inl rfl) (pe_callB (call_max2 rfl) (by rfl) T.max (by decide +kernel) (pa_cons (pv 10) (pa_cons (pe_op op_add (pe_ix ix_tup (pe_ix ix_list (pv 2) (pe_op op_mod (pe_op op_add (pv 8) pe_int) (pv 4)) (fun _ _ => rfl)) pe_int (fun _ _ => rfl)) pe_int) pa_nil)))))
  pss_nil)
  (pss_one (ps_expr (pe_bm PySem.F.plainAttrs_list PySem.F.slot_list_append PySem.F.type_list_append mt_append (pv 7) (pa_cons (pe_tup (pa_cons (pv 9) (pa_cons (pv 10) pa_nil))) pa_nil))))))))
  (pss_cons (ps_setLc (i := 11) (own := [("_law_house", 8)]) (g := (gName 8)) (tt := tYes) (te := (tCall (spLOrder) [] E0 (tCons (tVar 0) (tCons (tVar 8) (tCons (tOp (rIxL K) (tVar 7) (tVar 8)) tNil))))) rfl sc26.nd rfl rfl (sw_true rfl rfl rfl (by decide +kernel)) (pi_range1 (by rfl) T.range (pa_cons (pv 4) pa_nil)) (blkOk_by (N := ["_law_ring", "_law_row", "_law_sights", "_law_turn", "_law_many", "_law_left", "_law_heard", "_law_later", "_law_house", "_law_near", "_law_right_here", "_law_orders", "_law_made", "_law_found", "_law_other", "_law_like"]) (sc := defScope (topS 26)) (by decide +kernel)) (fun _ _ _ _ _ => (pg_name (i := 8) sc26.nd rfl (Or.inl rfl) (Or.inr rfl))) (fun _ _ _ _ _ => pts_nil) (fun _ _ _ _ _ => (pe_call G__law_order (hr.mono (by decide)) (by rfl) D__law_order.g D__law_order.F.kp D__law_order.b .nil pass0 (pa_cons (pv 0) (pa_cons (pv 8) (pa_cons (pe_ix ix_list (pv 7) (pv 8) (fun _ _ => rfl)) pa_nil))))))
  (pss_cons (ps_set (i := 12) sc26.nd rfl (Or.inl rfl) (pe_lst pa_nil))
  (pss_cons (ps_for PassesOwn.never rfl (pi_range1 (by rfl) T.range (pa_cons (pv 4) pa_nil)) (pg_name (i := 8) sc26.nd rfl (Or.inl rfl) (Or.inr rfl))
  (pss_cons (ps_set (i := 13) sc26.nd rfl (Or.inl rfl) (pe_lst pa_nil))
  (pss_cons (ps_for PassesOwn.never rfl (pi_range1 (by rfl) T.range (pa_cons (pv 8) pa_nil)) (pg_name (i := 14) sc26.nd rfl (Or.inl rfl) (Or.inr rfl))
  (C8.pss_cut (ps_set (i := 15) sc26.nd rfl (Or.inl rfl) (pe_and (pe_cmpR op_eq (pe_ix ix_tup (pv 1) (pv 14) (fun _ _ => rfl)) (pe_ix ix_tup (pv 1) (pv 8) (fun _ _ => rfl)) (nomark _)) (pe_and (pe_cmpR (op_eqD hr.units) (pe_ix ix_list (pv 6) (pv 14) (fun _ _ => rfl)) (pe_ix ix_list (pv 6) (pv 8) (fun _ _ => rfl)) (nomark _)) (pe_one (pe_cmpR (op_eqD hr.units) (pe_ix ix_list (pv 7) (pv 14) (fun _ _ => rfl)) (pe_ix ix_list (pv 7) (pv 8) (fun _ _ => rfl)) (nomark _))))))
  (C8.pss_cut (ps_if (PW.pt (pw_and (pt_val (pv 15)) (pw_and1 (pt_cmpR op_gt (pe_ix ix_tup (pe_ix ix_list (pv 6) (pv 8) (fun _ _ => rfl)) pe_int (fun _ _ => rfl)) pe_int (nomark _)))))
  (pss_one (ps_set (i := 15) sc26.nd rfl (Or.inl rfl) (pe_cmpR op_eq (pe_ix ix_tup (pv 1) (pe_op op_sub (pv 14) pe_int) (fun _ _ => rfl)) (pe_ix ix_tup (pv 1) (pe_op op_sub (pv 8) pe_int) (fun _ _ => rfl)) (nomark _))))
  pss_nil)
  (C8.pss_cut (ps_if (PW.pt (pw_and (pt_val (pv 15)) (pw_and1 (pt_cmpR op_gt (pe_ix ix_tup (pe_ix ix_list (pv 6) (pv 8) (fun _ _ => rfl)) pe_int (fun _ _ => rfl)) pe_int (nomark _)))))
  (pss_one (ps_set (i := 15) sc26.nd rfl (Or.inl rfl) (pe_cmpR op_eq (pe_ix ix_tup (pv 1) (pe_op op_mod (pe_op op_add (pv 14) pe_int) (pv 4)) (fun _ _ => rfl)) (pe_ix ix_tup (pv 1) (pe_op op_mod (pe_op op_add (pv 8) pe_int) (pv 4)) (fun _ _ => rfl)) (nomark _))))
  pss_nil)
  (pss_one (ps_if (PW.pt (pw_and (pt_val (pv 15)) (pw_and1 (pt_cmpR (op_eqD hr.units) (pe_ix ix_list (pv 11) (pv 14) (fun _ _ => rfl)) (pe_ix ix_list (pv 11) (pv 8) (fun _ _ => rfl)) (nomark _)))))
  (pss_one (ps_expr (pe_bm PySem.F.plainAttrs_list PySem.F.slot_list_append PySem.F.type_list_append mt_append (pv 13) (pa_cons (pe_ix ix_list (pv 12) (pv 14) (fun _ _ => rfl)) pa_nil))))
  pss_nil))))))
  (pss_one (ps_expr (pe_bm PySem.F.plainAttrs_list PySem.F.slot_list_append PySem.F.type_list_append mt_append (pv 12) (pa_cons (pe_ix ix_list (pe_op op_cat (pv 13) (pe_lst (pa_cons (pe_op op_add (pe_callB (cr_max rfl) (by rfl) T.max (by decide +kernel) (pa_cons (pe_op op_cat (pv 12) (pe_lst (pa_cons (pe_un un_neg pe_int) pa_nil))) pa_nil)) pe_int) pa_nil))) pe_int (fun _ _ => rfl)) pa_nil)))))))
  (pss_one (ps_ret (pe_tup (pa_cons (pe_callTy call_tupleF (by rfl) T.tuple (by decide +kernel) (pa_cons (pv 12) pa_nil)) (pa_cons (pv 7) pa_nil))))))))))))), ?_⟩
    refine ⟨_, rfl, a, vI ring, rfl, .inr (tup_sq hR), ?_⟩
    rw [hlen]
    -- left
    refine ⟨_, rfl, (ring.length : Int), rfl, by omega, by omega, fun Lf nLf => ?_⟩
    rw [eN]
    refine lc_vals walk_range (fun _ => true) (fun i => .int (tl t (prv ring.length (i : Nat)) 1)) nLf (by omega) (fun _ _ => trivial) yFn_same ?_ ?_
    · rintro i x H1 H2 hi s1 ⟨rfl, rfl⟩ k k0 hk hk0
      have i0 : (0 : Int) + (i : Nat) = (i : Int) := by omega
      dsimp only
      rw [i0]
      refine ⟨rfl, yesT ?_⟩
      exact ⟨_, rfl, _, rfl, _, _, rfl, rfl, _, rfl, _, _, rfl, rfl, (show (0 : Int) < ring.length by omega), tA, _, 1, t, rfl, hT.mono s1.ts (trip_mono s1.ts), htl, fun H4 s4 => hk rfl _ s4⟩
    intro H1 s1 hLf
    rw [filter_all] at hLf
    -- heard
    refine ⟨_, rfl, (ring.length : Int), rfl, by omega, by omega, fun Hd nHd => ?_⟩
    rw [eN]
    refine lc_refs PairT (fun _ _ _ _ s h => pair_mono s _ _ h) walk_range (fun _ => true) (fun i => hd2 ring.length t (i : Nat)) nHd (by omega) (fun _ _ => trivial) yFn_same ?_ ?_
    · rintro i x H2 H3 hi s2 ⟨rfl, rfl⟩ k k0 hk hk0
      have i0 : (0 : Int) + (i : Nat) = (i : Int) := by omega
      dsimp only
      rw [i0]
      refine ⟨rfl, yesT ?_⟩
      have hlf : ((List.range ring.length).map fun i => V.int (tl t (prv ring.length ((i : Nat) : Int)) 1))[i]? = some (.int (tl t (prv ring.length (i : Int)) 1)) := by
        rw [List.getElem?_map, List.getElem?_range hi]
        rfl
      refine ⟨_, rfl, _, rfl, Lf, _, _, _, rfl, rfl, SqL.of (s2 _ _ hLf), atI_nat hlf, ?_⟩
      refine ⟨_, rfl, _, rfl, _, _, rfl, rfl, _, rfl, _, _, rfl, rfl, (show (0 : Int) < ring.length by omega), _, rfl, tA, _, -1, t, rfl, hT.mono (s1.trans s2).ts (trip_mono (s1.trans s2).ts), htl, fun H4 s4 => ?_⟩
      refine ⟨small2, fun p np => ?_⟩
      exact hk rfl p _ (s4.trans (same_new np)) tup_new
    intro H2 s2 hHd
    rw [filter_all] at hHd
    have s12 := s1.trans s2
    obtain ⟨hs, hHd1, hHdp⟩ := hHd
    -- later
    refine ⟨Nat.zero_le _, fun Lt nLt => ?_⟩
    have sf : Same H (upd H2 Lt (.lst [])) := s12.trans (same_new nLt)
    have base8 : L2.St := []
    refine ⟨_, rfl, (ring.length : Int), rfl, by omega, by omega, for_range (lo := 0) (n := ((ring.length : Int)).toNat) (fun i σ H' => ∃ y8 y9 y10, σ = bS a r sA tA ring.length Lf Hd Lt [y8, y9, y10, none, none, none, none, none] ∧
      Same H2 H' ∧ LstOf PairT H' Lt ((sightsB ss t).take i)) ⟨none, none, none, rfl, same_new nLt, [], upd_same, .nil⟩ ?_ ?_⟩
    · rintro i σ H3 hi ⟨y8, y9, y10, rfl, s3, fs, hf, hfp⟩
      have hi : i < ring.length := by omega
      have i0 : (0 : Int) + (i : Nat) = (i : Int) := by omega
      rw [i0]
      have s03 := s12.trans s3
      have hsi : ss[((i : Nat) : Int).toNat]? = some (gS ss (i : Int)) := gS_at (by omega) (by omega)
      obtain ⟨b, hb, hbp⟩ := Paired.at hP hsi
      have pp := prv_lt hn (i : Int)
      have pn := nxt_lt hn (i : Int)
      obtain ⟨hb0, hhb, hhp⟩ := Paired.at hHdp (hdl_at (t := t) hi)
      have hhp3 := TupA.same s3 hhp
      have hHd3 := s3 _ _ hHd1
      refine ⟨_, rfl, _, rfl, sA, vR ass, _, _, rfl, rfl, SqL.of (s03 _ _ hA), at_int (by omega) (vR_at hb), ?_⟩
      refine ⟨b, _, rfl, tup_sq (TupA.same s03 hbp), rfl, _, _, rfl, _, _, rfl, rfl, ?_⟩
      refine ⟨fun σ' H' => H' = H3 ∧ σ' = bS a r sA tA ring.length Lf Hd Lt [some (.int i), some (.int (sightAt ss t i).1), some (.int (gS ss (i : Int)).2), none, none, none, none, none], ?_, ?_⟩
      · refine ⟨_, rfl, _, rfl, Hd, vR hs, _, _, rfl, rfl, SqL.of hHd3, atI_nat (vR_at hhb), hb0, _, 0, _, rfl, rfl, tup_sq hhp3, atI_nat (j := 0) rfl, _, _, rfl, rfl, _, rfl, ?_⟩
        have eS : (sightAt ss t i).1 = if 0 < (hd2 ring.length t i).1 then mx (gS ss i).1 ((gS ss (prv ring.length i)).1 + 1) else (gS ss i).1 := by
          unfold sightAt hd2
          rw [hsl]
        by_cases c : 0 < (hd2 ring.length t i).1
        · rw [decide_eq_true c]
          refine iteT ?_
          have hsb := gS_at (row := ss) pp.1 (by omega)
          obtain ⟨b2, hb2, hbp2⟩ := Paired.at hP hsb
          refine ⟨_, rfl, _, rfl, _, rfl, _, _, rfl, rfl, sA, vR ass, _, _, rfl, rfl, SqL.of (s03 _ _ hA), atI_prv (n := ring.length) (by rw [List.length_map, Paired.length hP, hsl]) hi (vR_at hb2), b2, _, 0, _, rfl, rfl, tup_sq (TupA.same s03 hbp2), atI_nat (j := 0) rfl, _, _, rfl, rfl, _, _, rfl, ?_⟩
          refine ⟨rfl, ?_⟩
          rw [eS, if_pos c] <;> rfl
        · rw [decide_eq_false c]
          refine iteF ?_
          refine ⟨rfl, ?_⟩
          rw [eS, if_neg c] <;> rfl
      rintro σ' H4 ⟨rfl, rfl⟩
      refine ⟨fun σ' H' => H' = H4 ∧ σ' = bS a r sA tA ring.length Lf Hd Lt [some (.int i), some (.int (sightAt ss t i).1), some (.int (sightAt ss t i).2), none, none, none, none, none], ?_, ?_⟩
      · refine ⟨_, rfl, _, rfl, Hd, vR hs, _, _, rfl, rfl, SqL.of hHd3, atI_nat (vR_at hhb), hb0, _, 1, _, rfl, rfl, tup_sq hhp3, atI_nat (j := 1) rfl, _, _, rfl, rfl, _, rfl, ?_⟩
        have eS : (sightAt ss t i).2 = if 0 < (hd2 ring.length t i).2 then mx (gS ss i).2 ((gS ss (nxt ring.length i)).2 + 1) else (gS ss i).2 := by
          unfold sightAt hd2
          rw [hsl]
        by_cases c : 0 < (hd2 ring.length t i).2
        · rw [decide_eq_true c]
          refine iteT ?_
          have hsb := gS_at (row := ss) pn.1 (by omega)
          obtain ⟨b2, hb2, hbp2⟩ := Paired.at hP hsb
          refine ⟨_, rfl, _, rfl, _, rfl, _, _, rfl, rfl, _, rfl, _, _, rfl, rfl, (show (0 : Int) < ring.length by omega), sA, vR ass, _, _, rfl, rfl, SqL.of (s03 _ _ hA), at_int pn.1 (vR_at hb2), b2, _, 1, _, rfl, rfl, tup_sq (TupA.same s03 hbp2), atI_nat (j := 1) rfl, _, _, rfl, rfl, _, _, rfl, ?_⟩
          refine ⟨rfl, ?_⟩
          rw [eS, if_pos c] <;> rfl
        · rw [decide_eq_false c]
          refine iteF ?_
          refine ⟨rfl, ?_⟩
          rw [eS, if_neg c] <;> rfl
      rintro σ' H5 ⟨rfl, rfl⟩
      have hlf : (vR fs).length ≤ 900 := by
        rw [List.length_map, Paired.length hfp, List.length_take, sightsB_length]; omega
      refine ⟨_, rfl, .inl ⟨rfl, _, SqL.of hf⟩, _, rfl, _, rfl, small2, fun p np => ?_⟩
      have s4 := same_new (o := .tup [.int (sightAt ss t i).1, .int (sightAt ss t i).2]) np
      have hf4 := s4 _ _ hf
      refine ⟨Lt, _, _, rfl, rfl, hf4, szlt (by omega), ?_⟩
      refine ⟨_, _, _, rfl, same_mut (s3.trans s4) nLt, fs ++ [p], by rw [upd_same, vR_snoc], ?_⟩
      have etake : (sightsB ss t).take (i + 1) = (sightsB ss t).take i ++ [sightAt ss t i] := by rw [List.take_add_one, sightsB_get ss t i (by omega)]; rfl
      rw [etake]
      have tm : TSm H5 (upd (upd H5 p (.tup [.int (sightAt ss t i).1, .int (sightAt ss t i).2])) Lt (.lst (vR fs ++ [.ref p]))) := s4.ts.trans (TSm.lst hf4)
      exact PySem.Paired.snoc (L2.Paired.mapP hfp (pair_mono tm)) ((TSm.lst hf4).t _ _ tup_new)
    rintro σ H3 ⟨y8, y9, y10, rfl, s3, fs, hf, hfp⟩
    have e1 : (sightsB ss t).take ((ring.length : Int)).toNat = sightsB ss t := List.take_of_length_le (by rw [sightsB_length]; omega)
    rw [e1] at hfp
    have hbl : (sightsB ss t).length = ring.length := by rw [sightsB_length]; exact hsl
    generalize hsB : sightsB ss t = sB at hfp hsee q hbl
    have s03 := s12.trans s3
    have hHd3 := s3 _ _ hHd1
    have hHdp3 : Paired (PairT H3) hs (hdl ring.length t) := L2.Paired.mapP hHdp (pair_mono s3.ts)
    have nLtH : H Lt = none := s12.free nLt
    -- orders
    refine ⟨_, rfl, (ring.length : Int), rfl, by omega, by omega, fun O nO => ?_⟩
    rw [eN]
    refine lc_refsD (fun H' b m => b ≠ O ∧ LstOf (fun H c row => c ≠ O ∧ H c = some (.lst (vI row))) H' b m) (fun _ _ b x s h => ⟨h.1, h.2.mono (fun _ h => s _ _ h) (fun _ _ h => ⟨h.1, s _ _ h.2⟩)⟩) (fun _ b x xs ys _ h => ⟨h.1, h.2.mono (fun _ e => by rw [upd_ne h.1]; exact e) (fun _ _ h => ⟨h.1, by rw [upd_ne h.1]; exact h.2⟩)⟩)
      walk_range (fun (i : Nat) => mat (namesAt ring (i : Int) (gS sB (i : Int)).1 (gS sB (i : Int)).2)) nO (by omega) (fun _ _ => trivial) yFn_same ?_ ?_
    · rintro i x H4 H5 u hi s4 ⟨rfl, rfl⟩ hu k k0 hk
      have i0 : (0 : Int) + (i : Nat) = (i : Int) := by omega
      dsimp only
      rw [i0]
      refine ⟨rfl, yesT ?_⟩
      have hsi : sB[((i : Nat) : Int).toNat]? = some (gS sB (i : Int)) := gS_at (by omega) (by omega)
      obtain ⟨b, hb, hbp⟩ := Paired.at hfp hsi
      have sg := hsee (i : Int) (by omega) (by omega)
      refine ⟨_, rfl, _, rfl, _, rfl, _, rfl, Lt, vR fs, _, _, rfl, rfl, SqL.of (s4 _ _ hf), at_int (by omega) (vR_at hb), ?_⟩
      refine ⟨a, b, _, (gS sB (i : Int)).1, (gS sB (i : Int)).2, ring, rfl, TupA.same (s03.trans s4) hR, TupA.same s4 hbp, hn, by omega, sg.1, sg.2.1, sg.2.2, fun H6 p s6 hM => ?_⟩
      refine hk p _ s6 ⟨(ne_of_none hu hM.1).symm, hM.2.to fun c row h => ⟨(ne_of_none hu h.1).symm, h.2⟩⟩
    intro H4 s4 hO
    have hO : LstOf MatL H4 O ((List.range ring.length).map fun (i : Nat) => mat (namesAt ring (i : Int) (gS sB (i : Int)).1 (gS sB (i : Int)).2)) := hO.to fun _ _ h => h.2.to fun _ _ h => h.2
    obtain ⟨os, hO1, hOp⟩ := hO
    have s04 := s03.trans s4
    have hHd4 := s4 _ _ hHd3
    have hHdp4 : Paired (PairT H4) hs (hdl ring.length t) := L2.Paired.mapP hHdp3 (pair_mono s4.ts)
    have hf4 := s4 _ _ hf
    have hfp4 : Paired (PairT H4) fs sB := L2.Paired.mapP hfp (pair_mono s4.ts)
    have hR4 := TupA.same s04 hR
    have hW4 := TupA.same s04 hW
    -- made
    refine ⟨Nat.zero_le _, fun M nM => ?_⟩
    have hkl : (keysB ring row t sB).length = ring.length := by simp [keysB]
    generalize hks : keysB ring row t sB = ks at hkl
    refine ⟨_, rfl, (ring.length : Int), rfl, by omega, by omega, for_range (lo := 0) (n := ((ring.length : Int)).toNat) (fun i σ H' => ∃ y8 y9 y10 y13 y14 y15, σ = bS a r sA tA ring.length Lf Hd Lt [y8, y9, y10, some (.ref O), some (.ref M), y13, y14, y15] ∧
      Same H4 H' ∧ H' M = some (.lst (vI (num (ks.take i))))) ⟨_, _, _, none, none, none, rfl, same_new nM, upd_same⟩ ?_ ?_⟩
    · rintro i σ H5 hi ⟨y8, y9, y10, y13, y14, y15, rfl, s5, hM5⟩
      have hi : i < ring.length := by omega
      have i0 : (0 : Int) + (i : Nat) = (i : Int) := by omega
      rw [i0]
      -- found
      refine ⟨Nat.zero_le _, fun F nF => ?_⟩
      have hMF : M ≠ F := fun e => by rw [← e, hM5] at nF; cases nF
      have hki : ks[i]? = some (keyAt ring row t sB (i : Int)) := by rw [← hks]; exact keysB_getN ring row t sB i hi
      have pi1 := prv_lt hn (i : Int)
      have pi2 := nxt_lt hn (i : Int)
      refine ⟨_, rfl, (i : Int), rfl, by omega, by omega, for_range (lo := 0) (n := ((i : Int)).toNat) (fun j σ H' => ∃ y14 y15, σ = bS a r sA tA ring.length Lf Hd Lt [some (.int i), y9, y10, some (.ref O), some (.ref M), some (.ref F), y14, y15] ∧
        Same H5 H' ∧ H' F = some (.lst (vI (((List.range j).filter fun o => decide (ks[o]? = ks[i]?)).map fun o => (num (ks.take i)).getD o 0)))) ⟨_, _, rfl, same_new nF, upd_same⟩ ?_ ?_⟩
      · rintro j σ H6 hj ⟨y14, y15, rfl, s6, hF6⟩
        have hj : j < i := by omega
        have j0 : (0 : Int) + (j : Nat) = (j : Int) := by omega
        rw [j0]
        have s46 := s5.trans s6
        have hkj : ks[j]? = some (keyAt ring row t sB (j : Int)) := by rw [← hks]; exact keysB_getN ring row t sB j (by omega)
        have pj1 := prv_lt hn (j : Int)
        have pj2 := nxt_lt hn (j : Int)
        have hW6 := TupA.same s46 hW4
        have hHd6 := s46 _ _ hHd4
        have hf6 := s46 _ _ hf4
        have hO6 := s46 _ _ hO1
        obtain ⟨bi, hbi, hpi⟩ := Paired.at hHdp4 (hdl_at (t := t) hi)
        obtain ⟨bj, hbj, hpj⟩ := Paired.at hHdp4 (hdl_at (t := t) (show j < ring.length by omega))
        obtain ⟨ci, hci, hqi⟩ := Paired.at hfp4 (gS_at (row := sB) (z := (i : Int)) (by omega) (by omega))
        obtain ⟨cj, hcj, hqj⟩ := Paired.at hfp4 (gS_at (row := sB) (z := (j : Int)) (by omega) (by omega))
        have hgi := vI_at (gI_at (row := row) (z := (i : Int)) (by omega) (by omega))
        have hgj := vI_at (gI_at (row := row) (z := (j : Int)) (by omega) (by omega))
        have keyIff := key_like (ring := ring) (row := row) (t := t) (s := sB) hnn (j : Int) (i : Int)
        -- like
        refine ⟨fun σ' H' => H' = H6 ∧ ∃ e : Bool, (e = true ↔ (gI row j = gI row i ∧ hd2 ring.length t j = hd2 ring.length t i ∧ gS sB j = gS sB i)) ∧ σ' = bS a r sA tA ring.length Lf Hd Lt [some (.int i), y9, y10, some (.ref O), some (.ref M), some (.ref F), some (.int j), some (.bl e)], ?_, ?_⟩
        · refine ⟨_, rfl, _, rfl, r, vI row, _, _, rfl, rfl, tup_sq hW6, at_int (by omega) hgj, _, rfl, _, rfl, r, vI row, _, _, rfl, rfl, tup_sq hW6, at_int (by omega) hgi, rfl, _, rfl, ?_⟩
          by_cases c1 : gI row j = gI row i
          · rw [decide_eq_true (congrArg V.int c1)]
            refine iteT ?_
            refine ⟨_, rfl, _, rfl, Hd, vR hs, _, _, rfl, rfl, SqL.of hHd6, atI_nat (vR_at hbj), _, rfl, _, rfl, Hd, vR hs, _, _, rfl, rfl, SqL.of hHd6, atI_nat (vR_at hbi), ?_⟩
            refine ⟨_, _, dp_pp (TupA.same s46 hpj), dp_pp (TupA.same s46 hpi), shaped_ints _, shaped_ints _, ?_⟩
            rw [eqv_pair]
            refine ⟨_, rfl, ?_⟩
            by_cases c2 : hd2 ring.length t j = hd2 ring.length t i
            · rw [decide_eq_true c2]
              refine iteT ?_
              refine ⟨_, rfl, _, rfl, Lt, vR fs, _, _, rfl, rfl, SqL.of hf6, at_int (by omega) (vR_at hcj), _, rfl, _, rfl, Lt, vR fs, _, _, rfl, rfl, SqL.of hf6, at_int (by omega) (vR_at hci), ?_⟩
              refine ⟨_, _, dp_pp (TupA.same s46 hqj), dp_pp (TupA.same s46 hqi), shaped_ints _, shaped_ints _, ?_⟩
              rw [eqv_pair]
              exact ⟨rfl, _, ⟨fun h => ⟨c1, c2, of_decide_eq_true h⟩, fun h => decide_eq_true h.2.2⟩, rfl⟩
            · rw [decide_eq_false c2]
              refine iteF ?_
              exact ⟨rfl, false, ⟨fun h => absurd h Bool.false_ne_true, fun h => absurd h.2.1 c2⟩, rfl⟩
          · rw [decide_eq_false (fun e => c1 (V.int.inj e))]
            refine iteF ?_
            exact ⟨rfl, false, ⟨fun h => absurd h Bool.false_ne_true, fun h => absurd h.1 c1⟩, rfl⟩
        rintro σ' H7 ⟨rfl, e1, hE1, rfl⟩
        refine ⟨fun σ' H' => H' = H7 ∧ ∃ e : Bool, (e = true ↔ ((gI row j = gI row i ∧ hd2 ring.length t j = hd2 ring.length t i ∧ gS sB j = gS sB i) ∧ (0 < (hd2 ring.length t i).1 → gI row (prv ring.length j) = gI row (prv ring.length i)))) ∧ σ' = bS a r sA tA ring.length Lf Hd Lt [some (.int i), y9, y10, some (.ref O), some (.ref M), some (.ref F), some (.int j), some (.bl e)], ?_, ?_⟩
        · refine ⟨_, rfl, _, rfl, ?_⟩
          by_cases c1 : e1 = true
          · rw [c1]
            refine iteT ?_
            refine ⟨_, rfl, _, rfl, Hd, vR hs, _, _, rfl, rfl, SqL.of hHd6, atI_nat (vR_at hbi), bi, _, 0, _, rfl, rfl, tup_sq (TupA.same s46 hpi), atI_nat (j := 0) rfl, _, _, rfl, rfl, _, rfl, ?_⟩
            by_cases c2 : 0 < (hd2 ring.length t i).1
            · rw [decide_eq_true c2]
              refine iteT ?_
              refine ⟨_, rfl, _, rfl, _, _, rfl, rfl, r, vI row, _, _, rfl, rfl, tup_sq hW6, atI_prv (n := ring.length) (by rw [List.length_map, hrl]) (by omega) (vI_at (gI_at pj1.1 (by omega))), _, rfl, _, rfl, _, _, rfl, rfl, r, vI row, _, _, rfl, rfl, tup_sq hW6, atI_prv (n := ring.length) (by rw [List.length_map, hrl]) hi (vI_at (gI_at pi1.1 (by omega))), rfl, ?_⟩
              exact ⟨rfl, _, ⟨fun h => ⟨hE1.mp c1, fun _ => V.int.inj (of_decide_eq_true h)⟩, fun h => decide_eq_true (congrArg V.int (h.2 c2))⟩, rfl⟩
            · rw [decide_eq_false c2]
              refine iteF ?_
              exact ⟨rfl, true, ⟨fun _ => ⟨hE1.mp c1, fun h => absurd h c2⟩, fun _ => rfl⟩, rfl⟩
          · rw [Bool.not_eq_true] at c1
            rw [c1]
            refine iteF ?_
            refine iteF ?_
            refine ⟨rfl, false, ⟨fun h => absurd h Bool.false_ne_true, fun h => ?_⟩, rfl⟩
            have := hE1.mpr h.1
            rw [c1] at this
            cases this
        rintro σ' H8 ⟨rfl, e2, hE2, rfl⟩
        refine ⟨fun σ' H' => H' = H8 ∧ ∃ e : Bool, (e = true ↔ (((gI row j = gI row i ∧ hd2 ring.length t j = hd2 ring.length t i ∧ gS sB j = gS sB i) ∧ (0 < (hd2 ring.length t i).1 → gI row (prv ring.length j) = gI row (prv ring.length i))) ∧ (0 < (hd2 ring.length t i).2 → gI row (nxt ring.length j) = gI row (nxt ring.length i)))) ∧ σ' = bS a r sA tA ring.length Lf Hd Lt [some (.int i), y9, y10, some (.ref O), some (.ref M), some (.ref F), some (.int j), some (.bl e)], ?_, ?_⟩
        · refine ⟨_, rfl, _, rfl, ?_⟩
          by_cases c1 : e2 = true
          · rw [c1]
            refine iteT ?_
            refine ⟨_, rfl, _, rfl, Hd, vR hs, _, _, rfl, rfl, SqL.of hHd6, atI_nat (vR_at hbi), bi, _, 1, _, rfl, rfl, tup_sq (TupA.same s46 hpi), atI_nat (j := 1) rfl, _, _, rfl, rfl, _, rfl, ?_⟩
            by_cases c2 : 0 < (hd2 ring.length t i).2
            · rw [decide_eq_true c2]
              refine iteT ?_
              refine ⟨_, rfl, _, rfl, _, _, rfl, rfl, _, rfl, _, _, rfl, rfl, (show (0 : Int) < ring.length by omega), r, vI row, _, _, rfl, rfl, tup_sq hW6, at_int pj2.1 (vI_at (gI_at pj2.1 (by rw [hrl]; exact pj2.2))), _, rfl, _, rfl, _, _, rfl, rfl, _, rfl, _, _, rfl, rfl, (show (0 : Int) < ring.length by omega), r, vI row, _, _, rfl, rfl, tup_sq hW6, at_int pi2.1 (vI_at (gI_at pi2.1 (by rw [hrl]; exact pi2.2))), rfl, ?_⟩
              exact ⟨rfl, _, ⟨fun h => ⟨hE2.mp c1, fun _ => V.int.inj (of_decide_eq_true h)⟩, fun h => decide_eq_true (congrArg V.int (h.2 c2))⟩, rfl⟩
            · rw [decide_eq_false c2]
              refine iteF ?_
              exact ⟨rfl, true, ⟨fun _ => ⟨hE2.mp c1, fun h => absurd h c2⟩, fun _ => rfl⟩, rfl⟩
          · rw [Bool.not_eq_true] at c1
            rw [c1]
            refine iteF ?_
            refine iteF ?_
            refine ⟨rfl, false, ⟨fun h => absurd h Bool.false_ne_true, fun h => ?_⟩, rfl⟩
            have := hE2.mpr h.1
            rw [c1] at this
            cases this
        rintro σ' H9 ⟨rfl, e3, hE3, rfl⟩
        have hMj : H9 M = some (.lst (vI (num (ks.take i)))) := s6 _ _ hM5
        have hlast : decide (ks[j]? = ks[i]?) = true ↔ e3 = true ∧ mat (namesAt ring (j : Int) (gS sB (j : Int)).1 (gS sB (j : Int)).2) = mat (namesAt ring (i : Int) (gS sB (i : Int)).1 (gS sB (i : Int)).2) := by
          rw [hkj, hki, decide_eq_true_iff, hE3]
          exact ⟨fun h => keyIff.mp (Option.some.inj h), fun h => congrArg some (keyIff.mpr h)⟩
        have hno : ∀ H' : Hp, decide (ks[j]? = ks[i]?) = false → H' F = some (.lst (vI (((List.range j).filter fun o => decide (ks[o]? = ks[i]?)).map fun o => (num (ks.take i)).getD o 0))) →
            H' F = some (.lst (vI (((List.range (j + 1)).filter fun o => decide (ks[o]? = ks[i]?)).map fun o => (num (ks.take i)).getD o 0))) := fun H' h e => by
          rw [range_succ_filter_map, if_neg (by rw [h]; exact Bool.false_ne_true), List.append_nil]
          exact e
        refine ⟨_, rfl, _, rfl, ?_⟩
        by_cases c1 : e3 = true
        · rw [c1]
          refine iteT ?_
          have hoat : ∀ x : Nat, x < ring.length → ((List.range ring.length).map fun (i : Nat) => mat (namesAt ring (i : Int) (gS sB (i : Int)).1 (gS sB (i : Int)).2))[x]? = some (mat (namesAt ring (x : Int) (gS sB (x : Int)).1 (gS sB (x : Int)).2)) := fun x hx => by
            rw [List.getElem?_map, List.getElem?_range hx]
            rfl
          obtain ⟨mi, hmi, hmmi⟩ := Paired.at hOp (hoat i hi)
          obtain ⟨mj, hmj, hmmj⟩ := Paired.at hOp (hoat j (by omega))
          refine ⟨_, rfl, _, rfl, O, vR os, _, _, rfl, rfl, SqL.of hO6, atI_nat (vR_at hmj), _, rfl, _, rfl, O, vR os, _, _, rfl, rfl, SqL.of hO6, atI_nat (vR_at hmi), ?_⟩
          refine ⟨_, _, dp_mat (MatL.same s46 hmmj), dp_mat (MatL.same s46 hmmi), shaped_mat _, shaped_mat _, ?_⟩
          rw [eqv_mat]
          refine ⟨_, rfl, ?_⟩
          by_cases c2 : mat (namesAt ring (j : Int) (gS sB (j : Int)).1 (gS sB (j : Int)).2) = mat (namesAt ring (i : Int) (gS sB (i : Int)).1 (gS sB (i : Int)).2)
          · rw [decide_eq_true c2]
            refine iteT ?_
            have hyes := hlast.mpr ⟨c1, c2⟩
            have hjl : j < (num (ks.take i)).length := by rw [num_length, List.length_take]; omega
            have hgm : (num (ks.take i))[j]? = some ((num (ks.take i)).getD j 0) := by rw [List.getD_eq_getElem?_getD, List.getElem?_eq_getElem hjl]; rfl
            refine ⟨_, rfl, .inl ⟨rfl, _, SqL.of hF6⟩, _, rfl, _, rfl, M, _, _, _, rfl, rfl, SqL.of hMj, atI_nat (vI_at hgm), ?_⟩
            refine ⟨F, _, _, rfl, rfl, hF6, szlt ?_, ?_⟩
            · rw [List.length_map, List.length_map]
              refine Nat.le_trans (List.length_filter_le _ _) ?_
              rw [List.length_range]
              omega
            refine ⟨_, _, rfl, same_mut s6 nF, ?_⟩
            rw [upd_same, range_succ_filter_map, if_pos hyes, vI_snoc]
          · rw [decide_eq_false c2]
            refine iteF ?_
            refine ⟨_, _, rfl, s6, hno _ ?_ hF6⟩
            cases hd : decide (ks[j]? = ks[i]?) with
            | false => rfl
            | true => exact absurd (hlast.mp hd).2 c2
        · rw [Bool.not_eq_true] at c1
          rw [c1]
          refine iteF ?_
          refine iteF ?_
          refine ⟨_, _, rfl, s6, hno _ ?_ hF6⟩
          cases hd : decide (ks[j]? = ks[i]?) with
          | false => rfl
          | true => rw [(hlast.mp hd).1] at c1; cases c1
      rintro σ H6 ⟨y14, y15, rfl, s6, hF6⟩
      have ei : ((i : Int)).toNat = i := by omega
      rw [ei] at hF6
      have hM6 := s6 _ _ hM5
      generalize hfnd : ((List.range i).filter fun o => decide (ks[o]? = ks[i]?)).map (fun o => (num (ks.take i)).getD o 0) = fnd at hF6
      have hfl : fnd.length ≤ 11 := by
        rw [← hfnd, List.length_map]
        refine Nat.le_trans (List.length_filter_le _ _) ?_
        rw [List.length_range]
        omega
      have hml : (num (ks.take i)).length ≤ 11 := by rw [num_length, List.length_take]; omega
      refine ⟨_, rfl, .inl ⟨rfl, _, SqL.of hM6⟩, _, rfl, _, rfl, _, rfl, szle (show 1 ≤ 1000 by decide), fun p np => ?_⟩
      have s7 := same_new (o := .lst (vI [-1])) np
      have hp7 : (upd H6 p (.lst (vI [-1]))) p = some (.lst (vI [-1])) := upd_same
      show _
      have hM7 := s7 _ _ hM6
      have hF7 := s7 _ _ hF6
      refine ⟨M, p, _, _, rfl, rfl, hM7, hp7, szle (show _ ≤ 1000 by rw [List.length_map]; exact Nat.le_trans (Nat.add_le_add_right hml 1) (by decide)), fun p2 np2 => ?_⟩
      have e8 : (vI (num (ks.take i)) ++ vI [-1]) = vI (num (ks.take i) ++ [-1]) := (List.map_append ..).symm
      rw [e8]
      have s8 := same_new (o := .lst (vI (num (ks.take i) ++ [-1]))) np2
      have hp8 : (upd (upd H6 p (.lst (vI [-1]))) p2 (.lst (vI (num (ks.take i) ++ [-1])))) p2 = some (.lst (vI (num (ks.take i) ++ [-1]))) := upd_same
      have hF8 := s8 _ _ hF7
      have s78 := s7.trans s8
      refine ⟨p2, num (ks.take i) ++ [-1], rfl, SqL.of hp8, by rw [List.length_append]; exact Nat.lt_of_lt_of_le Nat.zero_lt_one (Nat.le_add_left _ _), fun m hm hle => ?_⟩
      refine ⟨_, _, rfl, rfl, szle (show 1 ≤ 1000 by decide), fun p3 np3 => ?_⟩
      have s9 := same_new (o := .lst (vI [m + 1])) np3
      have s79 := s78.trans s9
      have hF9 := s79 _ _ hF6
      have hp9 : (upd (upd (upd H6 p (.lst (vI [-1]))) p2 (.lst (vI (num (ks.take i) ++ [-1])))) p3 (.lst (vI [m + 1]))) p3 = some (.lst (vI [m + 1])) := upd_same
      refine ⟨F, p3, _, _, rfl, rfl, hF9, hp9, szle (show _ ≤ 1000 by rw [List.length_map]; exact Nat.le_trans (Nat.add_le_add_right hfl 1) (by decide)), fun p4 np4 => ?_⟩
      have e10 : (vI fnd ++ vI [m + 1]) = vI (fnd ++ [m + 1]) := (List.map_append ..).symm
      rw [e10]
      have s10 := same_new (o := .lst (vI (fnd ++ [m + 1]))) np4
      have s710 := s79.trans s10
      have hMx := s710 _ _ hM6
      have hpk := pick (ks := ks) (h := i) (by omega) hm hle
      rw [hfnd] at hpk
      refine ⟨p4, _, 0, _, rfl, rfl, SqL.of upd_same, at_int (Int.le_refl 0) (vI_at hpk), ?_⟩
      refine ⟨M, _, _, rfl, rfl, hMx, szlt (by rw [List.length_map]; exact Nat.le_trans hml (by decide)), ?_⟩
      refine ⟨_, _, _, _, _, _, rfl, same_mut (s5.trans (s6.trans s710)) nM, ?_⟩
      rw [upd_same]
      have eki : ks.take (i + 1) = ks.take i ++ [ks[i]] := by rw [List.take_add_one, List.getElem?_eq_getElem (by omega)]; rfl
      rw [eki, num_snoc, vI_snoc]
    rintro σ H5 ⟨y8, y9, y10, y13, y14, y15, rfl, s5, hM5⟩
    have e2 : ks.take ((ring.length : Int)).toNat = ks := List.take_of_length_le (by omega)
    rw [e2] at hM5
    refine ⟨_, rfl, M, _, rfl, SqL.of hM5, fun p o np oc od => ?_⟩
    have s6 := same_new (o := .frz o (.tup (vI (num ks)))) np
    refine ⟨_, rfl, small2, fun p2 np2 => ?_⟩
    have s7 := same_new (o := .tup [.ref p, .ref Lt]) np2
    have s57 := s5.trans (s6.trans s7)
    refine q _ p2 p Lt (s04.trans s57) nLtH tup_new ?_ ⟨fs, s57 _ _ hf4, L2.Paired.mapP hfp4 (pair_mono s57.ts)⟩
    rw [rowB, hks]
    exact ⟨o, s7 _ _ upd_same, oc, od⟩
end
end K62

set_option Elab.async false
set_option linter.all false
set_option maxRecDepth 100000
set_option maxHeartbeats 4000000
namespace K62
open PySem PySem.Spec PyProof.Rows L2
theorem tl_append (t u : Tr) (h s : Int) : tl (t ++ u) h s = tl t h s + tl u h s := by
  unfold tl
  rw [List.filter_append, List.map_append, List.sum_append]
/-- what a house with the letters w tells -/
def pre (h : Int) (w : Int × Int) : Nat → Tr
  | 0 => []
  | 1 => if 0 < w.1 then [(h, -1, w.1)] else []
  | _ => (if 0 < w.1 then [(h, -1, w.1)] else []) ++ (if 0 < w.2 then [(h, 1, w.2)] else [])
def compT (wf : Int → Int × Int) (row : List Int) : Nat → Tr
  | 0 => []
  | k + 1 => compT wf row k ++ pre (k : Int) (wf (gI row (k : Int))) 2
theorem pre_mem {h : Int} {w : Int × Int} {e : Int × Int × Int} (he : e ∈ pre h w 2) : e.1 = h ∧ (e.2.1 = -1 ∨ e.2.1 = 1) ∧ 0 < e.2.2 := by
  unfold pre at he
  rcases List.mem_append.mp he with q | q
  · by_cases c : 0 < w.1
    · rw [if_pos c] at q
      cases List.mem_singleton.mp q
      exact ⟨rfl, .inl rfl, c⟩
    · rw [if_neg c] at q; cases q
  · by_cases c : 0 < w.2
    · rw [if_pos c] at q
      cases List.mem_singleton.mp q
      exact ⟨rfl, .inr rfl, c⟩
    · rw [if_neg c] at q; cases q
theorem pre_nodup (h : Int) (w : Int × Int) : ((pre h w 2).map fun e => (e.1, e.2.1)).Nodup := by
  unfold pre
  by_cases c : 0 < w.1 <;> by_cases d : 0 < w.2 <;> simp [c, d]
theorem pre_tl (h : Int) (w : Int × Int) (a : Int) (w1 : 0 ≤ w.1) (w2 : 0 ≤ w.2) : tl (pre h w 2) a (-1) = (if h = a then w.1 else 0) ∧ tl (pre h w 2) a 1 = if h = a then w.2 else 0 := by
  unfold pre tl
  by_cases c : 0 < w.1 <;> by_cases d : 0 < w.2 <;> by_cases e : h = a <;> simp [c, d, e] <;> omega
theorem pre_len (h : Int) (w : Int × Int) : (pre h w 2).length ≤ 2 := by
  unfold pre
  by_cases c : 0 < w.1 <;> by_cases d : 0 < w.2 <;> simp [c, d]
theorem compT_len (wf : Int → Int × Int) (row : List Int) : ∀ k, (compT wf row k).length ≤ 2 * k
  | 0 => Nat.le_refl _
  | k + 1 => by
    have h1 := compT_len wf row k
    have h2 := pre_len (k : Int) (wf (gI row (k : Int)))
    show (compT wf row k ++ pre (k : Int) (wf (gI row (k : Int))) 2).length ≤ _
    rw [List.length_append]
    omega
theorem compT_mem {wf : Int → Int × Int} {row : List Int} : ∀ {k : Nat} {e : Int × Int × Int}, e ∈ compT wf row k → 0 ≤ e.1 ∧ e.1 < k ∧ (e.2.1 = -1 ∨ e.2.1 = 1) ∧ 0 < e.2.2
  | 0, _, h => by cases h
  | k + 1, e, h => by
    rcases List.mem_append.mp (show e ∈ compT wf row k ++ pre (k : Int) (wf (gI row (k : Int))) 2 from h) with q | q
    · have := compT_mem q
      exact ⟨this.1, by omega, this.2.2⟩
    · have := pre_mem q
      exact ⟨by omega, by omega, this.2⟩
theorem compT_ok (wf : Int → Int × Int) (row : List Int) : ∀ k, TurnOk k (compT wf row k) := fun k => by
  refine ⟨?_, fun e he => compT_mem he⟩
  induction k with
  | zero => exact List.nodup_nil
  | succ k ih =>
    show ((compT wf row k ++ pre (k : Int) (wf (gI row (k : Int))) 2).map fun e => (e.1, e.2.1)).Nodup
    rw [List.map_append, List.nodup_append]
    refine ⟨ih, pre_nodup _ _, fun x hx y hy e => ?_⟩
    obtain ⟨u, hu, rfl⟩ := List.mem_map.mp hx
    obtain ⟨v, hv, rfl⟩ := List.mem_map.mp hy
    have h1 := compT_mem hu
    have h2 := pre_mem hv
    have := (Prod.mk.inj e).1
    omega
theorem compT_tl {wf : Int → Int × Int} {row : List Int} (h0 : ∀ z ∈ row, 0 ≤ (wf z).1 ∧ 0 ≤ (wf z).2) : ∀ k : Nat, k ≤ row.length → ∀ a : Int, 0 ≤ a →
    tl (compT wf row k) a (-1) = (if a < k then (wf (gI row a)).1 else 0) ∧ tl (compT wf row k) a 1 = if a < k then (wf (gI row a)).2 else 0
  | 0, _, a, ha => by
    rw [if_neg (by omega), if_neg (by omega)]
    exact ⟨rfl, rfl⟩
  | k + 1, hk, a, ha => by
    have ih := compT_tl h0 k (by omega) a ha
    have hm := h0 _ (gI_mem (row := row) (h := (k : Int)) (by omega) (by omega))
    have hp := pre_tl (k : Int) (wf (gI row (k : Int))) a hm.1 hm.2
    have e : compT wf row (k + 1) = compT wf row k ++ pre (k : Int) (wf (gI row (k : Int))) 2 := rfl
    rw [e, tl_append, tl_append, ih.1, ih.2, hp.1, hp.2]
    have hlt : a < ((k + 1 : Nat) : Int) ↔ (a < k ∨ (k : Int) = a) := by omega
    by_cases c : a < k
    · have d : ¬ (k : Int) = a := by omega
      simp only [hlt, if_pos c, if_neg d, if_pos (Or.inl c : a < k ∨ (k : Int) = a), Int.add_zero, and_self]
    · by_cases d : (k : Int) = a
      · subst d
        simp only [hlt, if_neg c, or_true, if_true, Int.zero_add, and_self]
      · have cd : ¬ (a < k ∨ (k : Int) = a) := fun h => h.elim c d
        simp only [hlt, if_neg c, if_neg d, if_neg cd, Int.add_zero, and_self]
theorem compT_tells {wf : Int → Int × Int} {row : List Int} (h0 : ∀ z ∈ row, 0 ≤ (wf z).1 ∧ 0 ≤ (wf z).2) : Tells row.length row (compT wf row row.length) := fun a b a0 a1 b0 b1 e => by
  have ha := compT_tl h0 row.length (Nat.le_refl _) a a0
  have hb := compT_tl h0 row.length (Nat.le_refl _) b b0
  rw [ha.1, ha.2, hb.1, hb.2, if_pos a1, if_pos b1, if_pos a1, if_pos b1, e]
  exact ⟨rfl, rfl⟩
theorem pick4 {r : Int} (h0 : 0 ≤ r) (h1 : r < 4) : ∃ v : Int, atI [V.int 0, .int 0, .int 1, .int 2] r = some (.int v) ∧ 0 ≤ v ∧ v ≤ 2 := by
  have : r = 0 ∨ r = 1 ∨ r = 2 ∨ r = 3 := by omega
  rcases this with rfl | rfl | rfl | rfl
  · exact ⟨0, rfl, by omega, by omega⟩
  · exact ⟨0, rfl, by omega, by omega⟩
  · exact ⟨1, rfl, by omega, by omega⟩
  · exact ⟨2, rfl, by omega, by omega⟩
theorem putK_le {κ : Type} [DecidableEq κ] (kvs : List (κ × V)) (k : κ) (x : V) : (putK kvs k x).length ≤ kvs.length + 1 := by
  unfold putK
  split
  · rw [List.length_map]
    exact Nat.le_add_right _ _
  · rw [List.length_append]
    exact Nat.le_refl _
section
variable {P : Program} {w : World} {K : PySem.W.Frag} {mg : Str → Option Value} {base : Heap}
abbrev s28 : Stmt := topS 28
theorem sc28 : FnScope ["_law_box_here", "_law_row", "_law_telling", "_law_mark", "_law_turn", "_law_house", "_law_side", "_law_letters"] ["_law_box_here", "_law_row"] (defScope s28) := ⟨rfl, rfl, rfl, by decide +kernel, rfl, by decide +kernel, by decide +kernel⟩
abbrev D28 (K : PySem.W.Frag) (mg : Str → Option Value) := Df K mg "_law_comparing_turn" s28 ["_law_box_here", "_law_row"]
def spTurn : Sp := fun vs H Q _ => ∃ (b l r : Addr) (ro : List Int) (c : Int), vs = [.ref b, .ref r] ∧ RowF H r ro ∧ 0 < ro.length ∧ ro.length ≤ 11 ∧ Box H b l c ∧ c ≤ 600000 ∧
  ∀ H' p t, Box H' b l (c + 22) → SameB b l H H' → TurnT H' p t → TurnOk ro.length t → Tells ro.length ro t → t.length ≤ 22 → Q (.ref p) H'
theorem ok_cturn (D : D28 K mg) (T : Txt mg) (D__law_draw : D20 K mg) : FnOk P w K mg base CX0 2 D.f D.fd ["_law_box_here", "_law_row"] spTurn := by
  have G__law_draw : FnOk P w K mg base CX0 1 _ _ _ _ := ok_draw D__law_draw T
  refine D.F.ok sc28 (fun vs H Q E h => ?_) (fun cdv A outer s H vs Q E hr h => ?_)
  · obtain ⟨b, l, r, row, c, rfl, _⟩ := h
    rfl
  · obtain ⟨b, l, r, row, c, rfl, hR, hn, hn2, hB, hc, q⟩ := h
    have hu1 := hu_of hr
    refine ⟨_, (pss_cons (ps_set (i := 2) sc28.nd rfl (Or.inl rfl) pe_dnewK)
  (pss_cons (ps_for PassesOwn.never rfl (pi_list (pe_callB (cr_sortedSet rfl) (by rfl) T.sorted (by decide +kernel) (pa_cons (pe_callTy (cr_setI rfl) (by rfl) T.set (by decide +kernel) (pa_cons (pv 1) pa_nil)) pa_nil))) (pg_name (i := 3) sc28.nd rfl (Or.inl rfl) (Or.inr rfl))
  (pss_one (ps_dput hu1 (pv 2) (pv 3) (pe_tup (pa_cons (pe_ix ix_list (pe_lst (pa_cons pe_int (pa_cons pe_int (pa_cons pe_int (pa_cons pe_int pa_nil))))) (pe_call G__law_draw hr (by rfl) D__law_draw.g D__law_draw.F.kp D__law_draw.b .nil pass0 (pa_cons (pv 0) (pa_cons pe_int pa_nil))) (fun _ _ => rfl)) (pa_cons (pe_ix ix_list (pe_lst (pa_cons pe_int (pa_cons pe_int (pa_cons pe_int (pa_cons pe_int pa_nil))))) (pe_call G__law_draw hr (by rfl) D__law_draw.g D__law_draw.F.kp D__law_draw.b .nil pass0 (pa_cons (pv 0) (pa_cons pe_int pa_nil))) (fun _ _ => rfl)) pa_nil))) rfl)))
  (pss_cons (ps_set (i := 4) sc28.nd rfl (Or.inl rfl) (pe_lst pa_nil))
  (pss_cons (ps_for PassesOwn.never rfl (pi_enumT (by rfl) T.enumerate (pa_cons (pv 1) pa_nil)) (pg_tup (n := 2) rfl (pgs_cons (pg_name (i := 5) sc28.nd rfl (Or.inl rfl) (Or.inr rfl)) (pgs_cons (pg_name (i := 3) sc28.nd rfl (Or.inl rfl) (Or.inr rfl)) pgs_nil)) rfl rfl)
  (pss_one (ps_for PassesOwn.never rfl (RZ.pi_zipA (by rfl) T.zip (pa_cons (pe_tup (pa_cons (pe_un un_neg pe_int) (pa_cons pe_int pa_nil))) (pa_cons (pe_dget hu1 (pv 2) (pv 3) (fun _ _ => rfl)) pa_nil))) (pg_tup (n := 2) rfl (pgs_cons (pg_name (i := 6) sc28.nd rfl (Or.inl rfl) (Or.inr rfl)) (pgs_cons (pg_name (i := 7) sc28.nd rfl (Or.inl rfl) (Or.inr rfl)) pgs_nil)) rfl rfl)
  (pss_one (ps_if (pt_cmpR op_gt (pv 7) pe_int (nomark _))
  (pss_one (ps_expr (pe_bm PySem.F.plainAttrs_list PySem.F.slot_list_append PySem.F.type_list_append mt_append (pv 4) (pa_cons (pe_tup (pa_cons (pv 5) (pa_cons (pv 6) (pa_cons (pv 7) pa_nil)))) pa_nil))))
  pss_nil)))))
  (pss_one (ps_ret (pe_callTy call_tuple_of (by rfl) T.tuple (by decide +kernel) (pa_cons (pv 4) pa_nil)))))))), ?_⟩
    refine fun d nd => ?_
    have hdb := hB.new nd
    have s1 : Same H (upd H d (.dK [])) := same_new nd
    have hd1 : (upd H d (.dK [])) d = some (.dK []) := upd_same
    have hB1 := hB.same s1
    generalize upd H d (.dK []) = H1 at s1 hd1 hB1
    -- sorted(set(row))
    refine ⟨_, rfl, r, row, rfl, .inr (tup_sq (TupA.same s1 hR.tup)), by omega, fun S cc nS hcc => ?_⟩
    have sS := same_new (o := SetO w S (fun j => decide (j ∈ row)) cc) nS
    refine ⟨S, _, cc, rfl, upd_same, by omega, fun us p up um ul np => ?_⟩
    have eus : ∀ z, z ∈ us ↔ z ∈ row := fun z => by rw [um z]; exact decide_eq_true_iff
    have sp := same_new (o := .lst (us.map V.int)) np
    have s12 := sS.trans sp
    have hp2 : (upd (upd H1 S (SetO w S (fun j => decide (j ∈ row)) cc)) p (.lst (us.map V.int))) p = some (.lst (vI us)) := upd_same
    have hB2 := hB1.same s12
    have hd2 := s12 _ _ hd1
    have hpd : p ≠ d := ne_of hp2 hd2 (by intro z; cases z)
    have hpb := (hB1.same sS).new np
    have s02 := s1.trans s12
    have ul11 : us.length ≤ 11 := by omega
    refine ⟨p, rfl, ⟨_, SqL.of hp2⟩, for_it (walk_list (K := K) (a := p) (xs := vI us)) (fun i σ H' => ∃ (y3 : Option V) (kvs : List (Key × V)) (wf : Int → Int × Int), σ = [some (.ref b), some (.ref r), some (.ref d), y3, none, none, none, none] ∧ SameB b l H H' ∧ Box H' b l (c + 2 * (i : Nat)) ∧ H' p = some (.lst (vI us)) ∧
      H' d = some (.dK kvs) ∧ kvs.length ≤ i ∧ ∀ z ∈ us.take i, ∃ a, valV kvs (Sum.inl z) = some (.ref a) ∧ PairT H' a (wf z) ∧ 0 ≤ (wf z).1 ∧ 0 ≤ (wf z).2)
      ⟨none, [], fun _ => (0, 0), rfl, s02.sb, hB2.le (by omega), hp2, hd2, Nat.le_refl _, fun z hz => by rw [List.take_zero] at hz; cases hz⟩ (fun i σ H' _ ⟨_, _, _, _, _, _, z, _⟩ => SqL.of z) ?_ ?_⟩
    · rintro i x σ H3 H4 hi ⟨y3, kvs, wf, rfl, s3, hB3, hp3, hd3, hkl, hv⟩ ⟨rfl, hx⟩
      obtain ⟨z, hz, rfl⟩ := of_vI hx
      have hil := (List.getElem?_eq_some_iff.mp hz).1
      have hl1 : ∀ H' q, (upd H' q (.lst (vI [0, 0, 1, 2]))) q = some (.lst (vI [0, 0, 1, 2])) := fun _ _ => upd_same
      -- the value
      refine ⟨szle (show 4 ≤ 1000 by decide), fun p1 np1 => ?_⟩
      have t1 := same_new (o := .lst (vI [0, 0, 1, 2])) np1
      have hq1 := hB3.new np1
      refine ⟨_, rfl, b, l, 4, _, rfl, by omega, by omega, hB3.same t1, by omega, fun H5 r1 hB5 s5 r10 r11 => ?_⟩
      have hp1 : H5 p1 = some (.lst (vI [0, 0, 1, 2])) := s5 _ _ hq1.1 hq1.2 upd_same
      obtain ⟨v1, ev1, v10, v11⟩ := pick4 r10 r11
      refine ⟨p1, _, _, _, rfl, rfl, SqL.of hp1, ev1, ?_⟩
      refine ⟨szle (show 4 ≤ 1000 by decide), fun p2 np2 => ?_⟩
      have t2 := same_new (o := .lst (vI [0, 0, 1, 2])) np2
      have hq2 := hB5.new np2
      refine ⟨_, rfl, b, l, 4, _, rfl, by omega, by omega, hB5.same t2, by omega, fun H6 r2 hB6 s6 r20 r21 => ?_⟩
      have hp2' : H6 p2 = some (.lst (vI [0, 0, 1, 2])) := s6 _ _ hq2.1 hq2.2 upd_same
      obtain ⟨v2, ev2, v20, v21⟩ := pick4 r20 r21
      refine ⟨p2, _, _, _, rfl, rfl, SqL.of hp2', ev2, ?_⟩
      refine ⟨small2, fun tp ntp => ?_⟩
      have t3 := same_new (o := .tup [.int v1, .int v2]) ntp
      have s36 : SameB b l H4 (upd H6 tp (.tup [.int v1, .int v2])) := t1.sb.trans (s5.trans (t2.sb.trans (s6.trans t3.sb)))
      have hd6 := s36 _ _ hdb.1 hdb.2 hd3
      refine ⟨_, rfl, _, rfl, d, _, rfl, DPut.k (k := Sum.inl z) hd6 (szlt (by omega)), ?_⟩
      have tm := hB3.ts s36
      have hB7 := hB6.same t3
      generalize hH7 : upd H6 tp (.tup [.int v1, .int v2]) = H7 at s36 hd6 tm hB7
      have htp : TupA H7 tp [.int v1, .int v2] := by rw [← hH7]; exact tup_new
      have tm8 : TSm H7 (upd H7 d (.dK (putK kvs (Sum.inl z) (.ref tp)))) := TSm.upd hd6 (fun _ z => by cases z) (fun _ _ z => by cases z)
      refine ⟨_, putK kvs (Sum.inl z) (.ref tp), fun y => if y = z then (v1, v2) else wf y, rfl, (s3.trans s36).mut nd, (hB7.upd hdb.1 hdb.2).le (by omega), ?_, upd_same, ?_, ?_⟩
      · rw [upd_ne hpd]
        exact s36 _ _ hpb.1 hpb.2 hp3
      · have := putK_le kvs (Sum.inl z : Key) (.ref tp)
        omega
      · intro y hy
        rw [valV_put]
        dsimp only
        by_cases c : y = z
        · subst c
          rw [if_pos rfl, if_pos rfl]
          exact ⟨tp, rfl, tm8.t _ _ htp, v10, v20⟩
        · rw [if_neg (fun e => c (Sum.inl.inj e)), if_neg c]
          have hy' : y ∈ us.take i := by
            rw [List.take_add_one, hz] at hy
            rcases List.mem_append.mp hy with h | h
            · exact h
            · exact absurd (List.mem_singleton.mp h) c
          obtain ⟨a, e1, e2, e3⟩ := hv y hy'
          exact ⟨a, e1, (tm.trans tm8).t _ _ e2, e3⟩
    rintro σ H3 ⟨y3, kvs, wf, rfl, s3, hB3, hp3, hd3, hkl, hv⟩
    have efull : us.take (vI us).length = us := by rw [List.length_map]; exact List.take_length
    rw [efull] at hv
    -- the turn
    refine ⟨Nat.zero_le _, fun Tn nTn => ?_⟩
    have htb := hB3.new nTn
    have st := same_new (o := .lst []) nTn
    have hRr := (hB.ts s3).f hR
    refine ⟨_, rfl, r, vI row, rfl, tup_sq (TupA.same st hRr.tup), for_it (walk_enumT (K := K) (a := r) (xs := vI row)) (fun i σ H' => ∃ y3 y5 y6 y7, σ = [some (.ref b), some (.ref r), some (.ref d), y3, some (.ref Tn), y5, y6, y7] ∧ Same H3 H' ∧
      LstOf TripT H' Tn (compT wf row i)) ⟨_, none, none, none, rfl, st, [], upd_same, .nil⟩ (fun i σ H' _ ⟨_, _, _, _, _, z, _⟩ => tup_sq (TupA.same z hRr.tup)) ?_ ?_⟩
    · rintro i x σ H4 H5 hi ⟨y3, y5, y6, y7, rfl, s4, ts, hT4, hTp⟩ ⟨T0, x1, x2, rfl, nT, rfl, e1, e2⟩
      cases e1
      obtain ⟨z, hz, rfl⟩ := of_vI e2
      obtain ⟨hil, ezz⟩ := List.getElem?_eq_some_iff.mp hz
      have ez : gI row (i : Int) = z := by
        have := gI_at (row := row) (z := (i : Int)) (by omega) (by omega)
        have e : ((i : Nat) : Int).toNat = i := by omega
        rw [e, hz] at this
        exact (Option.some.inj this).symm
      have sT := same_new (o := .tup [.int ((i : Nat) : Int), .int z]) nT
      have hT0 : TupA (upd H4 T0 (.tup [.int ((i : Nat) : Int), .int z])) T0 [.int ((i : Nat) : Int), .int z] := tup_new
      have hT5 := sT _ _ hT4
      have hTp5 : Paired (TripT (upd H4 T0 (.tup [.int ((i : Nat) : Int), .int z]))) ts (compT wf row i) := L2.Paired.mapP hTp (trip_mono sT.ts)
      generalize upd H4 T0 (.tup [.int ((i : Nat) : Int), .int z]) = H5 at sT hT0 hT5 hTp5
      have s5 := s4.trans sT
      refine ⟨T0, _, rfl, tup_sq hT0, rfl, _, _, rfl, _, _, rfl, rfl, ?_⟩
      obtain ⟨wa, ev, hwa, w0, w1⟩ := hv z ((eus z).mpr (by rw [← ezz]; exact List.getElem_mem _))
      generalize hw : wf z = ww at hwa w0 w1
      refine ⟨_, rfl, small2, fun pz npz => ?_⟩
      have s6 := same_new (o := .tup [.int (-1), .int 1]) npz
      have hpz : TupA (upd H5 pz (.tup [.int (-1), .int 1])) pz [.int (-1), .int 1] := tup_new
      have hT6 := s6 _ _ hT5
      have hTp6 : Paired (TripT (upd H5 pz (.tup [.int (-1), .int 1]))) ts (compT wf row i) := L2.Paired.mapP hTp5 (trip_mono s6.ts)
      generalize upd H5 pz (.tup [.int (-1), .int 1]) = H6 at s6 hpz hT6 hTp6
      have s36 := s5.trans s6
      have hd6 := s36 _ _ hd3
      have hw6 : PairT H6 wa ww := TupA.same s36 hwa
      refine ⟨_, rfl, _, rfl, d, _, rfl, by rw [← ev]; exact DGet.k (k := Sum.inl z) hd6, ?_⟩
      refine ⟨pz, wa, [.int (-1), .int 1], [.int ww.1, .int ww.2], rfl, .inr ⟨tup_sq hpz, tup_sq hw6, RZ.for_zipT (xs := [.int (-1), .int 1]) (ys := [.int ww.1, .int ww.2]) rfl (fun j σ H' => ∃ y6 y7, σ = [some (.ref b), some (.ref r), some (.ref d), some (.int z), some (.ref Tn), some (.int (i : Int)), y6, y7] ∧ Same H3 H' ∧ TSm H6 H' ∧
        LstOf TripT H' Tn (compT wf row i ++ pre (i : Int) ww j)) ⟨_, _, rfl, s36, TSm.refl _, ts, hT6, by rw [show pre (i : Int) ww 0 = [] from rfl, List.append_nil]; exact hTp6⟩ (fun j σ H' ⟨_, _, _, _, z, _⟩ => ⟨tup_sq (TupA.mono z.t hpz), tup_sq (TupA.mono z.t hw6)⟩) ?_ ?_⟩⟩
      · rintro j x y T σ H7 hx hy ⟨y6, y7, rfl, s7, tm7, us2, hT7, hTp7⟩ nT7
        have hj : ∃ (sd lt : Int), x = .int sd ∧ y = .int lt ∧ pre (i : Int) ww (j + 1) = pre (i : Int) ww j ++ (if 0 < lt then [((i : Int), sd, lt)] else []) := by
          match j, hx, hy with
          | 0, hx, hy => cases hx; cases hy; exact ⟨_, _, rfl, rfl, rfl⟩
          | 1, hx, hy => cases hx; cases hy; exact ⟨_, _, rfl, rfl, rfl⟩
          | _ + 2, hx, hy => cases hx
        obtain ⟨sd, lt, rfl, rfl, epre⟩ := hj
        have s8 := same_new (o := .tup [.int sd, .int lt]) nT7
        have hT8 := s8 _ _ hT7
        have hTp8 : Paired (TripT (upd H7 T (.tup [.int sd, .int lt]))) us2 (compT wf row i ++ pre (i : Int) ww j) := L2.Paired.mapP hTp7 (trip_mono s8.ts)
        refine ⟨T, _, rfl, tup_sq tup_new, rfl, _, _, rfl, _, _, rfl, rfl, ?_⟩
        refine ⟨_, rfl, _, _, rfl, rfl, _, rfl, ?_⟩
        rw [epre]
        by_cases c : 0 < lt
        · rw [decide_eq_true c, if_pos c]
          refine iteT ?_
          generalize upd H7 T (.tup [.int sd, .int lt]) = H8 at s8 hT8 hTp8
          refine ⟨_, rfl, .inl ⟨rfl, _, SqL.of hT8⟩, _, rfl, _, rfl, _, rfl, szle (show 3 ≤ 1000 by decide), fun p3 np3 => ?_⟩
          have s9 := same_new (o := .tup [.int (i : Int), .int sd, .int lt]) np3
          have hT9 := s9 _ _ hT8
          have hlen : us2.length ≤ 30 := by
            rw [Paired.length hTp8, List.length_append]
            have h1 := compT_len wf row i
            have h2 : (pre (i : Int) ww j).length ≤ 2 := by
              unfold pre
              split
              · exact Nat.zero_le _
              · split <;> simp
              · exact pre_len (i : Int) ww
            omega
          refine ⟨Tn, _, _, rfl, rfl, hT9, szlt (by rw [List.length_map]; omega), ?_⟩
          have tl9 : TSm (upd H8 p3 (.tup [.int (i : Int), .int sd, .int lt])) (upd (upd H8 p3 (.tup [.int (i : Int), .int sd, .int lt])) Tn (.lst (vR us2 ++ [.ref p3]))) := TSm.lst hT9
          refine ⟨_, _, rfl, same_mut (s7.trans (s8.trans s9)) nTn, (tm7.trans (s8.trans s9).ts).trans tl9, us2 ++ [p3], by rw [upd_same, vR_snoc], ?_⟩
          rw [← List.append_assoc]
          exact PySem.Paired.snoc (L2.Paired.mapP hTp8 fun _ _ h => (s9.ts.trans tl9).t _ _ h) (tl9.t _ _ tup_new)
        · rw [decide_eq_false c, if_neg c, List.append_nil]
          refine iteF ?_
          exact ⟨_, _, rfl, s7.trans s8, tm7.trans s8.ts, us2, hT8, hTp8⟩
      · rintro σ H7 ⟨y6, y7, rfl, s7, tm7, hL⟩
        refine ⟨_, _, _, _, rfl, s7, ?_⟩
        rw [← hw, ← ez] at hL
        exact hL
    rintro σ H4 ⟨y3, y5, y6, y7, rfl, s4, ts, hT4, hTp⟩
    rw [List.length_map] at hTp
    refine ⟨_, rfl, Tn, _, rfl, .inl ⟨SqL.of hT4, fun t nt => ?_⟩⟩
    have s5 := same_new (o := .tup (vR ts)) nt
    have hrow0 : ∀ z ∈ row, 0 ≤ (wf z).1 ∧ 0 ≤ (wf z).2 := fun z hz => by
      obtain ⟨a, _, _, h⟩ := hv z ((eus z).mpr hz)
      exact h
    refine q _ t (compT wf row row.length) (((hB3.same s4).same s5).le (by rw [List.length_map]; omega)) (s3.trans (s4.sb.trans s5.sb)) ⟨ts, tup_new, L2.Paired.mapP hTp (trip_mono s5.ts)⟩ (compT_ok wf row _) (compT_tells hrow0) ?_
    have := compT_len wf row row.length
    omega
end
end K62

set_option Elab.async false
set_option linter.all false
set_option maxRecDepth 100000
set_option maxHeartbeats 4000000
namespace K62
open PySem PySem.Spec PyProof.Rows L2
def thrT (row : List Int) (m sd : Int) (k : Nat) : Tr := ((List.range k).filter fun (h : Nat) => decide (gI row (h : Int) = m)).map fun (h : Nat) => ((h : Int), sd, (1 : Int))
theorem thrT_succ (row : List Int) (m sd : Int) (k : Nat) : thrT row m sd (k + 1) = thrT row m sd k ++ (if gI row (k : Int) = m then [((k : Int), sd, (1 : Int))] else []) := by
  unfold thrT
  rw [range_succ_filter_map]
  by_cases c : gI row (k : Int) = m
  · rw [if_pos c, if_pos (decide_eq_true c)]
  · rw [if_neg c, if_neg (by rw [decide_eq_false c]; exact Bool.false_ne_true)]
theorem thrT_len (row : List Int) (m sd : Int) (k : Nat) : (thrT row m sd k).length ≤ k := by
  unfold thrT
  rw [List.length_map]
  exact Nat.le_trans (List.length_filter_le _ _) (by rw [List.length_range]; exact Nat.le_refl _)
theorem thrT_ok (row : List Int) (m sd : Int) (hs : sd = -1 ∨ sd = 1) (k : Nat) : TurnOk k (thrT row m sd k) := by
  refine ⟨?_, fun e he => ?_⟩
  · unfold thrT
    rw [List.map_map, List.Nodup, List.pairwise_map]
    refine (List.Pairwise.filter _ (List.pairwise_lt_range (n := k))).imp fun {a b} h e => ?_
    have : (a : Int) = (b : Int) := (Prod.mk.inj e).1
    omega
  · unfold thrT at he
    obtain ⟨h, hh, rfl⟩ := List.mem_map.mp he
    have := List.mem_range.mp (List.mem_filter.mp hh).1
    exact ⟨Int.natCast_nonneg h, Int.ofNat_lt.mpr this, hs, Int.one_pos⟩
theorem thrT_tl (row : List Int) (m sd s : Int) (a : Int) (a0 : 0 ≤ a) : ∀ k : Nat, tl (thrT row m sd k) a s = if a < k ∧ gI row a = m ∧ sd = s then 1 else 0
  | 0 => by
    rw [if_neg (by omega)]
    rfl
  | k + 1 => by
    rw [thrT_succ, tl_append, thrT_tl row m sd s a a0 k]
    by_cases c : gI row (k : Int) = m
    · rw [if_pos c]
      have e1 : tl [((k : Int), sd, (1 : Int))] a s = if (k : Int) = a ∧ sd = s then 1 else 0 := by
        rw [tl_cons]
        show _ + 0 = _
        rw [Int.add_zero]
      rw [e1]
      by_cases d : (k : Int) = a
      · subst d
        rw [if_neg (by omega)]
        by_cases e : sd = s
        · rw [if_pos ⟨rfl, e⟩, if_pos ⟨by omega, c, e⟩]; rfl
        · rw [if_neg (fun h => e h.2), if_neg (fun h => e h.2.2)]; rfl
      · have e3 : (if (k : Int) = a ∧ sd = s then (1 : Int) else 0) = 0 := if_neg (fun h => d h.1)
        rw [e3, Int.add_zero]
        by_cases e : a < k ∧ gI row a = m ∧ sd = s
        · rw [if_pos e, if_pos ⟨by omega, e.2⟩]
        · rw [if_neg e, if_neg (fun h => e ⟨by omega, h.2⟩)]
    · rw [if_neg c]
      show _ + 0 = _
      rw [Int.add_zero]
      by_cases e : a < k ∧ gI row a = m ∧ sd = s
      · rw [if_pos e, if_pos ⟨by omega, e.2⟩]
      · rw [if_neg e, if_neg (fun h => ?_)]
        by_cases d : (k : Int) = a
        · rw [d] at c
          exact c h.2.1
        · exact e ⟨by omega, h.2⟩
theorem thrT_tells (row : List Int) (m sd : Int) : Tells row.length row (thrT row m sd row.length) := fun a b a0 a1 b0 b1 e => by
  rw [thrT_tl _ _ _ _ _ a0, thrT_tl _ _ _ _ _ b0, thrT_tl _ _ _ _ _ a0, thrT_tl _ _ _ _ _ b0, e]
  refine ⟨?_, ?_⟩
  · by_cases h : gI row b = m ∧ sd = -1
    · rw [if_pos ⟨a1, h⟩, if_pos ⟨b1, h⟩]
    · rw [if_neg (fun q => h q.2), if_neg (fun q => h q.2)]
  · by_cases h : gI row b = m ∧ sd = 1
    · rw [if_pos ⟨a1, h⟩, if_pos ⟨b1, h⟩]
    · rw [if_neg (fun q => h q.2), if_neg (fun q => h q.2)]
section
variable {P : Program} {w : World} {K : PySem.W.Frag} {mg : Str → Option Value} {base : Heap}
abbrev s29 : Stmt := topS 29
theorem sc29 : FnScope ["_law_box_here", "_law_row", "_law_some", "_law_mark", "_law_fewest", "_law_side", "_law_one", "_law_house"] ["_law_box_here", "_law_row"] (defScope s29) := ⟨rfl, rfl, rfl, by decide +kernel, rfl, by decide +kernel, by decide +kernel⟩
abbrev D29 (K : PySem.W.Frag) (mg : Str → Option Value) := Df K mg "_law_thrifty_turn" s29 ["_law_box_here", "_law_row"]
theorem ok_tturn (D : D29 K mg) (T : Txt mg) (D__law_draw : D20 K mg) : FnOk P w K mg base CX0 2 D.f D.fd ["_law_box_here", "_law_row"] spTurn := by
  have G__law_draw : FnOk P w K mg base CX0 1 _ _ _ _ := ok_draw D__law_draw T
  refine D.F.ok sc29 (fun vs H Q E h => ?_) (fun cdv A outer s H vs Q E hr h => ?_)
  · obtain ⟨b, l, r, row, c, rfl, _⟩ := h
    rfl
  · obtain ⟨b, l, r, row, c, rfl, hR, hn, hn2, hB, hc, q⟩ := h
    refine ⟨_, (pss_cons (ps_set (i := 2) sc29.nd rfl (Or.inl rfl) (pe_callB (cr_sortedSet rfl) (by rfl) T.sorted (by decide +kernel) (pa_cons (pe_callTy (cr_setI rfl) (by rfl) T.set (by decide +kernel) (pa_cons (pv 1) pa_nil)) pa_nil)))
  (pss_cons (ps_set (i := 4) sc29.nd rfl (Or.inr rfl) (pe_callB (cr_min rfl) (by rfl) T.min (by decide +kernel) (pa_cons (pe_lc (own := [("_law_mark", 3)]) (g := (gName 3)) (tt := tYes) (te := (tTCnt (tVar 1) (tVar 3))) rfl sc29.nd (pi_list (pv 2)) (blkOk_by (N := ["_law_box_here", "_law_row", "_law_some", "_law_mark", "_law_fewest", "_law_side", "_law_one", "_law_house"]) (sc := defScope (topS 29)) (by decide +kernel)) (fun _ _ _ _ _ => (pg_name (i := 3) sc29.nd rfl (Or.inl rfl) (Or.inr rfl))) (fun _ _ _ _ _ => pts_nil) (fun _ _ _ _ _ => (pe_tcount (pv 1) (pv 3)))) pa_nil)))
  (pss_cons (ps_set (i := 3) sc29.nd rfl (Or.inr rfl) (pe_ix ix_list (pe_lc (own := [("_law_one", 6)]) (g := (gName 6)) (tt := (tTest (tOp (rEq) (tTCnt (tVar 1) (tVar 6)) (tVar 4)))) (te := (tVar 6)) rfl sc29.nd (pi_list (pv 2)) (blkOk_by (N := ["_law_box_here", "_law_row", "_law_some", "_law_mark", "_law_fewest", "_law_side", "_law_one", "_law_house"]) (sc := defScope (topS 29)) (by decide +kernel)) (fun _ _ _ _ _ => (pg_name (i := 6) sc29.nd rfl (Or.inl rfl) (Or.inr rfl))) (fun _ _ _ _ _ => (pts_one (pt_cmpR op_eq (pe_tcount (pv 1) (pv 6)) (pv 4) (nomark _)))) (fun _ _ _ _ _ => (pv 6))) pe_int (fun _ _ => rfl)))
  (C8.pss_cut (ps_if (pt_cmpR op_eq (pe_call G__law_draw (hr.mono (by decide)) (by rfl) D__law_draw.g D__law_draw.F.kp D__law_draw.b .nil pass0 (pa_cons (pv 0) (pa_cons pe_int pa_nil))) pe_int (nomark _))
  (pss_one (ps_set (i := 3) sc29.nd rfl (Or.inr rfl) (pe_ix ix_list (pv 2) (pe_call G__law_draw (hr.mono (by decide)) (by rfl) D__law_draw.g D__law_draw.F.kp D__law_draw.b .nil pass0 (pa_cons (pv 0) (pa_cons (pe_callB call_len_seq (by rfl) T.len (by decide +kernel) (pa_cons (pv 2) pa_nil)) pa_nil))) (fun _ _ => rfl))))
  pss_nil)
  (pss_cons (ps_set (i := 5) sc29.nd rfl (Or.inr rfl) (pe_ix ix_list (pe_lst (pa_cons (pe_un un_neg pe_int) (pa_cons pe_int pa_nil))) (pe_call G__law_draw (hr.mono (by decide)) (by rfl) D__law_draw.g D__law_draw.F.kp D__law_draw.b .nil pass0 (pa_cons (pv 0) (pa_cons pe_int pa_nil))) (fun _ _ => rfl)))
  (pss_one (ps_ret (pe_callTy call_tuple_of (by rfl) T.tuple (by decide +kernel) (pa_cons (pe_lc (own := [("_law_house", 7), ("_law_one", 6)]) (g := (gTup K 2 (gCons (gName 7) (gCons (gName 6) gNil)))) (tt := (tTest (tOp (rEq) (tVar 6) (tVar 3)))) (te := (tTup (tCons (tVar 7) (tCons (tVar 5) (tCons (tC (.int 1)) tNil))))) rfl sc29.nd (pi_enumT (by rfl) T.enumerate (pa_cons (pv 1) pa_nil)) (blkOk_by (N := ["_law_box_here", "_law_row", "_law_some", "_law_mark", "_law_fewest", "_law_side", "_law_one", "_law_house"]) (sc := defScope (topS 29)) (by decide +kernel)) (fun _ _ _ _ _ => (pg_tup (n := 2) rfl (pgs_cons (pg_name (i := 7) sc29.nd rfl (Or.inl rfl) (Or.inr rfl)) (pgs_cons (pg_name (i := 6) sc29.nd rfl (Or.inl rfl) (Or.inr rfl)) pgs_nil)) rfl rfl)) (fun _ _ _ _ _ => (pts_one (pt_cmpR op_eq (pv 6) (pv 3) (nomark _)))) (fun _ _ _ _ _ => (pe_tup (pa_cons (pv 7) (pa_cons (pv 5) (pa_cons pe_int pa_nil)))))) pa_nil))))))))), ?_⟩
    -- sorted(set(row))
    refine ⟨_, rfl, r, row, rfl, .inr (tup_sq hR.tup), by omega, fun S cc nS hcc => ?_⟩
    have sS := same_new (o := SetO w S (fun j => decide (j ∈ row)) cc) nS
    refine ⟨S, _, cc, rfl, upd_same, by omega, fun us p up um ul np => ?_⟩
    have eus : ∀ z, z ∈ us ↔ z ∈ row := fun z => by rw [um z]; exact decide_eq_true_iff
    have sp := same_new (o := .lst (us.map V.int)) np
    have s1 := sS.trans sp
    have hp1 : (upd (upd H S (SetO w S (fun j => decide (j ∈ row)) cc)) p (.lst (us.map V.int))) p = some (.lst (vI us)) := upd_same
    have hB1 := hB.same s1
    have hpb := (hB.same sS).new np
    have hR1 := s1.ts.f hR
    have ul11 : us.length ≤ 11 := by omega
    have upos : 0 < us.length := by
      obtain ⟨z, hz⟩ := List.exists_mem_of_length_pos hn
      exact List.length_pos_of_mem ((eus z).mpr hz)
    -- fewest
    refine ⟨_, rfl, p, rfl, ⟨_, SqL.of hp1⟩, fun L nL => ?_⟩
    refine lc_vals (walk_list (K := K) (a := p) (xs := vI us)) (fun _ => true) (fun i => .int ((row.count (us.getD i 0) : Nat) : Int)) nL (by rw [List.length_map]; omega) (fun H2 s2 => SqL.of (s2 _ _ hp1)) yAt_same ?_ ?_
    · rintro i x H1 H2 hi s2 ⟨rfl, hx⟩ k k0 hk hk0
      obtain ⟨z, hz, rfl⟩ := of_vI hx
      have eg : us.getD i 0 = z := by rw [List.getD_eq_getElem?_getD, hz]; rfl
      rw [eg] at hk
      refine ⟨rfl, yesT ?_⟩
      have h1 := s2.ts.f hR1
      exact ⟨_, rfl, r, row, rfl, h1, _, rfl, z, rfl, h1, hk rfl _ (Same.refl _)⟩
    intro H2 s2 hL
    have e1 : ((List.range (vI us).length).filter (fun _ => true)).map (fun i => V.int ((row.count (us.getD i 0) : Nat) : Int)) = vI (us.map fun x => ((row.count x : Nat) : Int)) := by
      show _ = List.map V.int _
      rw [filter_all, List.length_map, range_map_getD us 0 (fun x => V.int ((row.count x : Nat) : Int)), List.map_map]
      rfl
    rw [e1] at hL
    refine ⟨L, _, rfl, SqL.of hL, by rw [List.length_map]; exact upos, fun m hm hle => ?_⟩
    have hp2 := s2 _ _ hp1
    have hR2 := s2.ts.f hR1
    have hB2 := hB1.same s2
    have s02 := s1.trans s2
    -- mark
    refine ⟨_, rfl, p, rfl, ⟨_, SqL.of hp2⟩, fun Lq nL2 => ?_⟩
    refine lc_vals (walk_list (K := K) (a := p) (xs := vI us)) (fun i => decide (((row.count (us.getD i 0) : Nat) : Int) = m)) (fun i => .int (us.getD i 0)) nL2 (by rw [List.length_map]; omega) (fun H3 s3 => SqL.of (s3 _ _ hp2)) yAt_same ?_ ?_
    · rintro i x H3 H4 hi s3 ⟨rfl, hx⟩ k k0 hk hk0
      obtain ⟨z, hz, rfl⟩ := of_vI hx
      have eg : us.getD i 0 = z := by rw [List.getD_eq_getElem?_getD, hz]; rfl
      rw [eg] at hk hk0
      refine ⟨rfl, ?_⟩
      have h1 := s3.ts.f hR2
      refine ⟨_, rfl, r, row, rfl, h1, _, rfl, z, rfl, h1, _, rfl, rfl, _, rfl, ?_⟩
      cases hb : decide (((row.count z : Nat) : Int) = m) with
      | true =>
        rw [decide_eq_true (congrArg V.int (of_decide_eq_true hb))]
        exact ⟨_, rfl, hk hb _ (Same.refl _)⟩
      | false =>
        rw [decide_eq_false (fun e => of_decide_eq_false hb (V.int.inj e))]
        exact hk0 hb _ (Same.refl _)
    intro H3 s3 hL2
    have e2 : ((List.range (vI us).length).filter (fun i => decide (((row.count (us.getD i 0) : Nat) : Int) = m))).map (fun i => V.int (us.getD i 0)) = vI (us.filter fun x => decide (((row.count x : Nat) : Int) = m)) := by
      rw [List.length_map, filt_list us 0 (fun x => decide (((row.count x : Nat) : Int) = m)) V.int]
    rw [e2] at hL2
    obtain ⟨z0, hz0⟩ : ∃ z, (us.filter fun x => decide (((row.count x : Nat) : Int) = m))[0]? = some z := by
      obtain ⟨x, hx, ex⟩ := List.mem_map.mp hm
      have : x ∈ us.filter fun x => decide (((row.count x : Nat) : Int) = m) := List.mem_filter.mpr ⟨hx, decide_eq_true ex⟩
      exact ⟨_, List.getElem?_eq_getElem (List.length_pos_of_mem this)⟩
    refine ⟨Lq, _, 0, _, rfl, rfl, SqL.of hL2, at_int (Int.le_refl 0) (vI_at hz0), ?_⟩
    have hp3 := s3 _ _ hp2
    have hR3 := s3.ts.f hR2
    have hB3 := hB2.same s3
    have s03 := s02.trans s3
    -- the draw of another
    refine ⟨fun σ' H' => ∃ (mk : Int) , σ' = [some (.ref b), some (.ref r), some (.ref p), some (.int mk), some (.int m), none, none, none] ∧ SameB b l H3 H' ∧ Box H' b l (c + 2), ?_, ?_⟩
    · refine ⟨_, rfl, b, l, 2, c, rfl, by omega, by omega, hB3, by omega, fun H4 r1 hB4 s4 r10 r11 => ?_⟩
      refine ⟨rfl, _, rfl, ?_⟩
      by_cases c1 : r1 = 0
      · rw [decide_eq_true (congrArg V.int c1)]
        refine iteT ?_
        have hp4 := s4 _ _ hpb.1 hpb.2 hp3
        refine ⟨_, rfl, _, rfl, _, rfl, p, _, rfl, .inl (SqL.of hp4), ?_⟩
        rw [List.length_map]
        refine ⟨b, l, _, c + 1, rfl, by omega, by omega, hB4, by omega, fun H5 r2 hB5 s5 r20 r21 => ?_⟩
        have hp5 := s5 _ _ hpb.1 hpb.2 hp4
        have hlt : r2.toNat < us.length := by omega
        refine ⟨p, _, _, _, rfl, rfl, SqL.of hp5, at_int r20 (vI_at (List.getElem?_eq_getElem hlt)), ?_⟩
        exact ⟨_, rfl, s4.trans s5, hB5.le (by omega)⟩
      · rw [decide_eq_false (fun e => c1 (V.int.inj e))]
        refine iteF ?_
        exact ⟨_, rfl, s4, hB4.le (by omega)⟩
    rintro σ' H4 ⟨mk, rfl, s4, hB4⟩
    -- side
    refine ⟨_, rfl, szle (show 2 ≤ 1000 by decide), fun q1 nq1 => ?_⟩
    have hq1 := hB4.new nq1
    have t1 := same_new (o := .lst [V.int (-1), V.int 1]) nq1
    refine ⟨_, rfl, b, l, 2, c + 2, rfl, by omega, by omega, hB4.same t1, by omega, fun H5 r1 hB5 s5 r10 r11 => ?_⟩
    have hq5 : H5 q1 = some (.lst [V.int (-1), V.int 1]) := s5 _ _ hq1.1 hq1.2 upd_same
    obtain ⟨sd, esd, hsd⟩ : ∃ sd : Int, atI [V.int (-1), V.int 1] r1 = some (.int sd) ∧ (sd = -1 ∨ sd = 1) := by
      have : r1 = 0 ∨ r1 = 1 := by omega
      rcases this with rfl | rfl
      · exact ⟨-1, rfl, .inl rfl⟩
      · exact ⟨1, rfl, .inr rfl⟩
    refine ⟨q1, _, _, _, rfl, rfl, SqL.of hq5, esd, ?_⟩
    have s35 : SameB b l H3 H5 := s4.trans (t1.sb.trans s5)
    have hR5 := (hB3.ts s35).f hR3
    refine ⟨_, rfl, r, vI row, rfl, tup_sq hR5.tup, fun L3 nL3 => ?_⟩
    refine lc_refs TripT (fun _ _ _ _ s h => trip_mono s _ _ h) (walk_enumT (K := K) (a := r) (xs := vI row)) (fun (i : Nat) => decide (gI row (i : Int) = mk)) (fun (i : Nat) => ((i : Int), sd, (1 : Int))) nL3 (by rw [List.length_map]; omega) (fun H6 s6 => tup_sq (TupA.same s6 hR5.tup)) yPair_same ?_ ?_
    · rintro i x H6 H7 hi s6 ⟨T0, x1, x2, rfl, nT, rfl, e1, e2⟩ k k0 hk hk0
      cases e1
      obtain ⟨z, hz, rfl⟩ := of_vI e2
      obtain ⟨hil, ezz⟩ := List.getElem?_eq_some_iff.mp hz
      have ez : gI row (i : Int) = z := by
        have := gI_at (row := row) (z := (i : Int)) (by omega) (by omega)
        have e : ((i : Nat) : Int).toNat = i := by omega
        rw [e, hz] at this
        exact (Option.some.inj this).symm
      have hT0 : TupA (upd H6 T0 (.tup [.int ((i : Nat) : Int), .int z])) T0 [.int ((i : Nat) : Int), .int z] := tup_new
      refine ⟨T0, _, rfl, tup_sq hT0, rfl, _, _, rfl, _, _, rfl, rfl, ?_⟩
      refine ⟨rfl, ?_⟩
      refine ⟨_, rfl, _, rfl, rfl, _, rfl, ?_⟩
      rw [ez] at hk hk0
      cases hb : decide (z = mk) with
      | true =>
        rw [decide_eq_true (congrArg V.int (of_decide_eq_true hb))]
        refine ⟨_, rfl, _, rfl, szle (show 3 ≤ 1000 by decide), fun p3 np3 => ?_⟩
        exact hk hb p3 _ (same_new np3) tup_new
      | false =>
        rw [decide_eq_false (fun e => of_decide_eq_false hb (V.int.inj e))]
        exact hk0 hb _ (Same.refl _)
    intro H6 s6 hL3
    have e3 : ((List.range (vI row).length).filter (fun (i : Nat) => decide (gI row (i : Int) = mk))).map (fun (i : Nat) => ((i : Int), sd, (1 : Int))) = thrT row mk sd row.length := by
      rw [List.length_map]; rfl
    rw [e3] at hL3
    obtain ⟨ts, hts, htp⟩ := hL3
    refine ⟨L3, _, rfl, .inl ⟨SqL.of hts, fun t nt => ?_⟩⟩
    have s7 := same_new (o := .tup (vR ts)) nt
    refine q _ t (thrT row mk sd row.length) (((hB5.same s6).same s7).le (by omega)) (s03.sb.trans (s35.trans (s6.sb.trans s7.sb))) ⟨ts, tup_new, L2.Paired.mapP htp (trip_mono s7.ts)⟩ (thrT_ok row mk sd hsd _) (thrT_tells row mk sd) ?_
    have := thrT_len row mk sd row.length
    omega
end
end K62

set_option Elab.async false
set_option linter.all false
set_option maxRecDepth 100000
set_option maxHeartbeats 4000000
namespace K62
open PySem PySem.Spec PyProof.Rows L2
theorem CompLog.take {ring : List Int} {log : List Tr} (C : CompLog ring log) (i : Nat) : CompLog ring (log.take i) := fun k t h => by
  have hk : k < i := by
    have := (List.getElem?_eq_some_iff.mp h).1
    rw [List.length_take] at this
    omega
  rw [List.getElem?_take_of_lt hk] at h
  have e : (log.take i).take k = log.take k := by rw [List.take_take, Nat.min_eq_left (by omega)]
  rw [e]
  exact C k t h
theorem alone_nil {ring : List Int} {m : Nat} {log : List Tr} (C : CompLog ring log) (F : IsFl ring m) (h : total log < flo ring m) : aloneOf (stOf ring log).1 = [] := by
  refine List.eq_nil_iff_forall_not_mem.mpr fun x hx => ?_
  unfold aloneOf at hx
  obtain ⟨k, hk, _⟩ := List.mem_map.mp hx
  obtain ⟨h1, h2⟩ := List.mem_filter.mp hk
  have hl := (sim_log ring log C).len1
  have hlt := List.mem_range.mp h1
  have := alone_bound C F (k : Int) (by omega) (by omega) (by have := beq_iff_eq.mp h2; omega)
  omega
/-! ### turns as data -/
abbrev trD (e : Int × Int × Int) : PyData := .tuple ([e.1, e.2.1, e.2.2].map PyData.int)
theorem dpAll_trs {K : PySem.W.Frag} {H : Hp} : ∀ {as : List Addr} {t : Tr}, Paired (TripT H) as t → DpAll K H (vR as) (t.map trD)
  | _, _, .nil => .nil
  | _, _, .cons (b := e) h r => .cons (dp_tup [e.1, e.2.1, e.2.2] h) (dpAll_trs r)
theorem dp_turn {K : PySem.W.Frag} {H : Hp} {a : Addr} {t : Tr} (h : TurnT H a t) : Dp K H (.ref a) (.tuple (t.map trD)) := by
  obtain ⟨as, h1, h2⟩ := h
  exact .tup (tup_sq h1) (dpAll_trs h2)
theorem layAll_trs : ∀ t : Tr, PyData.canLayAll0 (t.map trD) = true
  | [] => rfl
  | e :: t => by
    show (PyData.canLayAll0 ([e.1, e.2.1, e.2.2].map PyData.int) && PyData.canLayAll0 (t.map trD)) = true
    rw [layAll_trs t, layAll_ints]
    rfl
theorem depthAll_trs : ∀ t : Tr, PyData.depthAll (t.map trD) ≤ 2
  | [] => by decide
  | e :: t => by
    have h := depthAll_trs t
    have h1 := depthAll_ints [e.1, e.2.1, e.2.2]
    show max (PyData.depthAll ([e.1, e.2.1, e.2.2].map PyData.int) + 1) (PyData.depthAll (t.map trD)) ≤ 2
    omega
theorem shaped_turn (t : Tr) : SeqAt.shaped (.tuple (t.map trD)) = true := shaped_tup (layAll_trs t) (Nat.le_trans (depthAll_trs t) (by decide))
theorem eqv_turn (t : Tr) : PyData.eqv (.tuple (t.map trD)) (.tuple []) = decide (t = []) := by
  cases t with
  | nil => rfl
  | cons e t => rfl
theorem dp_nil {K : PySem.W.Frag} {H : Hp} {a : Addr} (h : TupA H a []) : Dp K H (.ref a) (.tuple []) := .tup (tup_sq h) .nil
section
variable {P : Program} {w : World} {K : PySem.W.Frag} {mg : Str → Option Value} {base : Heap}
abbrev s30 : Stmt := topS 30
theorem sc30 : FnScope ["_law_ring", "_law_log", "_law_least", "_law_rows", "_law_gone", "_law_letters", "_law_k", "_law_turn", "_law_told_here", "_law_row", "_law_number"] ["_law_ring", "_law_log", "_law_least", "_law_rows"] (defScope s30) := ⟨rfl, rfl, rfl, by decide +kernel, rfl, by decide +kernel, by decide +kernel⟩
abbrev D30 (K : PySem.W.Frag) (mg : Str → Option Value) := Df K mg "_law_right" s30 ["_law_ring", "_law_log", "_law_least", "_law_rows"]
def spRight : Sp := fun vs H Q _ => ∃ (a lg rw : Addr) (ring : List Int) (log : List Tr) (m : Nat), vs = [.ref a, .ref lg, .int (flo ring m), .ref rw] ∧ IntsT H a ring ∧ LogT H lg log ∧ 0 < ring.length ∧ ring.length ≤ 900 ∧ log.length ≤ 25 ∧ (∀ t ∈ log, t.length ≤ 900) ∧ CompLog ring log ∧
  IsFl ring m ∧ m ≤ 6 ∧ TupOf RowF H rw ((List.range m).map fun (k : Nat) => kindRow ring (k : Int)) ∧ ∀ H', Same H H' → Q (.bl true) H'
theorem CompLog.turns {ring : List Int} {log : List Tr} (C : CompLog ring log) (h : ∀ t ∈ log, t.length ≤ 900) : TurnsOk ring.length log := fun t ht => by
  obtain ⟨k, hk⟩ := List.getElem?_of_mem ht
  exact ⟨(C k t hk).1, by have := h t ht; omega⟩
theorem ok_right (D : D30 K mg) (T : Txt mg) (D_log_letters : D17 K mg) (D_alone : D10 K mg) (D_marks : D7 K mg) (D_told_in : D3 K mg) (D_sights_behind : D4 K mg) (D_row_behind : D6 K mg) (D_heard_from : D5 K mg) (D_order_around : D1 K mg) (D_numbered : D2 K mg) :
    FnOk P w K mg base CX0 5 D.f D.fd ["_law_ring", "_law_log", "_law_least", "_law_rows"] spRight := by
  have G_log_letters : FnOk P w K mg base CX0 1 _ _ _ _ := ok_letters D_log_letters T
  have G_alone : FnOk P w K mg base CX0 4 _ _ _ _ := ok_alone D_alone T D_marks D_told_in D_sights_behind D_row_behind D_heard_from D_order_around D_numbered
  refine D.F.ok sc30 (fun vs H Q E h => ?_) (fun cdv A outer s H vs Q E hr h => ?_)
  · obtain ⟨a, lg, rw, ring, log, m, rfl, _⟩ := h
    rfl
  · obtain ⟨a, lg, rA, ring, log, m, rfl, hR, hG, hn, hn2, hll, htl, C, F, hm6, ⟨rs, hrs, hrp⟩, q⟩ := h
    have hG0 := hG
    obtain ⟨ls, hls, hlp⟩ := hG0
    have hlg := Paired.length hlp
    have hrl := Paired.length hrp
    rw [List.length_map, List.length_range] at hrl
    refine ⟨_, (pss_cons (ps_asg (pe_tup (pa_cons pe_int (pa_cons pe_int pa_nil))) (pg_tup (n := 2) rfl (pgs_cons (pg_name (i := 4) sc30.nd rfl (Or.inr rfl) (Or.inl rfl)) (pgs_cons (pg_name (i := 5) sc30.nd rfl (Or.inl rfl) (Or.inr rfl)) pgs_nil)) rfl rfl))
  (pss_cons (ps_for PassesOwn.never rfl (pi_enumT (by rfl) T.enumerate (pa_cons (pv 1) pa_nil)) (pg_tup (n := 2) rfl (pgs_cons (pg_name (i := 6) sc30.nd rfl (Or.inl rfl) (Or.inr rfl)) (pgs_cons (pg_name (i := 7) sc30.nd rfl (Or.inl rfl) (Or.inr rfl)) pgs_nil)) rfl rfl)
  (pss_cons (ps_set (i := 8) sc30.nd rfl (Or.inl rfl) (pe_callB (cr_sum rfl) (by rfl) T.sum (by decide +kernel) (pa_cons (pe_lc (own := [("_law_row", 9)]) (g := (gName 9)) (tt := tYes) (te := (tOp (rIxT K) (tVar 9) (tC (.int 2)))) rfl sc30.nd (pi_tup (pv 7)) (blkOk_by (N := ["_law_ring", "_law_log", "_law_least", "_law_rows", "_law_gone", "_law_letters", "_law_k", "_law_turn", "_law_told_here", "_law_row", "_law_number"]) (sc := defScope (topS 30)) (by decide +kernel)) (fun _ _ _ _ _ => (pg_name (i := 9) sc30.nd rfl (Or.inl rfl) (Or.inr rfl))) (fun _ _ _ _ _ => pts_nil) (fun _ _ _ _ _ => (pe_ix ix_tup (pv 9) pe_int (fun _ _ => rfl)))) pa_nil)))
  (C8.pss_cut (ps_if (PW.pt (pw_and (pt_cmpR (op_neD hr.units) (pv 7) (pe_tup pa_nil) (nomark _)) (pw_and1 (pt_cmpR op_lt (pv 4) (pe_callB call_len_seq (by rfl) T.len (by decide +kernel) (pa_cons (pv 3) pa_nil)) (nomark _)))))
  (pss_one (ps_if (pt_cmpR op_lt (pv 8) (pe_callB (cr_min rfl) (by rfl) T.min (by decide +kernel) (pa_cons (pe_lc (own := [("_law_number", 10)]) (g := (gName 10)) (tt := tYes) (te := (tTCnt (tOp (rIxT K) (tVar 3) (tVar 4)) (tVar 10))) rfl sc30.nd (pi_tup (pe_ix ix_tup (pv 3) (pv 4) (fun _ _ => rfl))) (blkOk_by (N := ["_law_ring", "_law_log", "_law_least", "_law_rows", "_law_gone", "_law_letters", "_law_k", "_law_turn", "_law_told_here", "_law_row", "_law_number"]) (sc := defScope (topS 30)) (by decide +kernel)) (fun _ _ _ _ _ => (pg_name (i := 10) sc30.nd rfl (Or.inl rfl) (Or.inr rfl))) (fun _ _ _ _ _ => pts_nil) (fun _ _ _ _ _ => (pe_tcount (pe_ix ix_tup (pv 3) (pv 4) (fun _ _ => rfl)) (pv 10)))) pa_nil)) (nomark _))
  (pss_one (ps_ret pe_bl))
  pss_nil))
  pss_nil)
  (pss_cons (ps_aug (i := 4) sc30.nd rfl (Or.inr rfl) (pe_callTy call_int1 (by rfl) T.int (by decide +kernel) (pa_cons (pe_cmpR (op_neD hr.units) (pv 7) (pe_tup pa_nil) (nomark _)) pa_nil)) ip_add)
  (pss_one (ps_aug (i := 5) sc30.nd rfl (Or.inl rfl) (pv 8) ip_add))))))
  (pss_one (ps_ret (pe_and (pe_cmpR op_eq (pv 5) (pe_call G_log_letters (hr.mono (by decide)) (by rfl) D_log_letters.g D_log_letters.F.kp D_log_letters.b .nil pass0 (pa_cons (pv 1) pa_nil)) (nomark _)) (pe_one (pe_or (pe_cmpR op_ge (pv 5) (pv 2) (nomark _)) (pe_one (pe_cmpR (op_eqD hr.units) (pe_call G_alone (hr.mono (by decide)) (by rfl) D_alone.g D_alone.F.kp D_alone.b .nil pass0 (pa_cons (pv 0) (pa_cons (pv 1) pa_nil))) (pe_tup pa_nil) (nomark _)))))))))), ?_⟩
    refine ⟨small2, fun p0 np0 => ?_⟩
    have s0 := same_new (o := .tup [.int 0, .int 0]) np0
    refine ⟨p0, _, rfl, tup_sq tup_new, rfl, _, _, rfl, _, _, rfl, rfl, ?_⟩
    refine ⟨_, rfl, lg, vR ls, rfl, tup_sq (TupA.same s0 hls), for_it (walk_enumT (K := K) (a := lg) (xs := vR ls)) (fun i σ H' => ∃ y6 y7 y8, σ = [some (.ref a), some (.ref lg), some (.int (flo ring m)), some (.ref rA), some (.int ((gone (log.take i) : Nat) : Int)), some (.int (total (log.take i))), y6, y7, y8, none, none] ∧ Same H H')
      ⟨none, none, none, rfl, s0⟩ (fun i σ H' _ ⟨_, _, _, _, z⟩ => tup_sq (TupA.same z hls)) ?_ ?_⟩
    · rintro i x σ H1 H2 hi ⟨y6, y7, y8, rfl, s1⟩ ⟨T0, x1, x2, rfl, nT, rfl, e1, e2⟩
      cases e1
      obtain ⟨b, hb, rfl⟩ := of_vR e2
      obtain ⟨t, ht, htT⟩ := paired_get hlp hb
      have sT := same_new (o := .tup [.int ((i : Nat) : Int), .ref b]) nT
      have hT0 : TupA (upd H1 T0 (.tup [.int ((i : Nat) : Int), .ref b])) T0 [.int ((i : Nat) : Int), .ref b] := tup_new
      generalize upd H1 T0 (.tup [.int ((i : Nat) : Int), .ref b]) = H2 at sT hT0
      refine ⟨T0, _, rfl, tup_sq hT0, rfl, _, _, rfl, _, _, rfl, rfl, ?_⟩
      have s2 := s1.trans sT
      have htT2 := turn_mono s2.ts _ _ htT
      obtain ⟨ts, hts, htp⟩ := htT2
      have htlen := Paired.length htp
      have ht9 := htl t (List.mem_of_getElem? ht)
      -- the letters of the turn
      refine ⟨_, rfl, b, rfl, ⟨_, tup_sq hts⟩, fun M nM => ?_⟩
      refine lc_vals (walk_tup (K := K) (a := b) (xs := vR ts)) (fun _ => true) (fun j => .int (t.getD j (0, 0, 0)).2.2) nM (by rw [List.length_map]; omega) (fun H3 s3 => tup_sq (TupA.same s3 hts)) yAt_same ?_ ?_
      · rintro j y H3 H4 hj s3 ⟨rfl, hy⟩ k' k0' hk' hk0'
        obtain ⟨c, hc, rfl⟩ := of_vR hy
        obtain ⟨e, he, hE⟩ := paired_get htp hc
        have eg2 : t.getD j (0, 0, 0) = e := by rw [List.getD_eq_getElem?_getD, he]; rfl
        rw [eg2] at hk'
        refine ⟨rfl, yesT ?_⟩
        exact ⟨_, rfl, c, _, 2, _, rfl, rfl, tup_sq (TupA.same s3 hE), atI_nat (j := 2) rfl, hk' rfl _ (Same.refl _)⟩
      intro H3 s3 hM
      have e1 : ((List.range (vR ts).length).filter (fun _ => true)).map (fun j => V.int (t.getD j (0, 0, 0)).2.2) = vI (t.map (·.2.2)) := by
        show _ = List.map V.int _
        rw [filter_all, List.length_map, htlen, range_map_getD t (0, 0, 0) (fun e => V.int e.2.2), List.map_map]
        rfl
      rw [e1] at hM
      refine ⟨M, _, rfl, SqL.of hM, ?_⟩
      have s03 := s2.trans s3
      have htT3 := turn_mono s03.ts _ _ htT
      have Ct := C.take i
      obtain ⟨hok, htells⟩ := C i t ht
      refine ⟨fun σ' H' => σ' = [some (.ref a), some (.ref lg), some (.int (flo ring m)), some (.ref rA), some (.int ((gone (log.take i) : Nat) : Int)), some (.int (total (log.take i))), some (.int (i : Int)), some (.ref b), some (.int (letters t)), none, none] ∧ Same H3 H', ?_, ?_⟩
      · refine ⟨_, rfl, szle (Nat.zero_le _), fun p1 np1 => ?_⟩
        have s4 := same_new (o := .tup []) np1
        refine ⟨_, _, dp_turn (turn_mono s4.ts _ _ htT3), dp_nil tup_new, shaped_turn t, by decide, ?_⟩
        rw [eqv_turn]
        refine ⟨_, rfl, ?_⟩
        by_cases c1 : t = []
        · rw [decide_eq_true c1]
          refine iteF ?_
          refine iteF ?_
          exact ⟨rfl, s4⟩
        · rw [decide_eq_false c1]
          refine iteT ?_
          have hrs4 := TupA.same (s03.trans s4) hrs
          have hlr : ((vR rs).length : Int) = (m : Int) := by rw [List.length_map, hrl]
          refine ⟨_, rfl, _, rfl, rA, _, rfl, .inr (tup_sq hrs4), _, _, rfl, rfl, _, rfl, ?_⟩
          rw [hlr]
          by_cases c2 : gone (log.take i) < m
          · have c2' : ((gone (log.take i) : Nat) : Int) < (m : Int) := by omega
            rw [decide_eq_true c2']
            refine iteT ?_
            have hbound := turn_bound (sim_log ring _ Ct) hok htells c1
            generalize hg : gone (log.take i) = g at c2 hbound
            have hkr : ((List.range m).map fun (k : Nat) => kindRow ring (k : Int))[g]? = some (kindRow ring (g : Int)) := by
              rw [List.getElem?_map, List.getElem?_range c2]
              rfl
            obtain ⟨rb, hrb, hrow⟩ := Paired.at hrp hkr
            have hrow4 := rowf_mono (s03.trans s4).ts _ _ hrow
            have hkl := kindRow_length ring (g : Int)
            refine ⟨_, rfl, _, rfl, _, rfl, rA, _, _, _, rfl, rfl, tup_sq hrs4, atI_nat (vR_at hrb), rb, rfl, ⟨_, tup_sq hrow4.tup⟩, fun L nL => ?_⟩
            refine lc_vals (walk_tup (K := K) (a := rb) (xs := vI (kindRow ring (g : Int)))) (fun _ => true) (fun j => .int (((kindRow ring (g : Int)).count ((kindRow ring (g : Int)).getD j 0) : Nat) : Int)) nL (by rw [List.length_map]; omega) (fun H5 s5 => tup_sq (TupA.same s5 hrow4.tup)) yAt_same ?_ ?_
            · rintro j y H5 H6 hj s5 ⟨rfl, hy⟩ k' k0' hk' hk0'
              obtain ⟨z, hz, rfl⟩ := of_vI hy
              have eg : (kindRow ring (g : Int)).getD j 0 = z := by rw [List.getD_eq_getElem?_getD, hz]; rfl
              rw [eg] at hk'
              refine ⟨rfl, yesT ?_⟩
              have h1 := rowf_mono s5.ts _ _ hrow4
              exact ⟨_, rfl, _, rfl, rA, _, _, _, rfl, rfl, tup_sq (TupA.same s5 hrs4), atI_nat (vR_at hrb), rb, kindRow ring (g : Int), rfl, h1, _, rfl, z, rfl, h1, hk' rfl _ (Same.refl _)⟩
            intro H5 s5 hL
            have e2 : ((List.range (vI (kindRow ring (g : Int))).length).filter (fun _ => true)).map (fun j => V.int (((kindRow ring (g : Int)).count ((kindRow ring (g : Int)).getD j 0) : Nat) : Int)) = vI (counts (kindRow ring (g : Int))) := by
              show _ = List.map V.int _
              rw [filter_all, List.length_map, range_map_getD (kindRow ring (g : Int)) 0 (fun x => V.int (((kindRow ring (g : Int)).count x : Nat) : Int)), counts, List.map_map]
              rfl
            rw [e2] at hL
            refine ⟨L, _, rfl, SqL.of hL, by rw [counts, List.length_map]; omega, fun mm hm hle => ?_⟩
            have emm := few_eq hm hle
            refine ⟨_, _, rfl, rfl, _, rfl, ?_⟩
            have hnl : ¬ (t.map (·.2.2)).sum < mm := by
              have : letters t = (t.map (·.2.2)).sum := rfl
              omega
            rw [decide_eq_false hnl]
            refine iteF ?_
            exact ⟨rfl, s4.trans s5⟩
          · have c2' : ¬ ((gone (log.take i) : Nat) : Int) < (m : Int) := by omega
            rw [decide_eq_false c2']
            refine iteF ?_
            exact ⟨rfl, s4⟩
      rintro σ' H4 ⟨rfl, s4⟩
      refine ⟨_, rfl, _, rfl, szle (Nat.zero_le _), fun p1 np1 => ?_⟩
      have s5 := same_new (o := .tup []) np1
      refine ⟨_, _, dp_turn (turn_mono (s4.trans s5).ts _ _ htT3), dp_nil tup_new, shaped_turn t, by decide, ?_⟩
      rw [eqv_turn]
      refine .inr ⟨_, rfl, _, _, rfl, rfl, ?_⟩
      refine ⟨_, rfl, _, rfl, _, _, rfl, rfl, ?_⟩
      refine ⟨some (.int (i : Int)), some (.ref b), some (.int (letters t)), ?_, s03.trans (s4.trans s5)⟩
      have etk : log.take (i + 1) = log.take i ++ [t] := by rw [List.take_add_one, ht]; rfl
      have eg : ((gone (log.take (i + 1)) : Nat) : Int) = ((gone (log.take i) : Nat) : Int) + (if (!decide (t = [])) = true then 1 else 0) := by
        rw [etk, gone_snoc]
        by_cases c : t = []
        · rw [if_pos c, decide_eq_true c]; rfl
        · rw [if_neg c, decide_eq_false c]; rfl
      have et : total (log.take (i + 1)) = total (log.take i) + letters t := by rw [etk, total_snoc]
      rw [eg, et]
      rfl
    rintro σ H1 ⟨y6, y7, y8, rfl, s1⟩
    have efull : log.take (vR ls).length = log := by rw [List.length_map, hlg]; exact List.take_length
    rw [efull]
    have hG1 := log_mono s1.ts hG
    refine ⟨_, rfl, _, rfl, lg, log, rfl, hG1, by omega, htl, fun H2 s2 => ?_⟩
    refine ⟨rfl, _, rfl, ?_⟩
    rw [decide_eq_true rfl]
    refine iteT ?_
    refine ⟨_, rfl, _, rfl, _, _, rfl, rfl, _, rfl, ?_⟩
    have s12 := s1.trans s2
    by_cases c : flo ring m ≤ total log
    · rw [decide_eq_true c]
      refine iteT ?_
      exact q _ s12
    · rw [decide_eq_false c]
      refine iteF ?_
      refine ⟨_, rfl, _, rfl, a, lg, ring, log, rfl, TupA.same s12 hR, log_mono s12.ts hG, hn, hn2, hll, C.turns htl, fun H3 p s3 hA => ?_⟩
      rw [alone_nil C F (by omega)] at hA
      refine ⟨szle (Nat.zero_le _), fun p1 np1 => ?_⟩
      have s4 := same_new (o := .tup []) np1
      refine ⟨_, _, dp_nil (TupA.same s4 hA), dp_nil tup_new, by decide, by decide, ?_⟩
      exact q _ (s12.trans (s3.trans s4))
end
end K62

set_option Elab.async false
set_option linter.all false
set_option maxRecDepth 100000
set_option maxHeartbeats 4000000
namespace K62
open PySem PySem.Spec PyProof.Rows L2
/-- where a round stands -/
structure Rnd (H : Hp) (b l rg rA L r sA : Addr) (ring : List Int) (m : Nat) (log : List Tr) (c : Int) : Prop where
  box : Box H b l c
  hring : IntsT H rg ring
  rows : TupOf RowF H rA ((List.range m).map fun (k : Nat) => kindRow ring (k : Int))
  nL : L ≠ b ∧ L ≠ l
  hlog : LstOf TurnT H L log
  row : RowF H r (stOf ring log).1
  nS : sA ≠ b ∧ sA ≠ l ∧ sA ≠ L
  sights : SightsL H sA (stOf ring log).2
  comp : CompLog ring log
  short : ∀ t ∈ log, t.length ≤ 22
theorem Rnd.sb {H H' : Hp} {b l rg rA L r sA : Addr} {ring : List Int} {m : Nat} {log : List Tr} {c c' : Int} (R : Rnd H b l rg rA L r sA ring m log c) (s : SameB b l H H') (hB : Box H' b l c') : Rnd H' b l rg rA L r sA ring m log c' := by
  have ts := R.box.ts s
  exact ⟨hB, TupA.mono ts.t R.hring, R.rows.mono ts (rowf_mono ts), R.nL, R.hlog.mono (fun o h => s _ _ R.nL.1 R.nL.2 h) (turn_mono ts), ts.f R.row, R.nS, R.sights.mono (fun o h => s _ _ R.nS.1 R.nS.2.1 h) (pair_mono ts), R.comp, R.short⟩
theorem Rnd.same {H H' : Hp} {b l rg rA L r sA : Addr} {ring : List Int} {m : Nat} {log : List Tr} {c : Int} (R : Rnd H b l rg rA L r sA ring m log c) (s : Same H H') : Rnd H' b l rg rA L r sA ring m log c := R.sb s.sb (R.box.same s)
theorem Rnd.le {H : Hp} {b l rg rA L r sA : Addr} {ring : List Int} {m : Nat} {log : List Tr} {c c' : Int} (R : Rnd H b l rg rA L r sA ring m log c) (h : c ≤ c') : Rnd H b l rg rA L r sA ring m log c' := R.sb (SameB.refl _ _ _) (R.box.le h)
theorem Rnd.turns {H : Hp} {b l rg rA L r sA : Addr} {ring : List Int} {m : Nat} {log : List Tr} {c : Int} (R : Rnd H b l rg rA L r sA ring m log c) : TurnsOk ring.length log := R.comp.turns fun t ht => by have := R.short t ht; omega
theorem eqv_nilT (ns : List Int) : PyData.eqv (.tuple (ns.map PyData.int)) (.tuple []) = decide (ns = []) := eqv_tup ns []
section
variable {P : Program} {w : World} {K : PySem.W.Frag} {mg : Str → Option Value} {base : Heap}
abbrev lS (y0 : Option V) (b : Addr) (y2 : Option V) (rg : Addr) (f : Int) (rA L r sA : Addr) (y9 y10 : Option V) : L2.St := [y0, some (.ref b), y2, some (.ref rg), some (.int f), some (.ref rA), some (.ref L), some (.ref r), some (.ref sA), y9, y10, none, none]
abbrev s31 : Stmt := topS 31
theorem sc31 : FnScope ["_law_script", "_law_box_here", "_law_again", "_law_ring", "_law_least", "_law_rows", "_law_log", "_law_row", "_law_sights", "_law_due", "_law_turn", "_law_house", "_law_mark"] ["_law_script"] (defScope s31) := ⟨rfl, rfl, rfl, by decide +kernel, rfl, by decide +kernel, by decide +kernel⟩
abbrev D31 (K : PySem.W.Frag) (mg : Str → Option Value) := Df K mg "law" s31 ["_law_script"]
def spLaw (K : PySem.W.Frag) : Sp := fun vs H Q _ => ∃ (a : Addr) (ns : List Int), vs = [.ref a] ∧ SqL K H a (vI ns) ∧ ∀ H', Q (.bl true) H'
theorem ok_law (D : D31 K mg) (T : Txt mg) (D__law_box : D19 K mg) (D__law_draw : D20 K mg) (D__law_mixed_up : D21 K mg) (D__law_from_behind : D22 K mg) (D__law_places : D23 K mg) (D__law_order : D24 K mg) (D__law_told : D25 K mg) (D__law_behind : D26 K mg) (D__law_small_ring : D27 K mg)
    (D__law_comparing_turn : D28 K mg) (D__law_thrifty_turn : D29 K mg) (D__law_right : D30 K mg) (D_order_around : D1 K mg) (D_numbered : D2 K mg) (D_told_in : D3 K mg) (D_sights_behind : D4 K mg) (D_heard_from : D5 K mg) (D_row_behind : D6 K mg) (D_marks : D7 K mg) (D_tells_alike : D8 K mg)
    (D_is_comparing : D9 K mg) (D_alone : D10 K mg) (D_kinds_at : D12 K mg) (D_fewest_of : D13 K mg) (D_floor_paper : D14 K mg) (D_floor : D15 K mg) (D_log_letters : D17 K mg) : FnOk P w K mg base CX0 6 D.f D.fd ["_law_script"] (spLaw K) := by
  have G__law_box : FnOk P w K mg base CX0 1 _ _ _ _ := ok_box D__law_box T
  have G__law_draw : FnOk P w K mg base CX0 1 _ _ _ _ := ok_draw D__law_draw T
  have G__law_small_ring : FnOk P w K mg base CX0 4 _ _ _ _ := ok_small D__law_small_ring T D__law_places D__law_draw D__law_mixed_up D__law_from_behind
  have G_floor : FnOk P w K mg base CX0 4 _ _ _ _ := ok_floor D_floor T D_floor_paper D_kinds_at D_fewest_of D_order_around D_numbered
  have G_floor_paper : FnOk P w K mg base CX0 3 _ _ _ _ := ok_paper D_floor_paper T D_kinds_at D_fewest_of D_order_around D_numbered
  have G_alone : FnOk P w K mg base CX0 4 _ _ _ _ := ok_alone D_alone T D_marks D_told_in D_sights_behind D_row_behind D_heard_from D_order_around D_numbered
  have G__law_thrifty_turn : FnOk P w K mg base CX0 2 _ _ _ _ := ok_tturn D__law_thrifty_turn T D__law_draw
  have G__law_comparing_turn : FnOk P w K mg base CX0 2 _ _ _ _ := ok_cturn D__law_comparing_turn T D__law_draw
  have G__law_behind : FnOk P w K mg base CX0 2 _ _ _ _ := ok_lbehind D__law_behind T D__law_told D__law_order
  have G_is_comparing : FnOk P w K mg base CX0 4 _ _ _ _ := ok_comp D_is_comparing T D_marks D_tells_alike D_told_in D_sights_behind D_row_behind D_heard_from D_order_around D_numbered
  have G__law_right : FnOk P w K mg base CX0 5 _ _ _ _ := ok_right D__law_right T D_log_letters D_alone D_marks D_told_in D_sights_behind D_row_behind D_heard_from D_order_around D_numbered
  refine D.F.ok sc31 (fun vs H Q E h => ?_) (fun cdv A outer s H vs Q E hr h => ?_)
  · obtain ⟨a, ns, rfl, _⟩ := h
    rfl
  · obtain ⟨a, ns, rfl, hS, q⟩ := h
    refine ⟨_, (pss_cons (ps_set (i := 1) sc31.nd rfl (Or.inl rfl) (pe_call G__law_box (hr.mono (by decide)) (by rfl) D__law_box.g D__law_box.F.kp D__law_box.b .nil pass0 (pa_cons (pv 0) pa_nil)))
  (pss_cons (ps_for PassesOwn.never rfl (pi_range1 (by rfl) T.range (pa_cons pe_int pa_nil)) (pg_name (i := 2) sc31.nd rfl (Or.inl rfl) (Or.inr rfl))
  (pss_cons (ps_set (i := 3) sc31.nd rfl (Or.inl rfl) (pe_call G__law_small_ring (hr.mono (by decide)) (by rfl) D__law_small_ring.g D__law_small_ring.F.kp D__law_small_ring.b .nil pass0 (pa_cons (pv 1) (pa_cons pe_int pa_nil))))
  (pss_cons (ps_par (i := 4) (j := 5) (by rfl) sc31.nd rfl rfl (by decide) rfl rfl (pa_cons (pe_call G_floor (hr.mono (by decide)) (by rfl) D_floor.g D_floor.F.kp D_floor.b .nil pass0 (pa_cons (pv 3) pa_nil)) (pa_cons (pe_call G_floor_paper (hr.mono (by decide)) (by rfl) D_floor_paper.g D_floor_paper.F.kp D_floor_paper.b .nil pass0 (pa_cons (pv 3) pa_nil)) pa_nil)) (by rfl))
  (pss_cons (ps_asg (pe_tup (pa_cons (pe_lst pa_nil) (pa_cons (pe_op op_repF (pe_tupF (pa_cons pe_int pa_nil)) (pe_callB call_len_seq (by rfl) T.len (by decide +kernel) (pa_cons (pv 3) pa_nil))) (pa_cons (pe_op op_rep (pe_lst (pa_cons (pe_tup (pa_cons pe_int (pa_cons pe_int pa_nil))) pa_nil)) (pe_callB call_len_seq (by rfl) T.len (by decide +kernel) (pa_cons (pv 3) pa_nil))) pa_nil)))) (pg_tup (n := 3) rfl (pgs_cons (pg_name (i := 6) sc31.nd rfl (Or.inl rfl) (Or.inr rfl)) (pgs_cons (pg_name (i := 7) sc31.nd rfl (Or.inr rfl) (Or.inl rfl)) (pgs_cons (pg_name (i := 8) sc31.nd rfl (Or.inl rfl) (Or.inr rfl)) pgs_nil))) rfl rfl))
  (C8.pss_cut (ps_while PassesOwn.never (pt_cmpR op_lt (pe_callB call_len_seq (by rfl) T.len (by decide +kernel) (pa_cons (pv 6) pa_nil)) pe_int (nomark _))
  (pss_cons (ps_set (i := 9) sc31.nd rfl (Or.inl rfl) (pe_callTy call_tuple_of (by rfl) T.tuple (by decide +kernel) (pa_cons (pe_lc (own := [("_law_house", 11), ("_law_mark", 12)]) (g := (gTup K 2 (gCons (gName 11) (gCons (gName 12) gNil)))) (tt := (tTest (tOp (rEq) (tTCnt (tVar 7) (tVar 12)) (tC (.int 1))))) (te := (tVar 11)) rfl sc31.nd (pi_enumT (by rfl) T.enumerate (pa_cons (pv 7) pa_nil)) (blkOk_by (N := ["_law_script", "_law_box_here", "_law_again", "_law_ring", "_law_least", "_law_rows", "_law_log", "_law_row", "_law_sights", "_law_due", "_law_turn", "_law_house", "_law_mark"]) (sc := defScope (topS 31)) (by decide +kernel)) (fun _ _ _ _ _ => (pg_tup (n := 2) rfl (pgs_cons (pg_name (i := 11) sc31.nd rfl (Or.inl rfl) (Or.inr rfl)) (pgs_cons (pg_name (i := 12) sc31.nd rfl (Or.inl rfl) (Or.inr rfl)) pgs_nil)) rfl rfl)) (fun _ _ _ _ _ => (pts_one (pt_cmpR op_eq (pe_tcount (pv 7) (pv 12)) pe_int (nomark _)))) (fun _ _ _ _ _ => (pv 11))) pa_nil)))
  (pss_cons (ps_if (pt_cmpR (op_neD hr.units) (pe_call G_alone (hr.mono (by decide)) (by rfl) D_alone.g D_alone.F.kp D_alone.b .nil pass0 (pa_cons (pv 3) (pa_cons (pe_callTy call_tuple_of (by rfl) T.tuple (by decide +kernel) (pa_cons (pv 6) pa_nil)) pa_nil))) (pv 9) (nomark _))
  (pss_one (ps_ret pe_bl))
  pss_nil)
  (pss_cons (ps_if (pt_cmpR (op_neD hr.units) (pv 9) (pe_tup pa_nil) (nomark _))
  (pss_one ps_break)
  pss_nil)
  (pss_cons (ps_set (i := 10) sc31.nd rfl (Or.inl rfl) (pe_call G__law_thrifty_turn (hr.mono (by decide)) (by rfl) D__law_thrifty_turn.g D__law_thrifty_turn.F.kp D__law_thrifty_turn.b .nil pass0 (pa_cons (pv 1) (pa_cons (pv 7) pa_nil))))
  (C8.pss_cut (ps_if (pt_cmpR op_eq (pe_call G__law_draw (hr.mono (by decide)) (by rfl) D__law_draw.g D__law_draw.F.kp D__law_draw.b .nil pass0 (pa_cons (pv 1) (pa_cons pe_int pa_nil))) pe_int (nomark _))
  (pss_one (ps_set (i := 10) sc31.nd rfl (Or.inl rfl) (pe_call G__law_comparing_turn (hr.mono (by decide)) (by rfl) D__law_comparing_turn.g D__law_comparing_turn.F.kp D__law_comparing_turn.b .nil pass0 (pa_cons (pv 1) (pa_cons (pv 7) pa_nil)))))
  pss_nil)
  (pss_cons (ps_expr (pe_bm PySem.F.plainAttrs_list PySem.F.slot_list_append PySem.F.type_list_append mt_append (pv 6) (pa_cons (pv 10) pa_nil)))
  (pss_one (ps_asg (pe_call G__law_behind (hr.mono (by decide)) (by rfl) D__law_behind.g D__law_behind.F.kp D__law_behind.b .nil pass0 (pa_cons (pv 3) (pa_cons (pv 7) (pa_cons (pv 8) (pa_cons (pv 10) pa_nil))))) (pg_tup (n := 2) rfl (pgs_cons (pg_name (i := 7) sc31.nd rfl (Or.inr rfl) (Or.inl rfl)) (pgs_cons (pg_name (i := 8) sc31.nd rfl (Or.inl rfl) (Or.inr rfl)) pgs_nil)) rfl rfl))))))))))
  (pss_cons (ps_set (i := 6) sc31.nd rfl (Or.inl rfl) (pe_callTy call_tuple_of (by rfl) T.tuple (by decide +kernel) (pa_cons (pv 6) pa_nil)))
  (pss_one (ps_if (PW.pt (pw_or (pt_cmpR op_notBl (pe_call G_is_comparing (hr.mono (by decide)) (by rfl) D_is_comparing.g D_is_comparing.F.kp D_is_comparing.b .nil pass0 (pa_cons (pv 3) (pa_cons (pv 6) pa_nil))) pe_bl (nomark _)) (pw_or1 (pt_not (pt_val (pe_call G__law_right (hr.mono (by decide)) (by rfl) D__law_right.g D__law_right.F.kp D__law_right.b .nil pass0 (pa_cons (pv 3) (pa_cons (pv 6) (pa_cons (pv 4) (pa_cons (pv 5) pa_nil))))))))))
  (pss_one (ps_ret pe_bl))
  pss_nil))))))))
  (pss_one (ps_ret pe_bl)))), ?_⟩
    refine ⟨_, rfl, a, ns, rfl, hS, fun H1 b l hB1 => ?_⟩
    refine ⟨3, rfl, by omega, by omega, for_range (lo := 0) (n := 3) (fun i σ H' => ∃ y0 y2 y3 y4 y5 y6 y7 y8 y9 y10, σ = [y0, some (.ref b), y2, y3, y4, y5, y6, y7, y8, y9, y10, none, none] ∧ Box H' b l (2000 * (i : Nat)))
      ⟨_, none, none, none, none, none, none, none, none, none, rfl, hB1.le (by omega)⟩ ?_ (fun σ H' _ => q _)⟩
    rintro i σ H2 hi ⟨y0, y2, y3, y4, y5, y6, y7, y8, y9, y10, rfl, hB2⟩
    have hi : i < 3 := by omega
    -- the ring
    refine ⟨_, rfl, b, l, _, rfl, hB2, by omega, fun H3 rg ring hB3 s3 hR hn hn2 hnd => ?_⟩
    refine ⟨_, rfl, rg, ring, rfl, hR, hn, hn2, hnd, fun H4 m s4 hF => ?_⟩
    have hR4 := TupA.same s4 hR
    refine ⟨_, rfl, rg, ring, rfl, hR4, hn, hn2, hnd, fun H5 rA m2 s5 hF2 hm6 hP => ?_⟩
    have em := hF.uniq hF2
    subst em
    refine ⟨.int (flo ring m), .ref rA, rfl, ?_⟩
    have s35 := s4.trans s5
    have hR5 := TupA.same s35 hR
    have hB5 := hB3.same s35
    have hlen : ((vI ring).length : Int) = (ring.length : Int) := by rw [List.length_map]
    -- log, row, sights
    refine ⟨Nat.zero_le _, fun L nL => ?_⟩
    have hLb := hB5.new nL
    have t1 := same_new (o := .lst []) nL
    have hL1 : (upd H5 L (.lst [])) L = some (.lst []) := upd_same
    generalize upd H5 L (.lst []) = H6 at t1 hL1
    refine ⟨by show 1 ≤ sizeLine; decide, fun z o nz oc od => ?_⟩
    have t2 := same_new (o := .frz o (.tup [.int 0])) nz
    have hz : TupF (upd H6 z (.frz o (.tup [.int 0]))) z [.int 0] := ⟨o, upd_same, oc, od⟩
    generalize upd H6 z (.frz o (.tup [.int 0])) = H7 at t2 hz
    have t12 := t1.trans t2
    refine ⟨_, rfl, rg, vI ring, rfl, .inr (tup_sq (TupA.same t12 hR5)), ?_⟩
    rw [hlen]
    refine ⟨z, _, _, rfl, rfl, hz, by simp, by omega, by omega, by show 1 ≤ 1000; omega, fun r H8 t3 h1 => ?_⟩
    have h1 : RowF H8 r (List.replicate ring.length 0) := by
      rw [flat_rep] at h1
      rw [RowF, vI_rep]
      exact h1
    have t13 := t12.trans t3
    refine ⟨small2, fun z2 nz2 => ?_⟩
    have t4 := same_new (o := .tup [.int 0, .int 0]) nz2
    have hz2 : PairT (upd H8 z2 (.tup [.int 0, .int 0])) z2 (0, 0) := tup_new
    generalize upd H8 z2 (.tup [.int 0, .int 0]) = H9 at t4 hz2
    refine ⟨by show 1 ≤ sizeLine; decide, fun z3 nz3 => ?_⟩
    have t5 := same_new (o := .lst [.ref z2]) nz3
    have hz3 : (upd H9 z3 (.lst [.ref z2])) z3 = some (.lst [.ref z2]) := upd_same
    generalize upd H9 z3 (.lst [.ref z2]) = H10 at t5 hz3
    have t15 := t13.trans (t4.trans t5)
    refine ⟨_, rfl, rg, vI ring, rfl, .inr (tup_sq (TupA.same t15 hR5)), ?_⟩
    rw [hlen]
    refine ⟨z3, _, _, rfl, rfl, hz3, by omega, by omega, by rw [sizeLine_eq]; show 1 * _ ≤ _; omega, fun sA nA => ?_⟩
    have t6 := same_new (o := .lst (List.replicate ((ring.length : Nat) : Int).toNat [V.ref z2]).flatten) nA
    have hsA : SightsL (upd H10 sA (.lst (List.replicate ((ring.length : Nat) : Int).toNat [V.ref z2]).flatten)) sA (ini ring.length).2 := by
      refine ⟨List.replicate ring.length z2, ?_, paired_rep ?_ _⟩
      · rw [upd_same, flat_rep, vR_rep]; rfl
      · exact TupA.same (t5.trans t6) hz2
    have hAb := (hB5.same t15).new nA
    have hLA : sA ≠ L := (ne_of_none (((t2.trans t3).trans (t4.trans t5)) _ _ hL1) nA).symm
    generalize upd H10 sA (.lst (List.replicate ((ring.length : Nat) : Int).toNat [V.ref z2]).flatten) = H11 at t6 hsA
    refine ⟨szle (show 3 ≤ 1000 by decide), fun p3 np3 => ?_⟩
    have t7 := same_new (o := .tup [.ref L, .ref r, .ref sA]) np3
    have t17 := t15.trans (t6.trans t7)
    have R0 : Rnd (upd H11 p3 (.tup [.ref L, .ref r, .ref sA])) b l rg rA L r sA ring m [] (2000 * (i : Nat) + 30 + 50 * (([] : List Tr).length : Nat)) :=
      ⟨(hB5.same t17).le (by omega), TupA.same t17 hR5, hP.mono t17.ts (rowf_mono t17.ts), hLb, ⟨[], ((((t2.trans t3).trans (t4.trans t5)).trans t6).trans t7) _ _ hL1, .nil⟩, rowf_mono (((t4.trans t5).trans t6).trans t7).ts _ _ h1, ⟨hAb.1, hAb.2, hLA⟩, hsA.mono (fun o e => t7 _ _ e) (pair_mono t7.ts), CompLog.nil ring, fun t ht => by cases ht⟩
    have hp3 : TupA (upd H11 p3 (.tup [.ref L, .ref r, .ref sA])) p3 [.ref L, .ref r, .ref sA] := tup_new
    generalize upd H11 p3 (.tup [.ref L, .ref r, .ref sA]) = H12 at R0 hp3
    refine ⟨p3, _, rfl, tup_sq hp3, rfl, _, _, rfl, _, _, rfl, _, _, rfl, rfl, ?_⟩
    -- the turns
    refine ⟨fun σ' H' => ∃ y2 L r sA log y9 y10, σ' = lS y0 b y2 rg (flo ring m) rA L r sA y9 y10 ∧ Rnd H' b l rg rA L r sA ring m log (2000 * (i : Nat) + 1500) ∧ log.length ≤ 20, ?_, ?_⟩
    · refine ⟨fun n σ' H' => ∃ y2 L r sA log y9 y10, σ' = lS y0 b y2 rg (flo ring m) rA L r sA y9 y10 ∧ Rnd H' b l rg rA L r sA ring m log (2000 * (i : Nat) + 30 + 50 * (log.length : Nat)) ∧ n + log.length = 20, ⟨20, _, L, r, sA, [], _, _, rfl, R0, rfl⟩, ?_⟩
      rintro n σ' H' ⟨y2, L, r, sA, log, y9, y10, rfl, R, hnl⟩
      obtain ⟨ls, hL, hLp⟩ := R.hlog
      have hll := Paired.length hLp
      have hLlen : ((vR ls).length : Int) = (log.length : Int) := by rw [List.length_map, hll]
      refine ⟨_, rfl, L, _, rfl, .inl (SqL.of hL), _, _, rfl, rfl, _, rfl, ?_⟩
      rw [hLlen]
      by_cases c : log.length < 20
      · have c' : (log.length : Int) < 20 := by omega
        rw [decide_eq_true c']
        refine iteT ?_
        refine ⟨fun σ' H' => ∃ y2 L r sA log y9 y10, σ' = lS y0 b y2 rg (flo ring m) rA L r sA y9 y10 ∧ Rnd H' b l rg rA L r sA ring m log (2000 * (i : Nat) + 30 + 50 * (log.length : Nat)) ∧ (n - 1) + log.length = 20, fun σ' H' hN => ⟨n - 1, by omega, hN⟩, ?_⟩
        have seen := seen_log ring log
        obtain ⟨row, hrow⟩ : ∃ row, row = (stOf ring log).1 := ⟨_, rfl⟩
        have hrw := R.row
        have hrl : row.length = ring.length := by rw [hrow]; exact seen.len1
        rw [← hrow] at hrw
        -- due
        refine ⟨_, rfl, r, vI row, rfl, tup_sq hrw.tup, fun Lc nLc => ?_⟩
        refine lc_vals (walk_enumT (K := K) (a := r) (xs := vI row)) (fun (i : Nat) => ((row.count (gI row (i : Int)) : Nat) : Int) == 1) (fun i => .int (i : Nat)) nLc (by rw [List.length_map]; omega) (fun H2 s2 => tup_sq (TupA.same s2 hrw.tup)) yPair_same ?_ ?_
        · rintro i x H2 H3 hi s2 ⟨T0, x1, x2, rfl, nT, rfl, e1, e2⟩ k k0 hk hk0
          cases e1
          obtain ⟨z, hz, rfl⟩ := of_vI e2
          obtain ⟨hil, ezz⟩ := List.getElem?_eq_some_iff.mp hz
          have ez : gI row (i : Int) = z := by
            have := gI_at (row := row) (z := (i : Int)) (by omega) (by omega)
            have e : ((i : Nat) : Int).toNat = i := by omega
            rw [e, hz] at this
            exact (Option.some.inj this).symm
          rw [ez] at hk hk0
          have sT := same_new (o := .tup [.int ((i : Nat) : Int), .int z]) nT
          have hT0 : TupA (upd H2 T0 (.tup [.int ((i : Nat) : Int), .int z])) T0 [.int ((i : Nat) : Int), .int z] := tup_new
          generalize upd H2 T0 (.tup [.int ((i : Nat) : Int), .int z]) = H3 at sT hT0 hk hk0
          refine ⟨T0, _, rfl, tup_sq hT0, rfl, _, _, rfl, _, _, rfl, rfl, ?_⟩
          refine ⟨rfl, ?_⟩
          have hrow3 := rowf_mono (s2.trans sT).ts _ _ hrw
          refine ⟨_, rfl, r, row, rfl, hrow3, _, rfl, z, rfl, hrow3, rfl, _, rfl, ?_⟩
          rw [dec_int]
          cases c : (((row.count z : Nat) : Int) == 1) with
          | true => exact iteT ⟨_, rfl, hk c _ (Same.refl _)⟩
          | false => exact iteF (hk0 c _ (Same.refl _))
        intro Ha sa hLc
        have ea : ((List.range (vI row).length).filter (fun (i : Nat) => ((row.count (gI row (i : Int)) : Nat) : Int) == 1)).map (fun i => V.int ((i : Nat) : Int)) = vI (aloneOf row) := by
          show _ = List.map V.int _
          rw [List.length_map, aloneOf, List.map_map]
          rfl
        rw [ea] at hLc
        refine ⟨Lc, _, rfl, .inl ⟨SqL.of hLc, fun due ndue => ?_⟩⟩
        have sb := same_new (o := .tup (vI (aloneOf row))) ndue
        have hdue : TupA (upd Ha due (.tup (vI (aloneOf row)))) due (vI (aloneOf row)) := tup_new
        have sab := sa.trans sb
        have Rb := R.same sab
        have hLb := sab _ _ hL
        have hLpb : Paired (TurnT (upd Ha due (.tup (vI (aloneOf row))))) ls log := L2.Paired.mapP hLp (turn_mono sab.ts)
        generalize upd Ha due (.tup (vI (aloneOf row))) = Hb at sab hdue Rb hLb hLpb
        -- alone
        refine ⟨_, rfl, _, rfl, L, _, rfl, .inl ⟨SqL.of hLb, fun p2 np2 => ?_⟩⟩
        have sc := same_new (o := .tup (vR ls)) np2
        have Rc := Rb.same sc
        refine ⟨rg, p2, ring, log, rfl, Rc.hring, ⟨ls, tup_new, L2.Paired.mapP hLpb (turn_mono sc.ts)⟩, hn, by omega, by omega, R.turns, fun Hd p4 sd hA => ?_⟩
        have Rd := Rc.same sd
        rw [← hrow] at hA
        refine ⟨_, rfl, _, _, dp_tup _ hA, dp_tup _ (TupA.same (sc.trans sd) hdue), shaped_ints _, shaped_ints _, ?_⟩
        rw [eqv_tup, decide_eq_true rfl]
        refine ⟨_, rfl, ?_⟩
        refine iteF ?_
        -- due != ()
        refine ⟨_, rfl, szle (Nat.zero_le _), fun p5 np5 => ?_⟩
        have se := same_new (o := .tup []) np5
        have Re := Rd.same se
        refine ⟨_, _, dp_tup _ (TupA.same (sc.trans (sd.trans se)) hdue), dp_nil tup_new, shaped_ints _, by decide, ?_⟩
        rw [eqv_nilT]
        refine ⟨_, rfl, ?_⟩
        by_cases cd : aloneOf row = []
        · rw [decide_eq_true cd]
          refine iteF ?_
          generalize upd Hd p5 (.tup []) = He at se Re
          -- the turn
          have hre : RowF He r row := by have := Re.row; rw [← hrow] at this; exact this
          refine ⟨_, rfl, _, rfl, b, l, r, row, _, rfl, hre, by omega, by omega, Re.box, by omega, fun H5 tA t hB5 s5 hT hok htells htl => ?_⟩
          have R5 := Re.sb s5 hB5
          rw [hrl] at hok htells
          refine ⟨fun σ' H' => ∃ t tA, σ' = lS y0 b y2 rg (flo ring m) rA L r sA (some (.ref due)) (some (.ref tA)) ∧ Rnd H' b l rg rA L r sA ring m log (2000 * (i : Nat) + 30 + 50 * (log.length : Nat) + 45) ∧ TurnT H' tA t ∧ TurnOk ring.length t ∧ Tells ring.length row t ∧ t.length ≤ 22, ?_, ?_⟩
          · refine ⟨_, rfl, b, l, 4, _, rfl, by omega, by omega, hB5, by omega, fun H6 r1 hB6 s6 r10 r11 => ?_⟩
            refine ⟨rfl, _, rfl, ?_⟩
            have R6 := R5.sb s6 hB6
            by_cases c1 : r1 = 0
            · rw [decide_eq_true (congrArg V.int c1)]
              refine iteT ?_
              have hr6 : RowF H6 r row := by have := R6.row; rw [← hrow] at this; exact this
              refine ⟨_, rfl, _, rfl, b, l, r, row, _, rfl, hr6, by omega, by omega, hB6, by omega, fun H7 tA2 t2 hB7 s7 hT2 hok2 htells2 htl2 => ?_⟩
              rw [hrl] at hok2 htells2
              exact ⟨t2, tA2, rfl, (R6.sb s7 hB7).le (by omega), hT2, hok2, htells2, htl2⟩
            · rw [decide_eq_false (fun e => c1 (V.int.inj e))]
              refine iteF ?_
              exact ⟨t, tA, rfl, R6.le (by omega), turn_mono (R5.box.ts s6) _ _ hT, hok, htells, htl⟩
          rintro σ' H7 ⟨t, tA, rfl, R7, hT, hok, htells, htl⟩
          -- log.append(turn)
          obtain ⟨ls7, hL7, hLp7⟩ := R7.hlog
          have hl7 := Paired.length hLp7
          refine ⟨_, rfl, .inl ⟨rfl, _, SqL.of hL7⟩, _, rfl, L, _, _, rfl, rfl, hL7, szlt (by rw [List.length_map, hl7]; omega), ?_⟩
          have ts8 : TSm H7 (upd H7 L (.lst (vR ls7 ++ [.ref tA]))) := TSm.lst hL7
          have hB8 := R7.box.upd (o := .lst (vR ls7 ++ [.ref tA])) R7.nL.1 R7.nL.2
          have hL8 : (upd H7 L (.lst (vR ls7 ++ [.ref tA]))) L = some (.lst (vR (ls7 ++ [tA]))) := by rw [upd_same, vR_snoc]
          have hT8 := turn_mono ts8 _ _ hT
          have hLp8 : Paired (TurnT (upd H7 L (.lst (vR ls7 ++ [.ref tA])))) (ls7 ++ [tA]) (log ++ [t]) := PySem.Paired.snoc (L2.Paired.mapP hLp7 (turn_mono ts8)) hT8
          have hR8 := TupA.mono ts8.t R7.hring
          have hP8 := R7.rows.mono ts8 (rowf_mono ts8)
          have hr8 : RowF (upd H7 L (.lst (vR ls7 ++ [.ref tA]))) r row := by have := ts8.f R7.row; rw [← hrow] at this; exact this
          have hS8 : SightsL (upd H7 L (.lst (vR ls7 ++ [.ref tA]))) sA (stOf ring log).2 := R7.sights.mono (fun o h => by rw [upd_ne R7.nS.2.2]; exact h) (pair_mono ts8)
          have hnL := R7.nL
          have hcomp := R7.comp
          have hshort := R7.short
          generalize upd H7 L (.lst (vR ls7 ++ [.ref tA])) = H8 at ts8 hB8 hL8 hT8 hLp8 hR8 hP8 hr8 hS8
          -- row, sights
          have hsee : See ring.length (sightsB (stOf ring log).2 t) := fun x x0 x1 => by
            have := seen_sights seen t x x0 x1
            omega
          refine ⟨_, rfl, _, rfl, _, rfl, _, rfl, rg, r, sA, tA, ring, row, (stOf ring log).2, t, rfl, hR8, hr8.tup, hS8, hT8, hok, by omega, hn, hn2, hrl, seen.len2, hsee, fun H9 p9 r9 sA9 s9 nsA9 hp9 hr9 hs9 => ?_⟩
          refine ⟨p9, _, rfl, tup_sq hp9, rfl, _, _, rfl, _, _, rfl, rfl, ?_⟩
          have hnew := hB8.new nsA9
          have hnewL : sA9 ≠ L := (ne_of_none hL8 nsA9).symm
          have est : stOf ring (log ++ [t]) = (rowB ring row t (sightsB (stOf ring log).2 t), sightsB (stOf ring log).2 t) := by rw [stOf_snoc, hrow]; rfl
          refine ⟨_, L, r9, sA9, log ++ [t], _, _, rfl, ?_, by rw [List.length_append, List.length_singleton]; omega⟩
          refine ⟨(hB8.same s9).le (by rw [List.length_append, List.length_singleton]; omega), TupA.same s9 hR8, hP8.mono s9.ts (rowf_mono s9.ts), hnL, ⟨ls7 ++ [tA], s9 _ _ hL8, L2.Paired.mapP hLp8 (turn_mono s9.ts)⟩, by rw [est]; exact hr9, ⟨hnew.1, hnew.2, hnewL⟩, by rw [est]; exact hs9, hcomp.snoc hok (by rw [← hrow]; exact htells), fun u hu => ?_⟩
          rcases List.mem_append.mp hu with h | h
          · exact hshort u h
          · rw [List.mem_singleton.mp h]; exact htl
        · rw [decide_eq_false cd]
          refine iteT ?_
          exact ⟨_, L, r, sA, log, _, _, rfl, Re.le (by omega), by omega⟩
      · have c' : ¬ (log.length : Int) < 20 := by omega
        rw [decide_eq_false c']
        refine iteF ?_
        exact ⟨_, L, r, sA, log, _, _, rfl, R.le (by omega), by omega⟩
    rintro σ' H' ⟨y2, L, r, sA, log, y9, y10, rfl, R, hll⟩
    obtain ⟨ls, hL, hLp⟩ := R.hlog
    refine ⟨_, rfl, L, _, rfl, .inl ⟨SqL.of hL, fun p np => ?_⟩⟩
    have s6 := same_new (o := .tup (vR ls)) np
    have R6 := R.same s6
    have hG : LogT (upd H' p (.tup (vR ls))) p log := ⟨ls, tup_new, L2.Paired.mapP hLp (turn_mono s6.ts)⟩
    generalize upd H' p (.tup (vR ls)) = H6 at s6 R6 hG
    -- is_comparing
    refine ⟨_, rfl, _, rfl, rg, p, ring, log, rfl, R6.hring, hG, hn, by omega, by omega, R.turns, R.comp, fun H7 s7 => ?_⟩
    refine ⟨true, true, rfl, rfl, _, rfl, ?_⟩
    refine iteF ?_
    -- _law_right
    refine ⟨_, rfl, _, rfl, _, rfl, _, rfl, rg, p, rA, ring, log, m, rfl, TupA.same s7 R6.hring, log_mono s7.ts hG, hn, by omega, by omega, fun t ht => Nat.le_trans (R.short t ht) (by decide), R.comp, hF, hm6, R6.rows.mono s7.ts (rowf_mono s7.ts), fun H8 s8 => ?_⟩
    refine ⟨_, rfl, ?_⟩
    refine iteF ?_
    exact ⟨_, _, _, _, _, _, _, _, _, _, rfl, ((R6.box.same s7).same s8).le (by omega)⟩
end
end K62

set_option Elab.async false
set_option linter.all false
set_option maxRecDepth 100000
set_option maxHeartbeats 4000000
namespace K62
open PySem PySem.Spec PyProof.Rows L2
theorem all_mk {l : PySem.W.OpenLaw} {w : World} {K : PySem.W.Frag} {h : Heap} {mg : Str → Option Value} {fa f1 f2 f3 f4 f5 f6 f7 f8 f9 f10 f12 f13 f14 f15 f17 f19 f20 f21 f22 f23 f24 f25 f26 f27 f28 f29 f30 f31 : Addr} (X : K.In h) (G : h.Ns mainGlobals mg) (hfa : mg "law" = some (.ref fa))
    {od1 an1 od2 an2 od3 an3 od4 an4 od5 an5 od6 an6 od7 an7 od8 an8 od9 an9 od10 an10 od12 an12 od13 an13 od14 an14 od15 an15 od17 an17 od19 an19 od20 an20 od21 an21 od22 an22 od23 an23 od24 an24 od25 an25 od26 an26 od27 an27 od28 an28 od29 an29 od30 an30 od31 an31 : Option Addr} {sl1 sl2 sl3 sl4 sl5 sl6 sl7 sl8 sl9 sl10 sl12 sl13 sl14 sl15 sl17 sl19 sl20 sl21 sl22 sl23 sl24 sl25 sl26 sl27 sl28 sl29 sl30 sl31 : Array (Option Value)} {oc1 kV1 dc1 pm1 cd1 ct1 oc2 kV2 dc2 pm2 cd2 ct2 oc3 kV3 dc3 pm3 cd3 ct3 oc4 kV4 dc4 pm4 cd4 ct4 oc5 kV5 dc5 pm5 cd5 ct5 oc6 kV6 dc6 pm6 cd6 ct6 oc7 kV7 dc7 pm7 cd7 ct7 oc8 kV8 dc8 pm8 cd8 ct8 oc9 kV9 dc9 pm9 cd9 ct9 oc10 kV10 dc10 pm10 cd10 ct10 oc12 kV12 dc12 pm12 cd12 ct12 oc13 kV13 dc13 pm13 cd13 ct13 oc14 kV14 dc14 pm14 cd14 ct14 oc15 kV15 dc15 pm15 cd15 ct15 oc17 kV17 dc17 pm17 cd17 ct17 oc19 kV19 dc19 pm19 cd19 ct19 oc20 kV20 dc20 pm20 cd20 ct20 oc21 kV21 dc21 pm21 cd21 ct21 oc22 kV22 dc22 pm22 cd22 ct22 oc23 kV23 dc23 pm23 cd23 ct23 oc24 kV24 dc24 pm24 cd24 ct24 oc25 kV25 dc25 pm25 cd25 ct25 oc26 kV26 dc26 pm26 cd26 ct26 oc27 kV27 dc27 pm27 cd27 ct27 oc28 kV28 dc28 pm28 cd28 ct28 oc29 kV29 dc29 pm29 cd29 ct29 oc30 kV30 dc30 pm30 cd30 ct30 oc31 kV31 dc31 pm31 cd31 ct31 : Value}
    (a1 : PySem.W.nsIn K mainGlobals "order_around" = some (some (.ref f1))) (l1 : K.lookup f1 = some ⟨oc1, od1, .func (PySem.W.fnOf "order_around" "order_around" (defArgs s1) (defBody s1) (defScope s1) .none kV1 dc1 pm1 an1 cd1 ct1), sl1⟩) (c1 : PySem.W.codeIn K cd1 "order_around" = true) (k1 : PySem.W.keepIn K (.ref f1) = true)
    (a2 : PySem.W.nsIn K mainGlobals "numbered" = some (some (.ref f2))) (l2 : K.lookup f2 = some ⟨oc2, od2, .func (PySem.W.fnOf "numbered" "numbered" (defArgs s2) (defBody s2) (defScope s2) .none kV2 dc2 pm2 an2 cd2 ct2), sl2⟩) (c2 : PySem.W.codeIn K cd2 "numbered" = true) (k2 : PySem.W.keepIn K (.ref f2) = true)
    (a3 : PySem.W.nsIn K mainGlobals "told_in" = some (some (.ref f3))) (l3 : K.lookup f3 = some ⟨oc3, od3, .func (PySem.W.fnOf "told_in" "told_in" (defArgs s3) (defBody s3) (defScope s3) .none kV3 dc3 pm3 an3 cd3 ct3), sl3⟩) (c3 : PySem.W.codeIn K cd3 "told_in" = true) (k3 : PySem.W.keepIn K (.ref f3) = true)
    (a4 : PySem.W.nsIn K mainGlobals "sights_behind" = some (some (.ref f4))) (l4 : K.lookup f4 = some ⟨oc4, od4, .func (PySem.W.fnOf "sights_behind" "sights_behind" (defArgs s4) (defBody s4) (defScope s4) .none kV4 dc4 pm4 an4 cd4 ct4), sl4⟩) (c4 : PySem.W.codeIn K cd4 "sights_behind" = true) (k4 : PySem.W.keepIn K (.ref f4) = true)
    (a5 : PySem.W.nsIn K mainGlobals "heard_from" = some (some (.ref f5))) (l5 : K.lookup f5 = some ⟨oc5, od5, .func (PySem.W.fnOf "heard_from" "heard_from" (defArgs s5) (defBody s5) (defScope s5) .none kV5 dc5 pm5 an5 cd5 ct5), sl5⟩) (c5 : PySem.W.codeIn K cd5 "heard_from" = true) (k5 : PySem.W.keepIn K (.ref f5) = true)
    (a6 : PySem.W.nsIn K mainGlobals "row_behind" = some (some (.ref f6))) (l6 : K.lookup f6 = some ⟨oc6, od6, .func (PySem.W.fnOf "row_behind" "row_behind" (defArgs s6) (defBody s6) (defScope s6) .none kV6 dc6 pm6 an6 cd6 ct6), sl6⟩) (c6 : PySem.W.codeIn K cd6 "row_behind" = true) (k6 : PySem.W.keepIn K (.ref f6) = true)
    (a7 : PySem.W.nsIn K mainGlobals "marks" = some (some (.ref f7))) (l7 : K.lookup f7 = some ⟨oc7, od7, .func (PySem.W.fnOf "marks" "marks" (defArgs s7) (defBody s7) (defScope s7) .none kV7 dc7 pm7 an7 cd7 ct7), sl7⟩) (c7 : PySem.W.codeIn K cd7 "marks" = true) (k7 : PySem.W.keepIn K (.ref f7) = true)
    (a8 : PySem.W.nsIn K mainGlobals "tells_alike" = some (some (.ref f8))) (l8 : K.lookup f8 = some ⟨oc8, od8, .func (PySem.W.fnOf "tells_alike" "tells_alike" (defArgs s8) (defBody s8) (defScope s8) .none kV8 dc8 pm8 an8 cd8 ct8), sl8⟩) (c8 : PySem.W.codeIn K cd8 "tells_alike" = true) (k8 : PySem.W.keepIn K (.ref f8) = true)
    (a9 : PySem.W.nsIn K mainGlobals "is_comparing" = some (some (.ref f9))) (l9 : K.lookup f9 = some ⟨oc9, od9, .func (PySem.W.fnOf "is_comparing" "is_comparing" (defArgs s9) (defBody s9) (defScope s9) .none kV9 dc9 pm9 an9 cd9 ct9), sl9⟩) (c9 : PySem.W.codeIn K cd9 "is_comparing" = true) (k9 : PySem.W.keepIn K (.ref f9) = true)
    (a10 : PySem.W.nsIn K mainGlobals "alone" = some (some (.ref f10))) (l10 : K.lookup f10 = some ⟨oc10, od10, .func (PySem.W.fnOf "alone" "alone" (defArgs s10) (defBody s10) (defScope s10) .none kV10 dc10 pm10 an10 cd10 ct10), sl10⟩) (c10 : PySem.W.codeIn K cd10 "alone" = true) (k10 : PySem.W.keepIn K (.ref f10) = true)
    (a12 : PySem.W.nsIn K mainGlobals "kinds_at" = some (some (.ref f12))) (l12 : K.lookup f12 = some ⟨oc12, od12, .func (PySem.W.fnOf "kinds_at" "kinds_at" (defArgs s12) (defBody s12) (defScope s12) .none kV12 dc12 pm12 an12 cd12 ct12), sl12⟩) (c12 : PySem.W.codeIn K cd12 "kinds_at" = true) (k12 : PySem.W.keepIn K (.ref f12) = true)
    (a13 : PySem.W.nsIn K mainGlobals "fewest_of" = some (some (.ref f13))) (l13 : K.lookup f13 = some ⟨oc13, od13, .func (PySem.W.fnOf "fewest_of" "fewest_of" (defArgs s13) (defBody s13) (defScope s13) .none kV13 dc13 pm13 an13 cd13 ct13), sl13⟩) (c13 : PySem.W.codeIn K cd13 "fewest_of" = true) (k13 : PySem.W.keepIn K (.ref f13) = true)
    (a14 : PySem.W.nsIn K mainGlobals "floor_paper" = some (some (.ref f14))) (l14 : K.lookup f14 = some ⟨oc14, od14, .func (PySem.W.fnOf "floor_paper" "floor_paper" (defArgs s14) (defBody s14) (defScope s14) .none kV14 dc14 pm14 an14 cd14 ct14), sl14⟩) (c14 : PySem.W.codeIn K cd14 "floor_paper" = true) (k14 : PySem.W.keepIn K (.ref f14) = true)
    (a15 : PySem.W.nsIn K mainGlobals "floor" = some (some (.ref f15))) (l15 : K.lookup f15 = some ⟨oc15, od15, .func (PySem.W.fnOf "floor" "floor" (defArgs s15) (defBody s15) (defScope s15) .none kV15 dc15 pm15 an15 cd15 ct15), sl15⟩) (c15 : PySem.W.codeIn K cd15 "floor" = true) (k15 : PySem.W.keepIn K (.ref f15) = true)
    (a17 : PySem.W.nsIn K mainGlobals "log_letters" = some (some (.ref f17))) (l17 : K.lookup f17 = some ⟨oc17, od17, .func (PySem.W.fnOf "log_letters" "log_letters" (defArgs s17) (defBody s17) (defScope s17) .none kV17 dc17 pm17 an17 cd17 ct17), sl17⟩) (c17 : PySem.W.codeIn K cd17 "log_letters" = true) (k17 : PySem.W.keepIn K (.ref f17) = true)
    (a19 : PySem.W.nsIn K mainGlobals "_law_box" = some (some (.ref f19))) (l19 : K.lookup f19 = some ⟨oc19, od19, .func (PySem.W.fnOf "_law_box" "_law_box" (defArgs s19) (defBody s19) (defScope s19) .none kV19 dc19 pm19 an19 cd19 ct19), sl19⟩) (c19 : PySem.W.codeIn K cd19 "_law_box" = true) (k19 : PySem.W.keepIn K (.ref f19) = true)
    (a20 : PySem.W.nsIn K mainGlobals "_law_draw" = some (some (.ref f20))) (l20 : K.lookup f20 = some ⟨oc20, od20, .func (PySem.W.fnOf "_law_draw" "_law_draw" (defArgs s20) (defBody s20) (defScope s20) .none kV20 dc20 pm20 an20 cd20 ct20), sl20⟩) (c20 : PySem.W.codeIn K cd20 "_law_draw" = true) (k20 : PySem.W.keepIn K (.ref f20) = true)
    (a21 : PySem.W.nsIn K mainGlobals "_law_mixed_up" = some (some (.ref f21))) (l21 : K.lookup f21 = some ⟨oc21, od21, .func (PySem.W.fnOf "_law_mixed_up" "_law_mixed_up" (defArgs s21) (defBody s21) (defScope s21) .none kV21 dc21 pm21 an21 cd21 ct21), sl21⟩) (c21 : PySem.W.codeIn K cd21 "_law_mixed_up" = true) (k21 : PySem.W.keepIn K (.ref f21) = true)
    (a22 : PySem.W.nsIn K mainGlobals "_law_from_behind" = some (some (.ref f22))) (l22 : K.lookup f22 = some ⟨oc22, od22, .func (PySem.W.fnOf "_law_from_behind" "_law_from_behind" (defArgs s22) (defBody s22) (defScope s22) .none kV22 dc22 pm22 an22 cd22 ct22), sl22⟩) (c22 : PySem.W.codeIn K cd22 "_law_from_behind" = true) (k22 : PySem.W.keepIn K (.ref f22) = true)
    (a23 : PySem.W.nsIn K mainGlobals "_law_places" = some (some (.ref f23))) (l23 : K.lookup f23 = some ⟨oc23, od23, .func (PySem.W.fnOf "_law_places" "_law_places" (defArgs s23) (defBody s23) (defScope s23) .none kV23 dc23 pm23 an23 cd23 ct23), sl23⟩) (c23 : PySem.W.codeIn K cd23 "_law_places" = true) (k23 : PySem.W.keepIn K (.ref f23) = true)
    (a24 : PySem.W.nsIn K mainGlobals "_law_order" = some (some (.ref f24))) (l24 : K.lookup f24 = some ⟨oc24, od24, .func (PySem.W.fnOf "_law_order" "_law_order" (defArgs s24) (defBody s24) (defScope s24) .none kV24 dc24 pm24 an24 cd24 ct24), sl24⟩) (c24 : PySem.W.codeIn K cd24 "_law_order" = true) (k24 : PySem.W.keepIn K (.ref f24) = true)
    (a25 : PySem.W.nsIn K mainGlobals "_law_told" = some (some (.ref f25))) (l25 : K.lookup f25 = some ⟨oc25, od25, .func (PySem.W.fnOf "_law_told" "_law_told" (defArgs s25) (defBody s25) (defScope s25) .none kV25 dc25 pm25 an25 cd25 ct25), sl25⟩) (c25 : PySem.W.codeIn K cd25 "_law_told" = true) (k25 : PySem.W.keepIn K (.ref f25) = true)
    (a26 : PySem.W.nsIn K mainGlobals "_law_behind" = some (some (.ref f26))) (l26 : K.lookup f26 = some ⟨oc26, od26, .func (PySem.W.fnOf "_law_behind" "_law_behind" (defArgs s26) (defBody s26) (defScope s26) .none kV26 dc26 pm26 an26 cd26 ct26), sl26⟩) (c26 : PySem.W.codeIn K cd26 "_law_behind" = true) (k26 : PySem.W.keepIn K (.ref f26) = true)
    (a27 : PySem.W.nsIn K mainGlobals "_law_small_ring" = some (some (.ref f27))) (l27 : K.lookup f27 = some ⟨oc27, od27, .func (PySem.W.fnOf "_law_small_ring" "_law_small_ring" (defArgs s27) (defBody s27) (defScope s27) .none kV27 dc27 pm27 an27 cd27 ct27), sl27⟩) (c27 : PySem.W.codeIn K cd27 "_law_small_ring" = true) (k27 : PySem.W.keepIn K (.ref f27) = true)
    (a28 : PySem.W.nsIn K mainGlobals "_law_comparing_turn" = some (some (.ref f28))) (l28 : K.lookup f28 = some ⟨oc28, od28, .func (PySem.W.fnOf "_law_comparing_turn" "_law_comparing_turn" (defArgs s28) (defBody s28) (defScope s28) .none kV28 dc28 pm28 an28 cd28 ct28), sl28⟩) (c28 : PySem.W.codeIn K cd28 "_law_comparing_turn" = true) (k28 : PySem.W.keepIn K (.ref f28) = true)
    (a29 : PySem.W.nsIn K mainGlobals "_law_thrifty_turn" = some (some (.ref f29))) (l29 : K.lookup f29 = some ⟨oc29, od29, .func (PySem.W.fnOf "_law_thrifty_turn" "_law_thrifty_turn" (defArgs s29) (defBody s29) (defScope s29) .none kV29 dc29 pm29 an29 cd29 ct29), sl29⟩) (c29 : PySem.W.codeIn K cd29 "_law_thrifty_turn" = true) (k29 : PySem.W.keepIn K (.ref f29) = true)
    (a30 : PySem.W.nsIn K mainGlobals "_law_right" = some (some (.ref f30))) (l30 : K.lookup f30 = some ⟨oc30, od30, .func (PySem.W.fnOf "_law_right" "_law_right" (defArgs s30) (defBody s30) (defScope s30) .none kV30 dc30 pm30 an30 cd30 ct30), sl30⟩) (c30 : PySem.W.codeIn K cd30 "_law_right" = true) (k30 : PySem.W.keepIn K (.ref f30) = true)
    (a31 : PySem.W.nsIn K mainGlobals "law" = some (some (.ref f31))) (l31 : K.lookup f31 = some ⟨oc31, od31, .func (PySem.W.fnOf "law" "law" (defArgs s31) (defBody s31) (defScope s31) .none kV31 dc31 pm31 an31 cd31 ct31), sl31⟩) (c31 : PySem.W.codeIn K cd31 "law" = true) (k31 : PySem.W.keepIn K (.ref f31) = true)
    (z_len : PySem.W.nsIn K mainGlobals "len" = some none)
    (z_range : PySem.W.nsIn K mainGlobals "range" = some none)
    (z_set : PySem.W.nsIn K mainGlobals "set" = some none)
    (z_sorted : PySem.W.nsIn K mainGlobals "sorted" = some none)
    (z_enumerate : PySem.W.nsIn K mainGlobals "enumerate" = some none)
    (z_dict : PySem.W.nsIn K mainGlobals "dict" = some none)
    (z_tuple : PySem.W.nsIn K mainGlobals "tuple" = some none)
    (z_max : PySem.W.nsIn K mainGlobals "max" = some none)
    (z_min : PySem.W.nsIn K mainGlobals "min" = some none)
    (z_sum : PySem.W.nsIn K mainGlobals "sum" = some none)
    (z_all : PySem.W.nsIn K mainGlobals "all" = some none)
    (z_abs : PySem.W.nsIn K mainGlobals "abs" = some none)
    (z_list : PySem.W.nsIn K mainGlobals "list" = some none)
    (z_int : PySem.W.nsIn K mainGlobals "int" = some none)
    (z_zip : PySem.W.nsIn K mainGlobals "zip" = some none)
    : ∃ fd : FuncData, (∀ (s : Shared) (v : Value), BindsTo s fd ⟨[v], []⟩ [("_law_script", v)]) ∧ ∀ base : Heap, K.In base → base.Ns mainGlobals mg → FnOk l.prog w K mg base CX0 6 fa fd ["_law_script"] (spLaw K) := by
  have e := hfa.symm.trans (PySem.W.mg_of X G a31)
  cases e
  have T : Txt mg := ⟨PySem.W.mg_none_of X G z_len, PySem.W.mg_none_of X G z_range, PySem.W.mg_none_of X G z_set, PySem.W.mg_none_of X G z_sorted, PySem.W.mg_none_of X G z_enumerate, PySem.W.mg_none_of X G z_dict, PySem.W.mg_none_of X G z_tuple, PySem.W.mg_none_of X G z_max, PySem.W.mg_none_of X G z_min, PySem.W.mg_none_of X G z_sum, PySem.W.mg_none_of X G z_all, PySem.W.mg_none_of X G z_abs, PySem.W.mg_none_of X G z_list, PySem.W.mg_none_of X G z_int, PySem.W.mg_none_of X G z_zip⟩
  have F1 := fun_mk (st := s1) l1 c1 k1
  have b1 := F1.binds (ps := ["ring", "house", "left", "right"]) fun _ _ _ _ _ _ us hl => match us, hl with | [_, _, _, _], _ => rfl
  have D_order_around : D1 K mg := ⟨f1, _, F1, PySem.W.mg_of X G a1, b1⟩
  have F2 := fun_mk (st := s2) l2 c2 k2
  have b2 := F2.binds (ps := ["keys"]) fun _ _ _ _ _ _ us hl => match us, hl with | [_], _ => rfl
  have D_numbered : D2 K mg := ⟨f2, _, F2, PySem.W.mg_of X G a2, b2⟩
  have F3 := fun_mk (st := s3) l3 c3 k3
  have b3 := F3.binds (ps := ["turn"]) fun _ _ _ _ _ _ us hl => match us, hl with | [_], _ => rfl
  have D_told_in : D3 K mg := ⟨f3, _, F3, PySem.W.mg_of X G a3, b3⟩
  have F4 := fun_mk (st := s4) l4 c4 k4
  have b4 := F4.binds (ps := ["sights", "told"]) fun _ _ _ _ _ _ us hl => match us, hl with | [_, _], _ => rfl
  have D_sights_behind : D4 K mg := ⟨f4, _, F4, PySem.W.mg_of X G a4, b4⟩
  have F5 := fun_mk (st := s5) l5 c5 k5
  have b5 := F5.binds (ps := ["row", "told", "teller", "side"]) fun _ _ _ _ _ _ us hl => match us, hl with | [_, _, _, _], _ => rfl
  have D_heard_from : D5 K mg := ⟨f5, _, F5, PySem.W.mg_of X G a5, b5⟩
  have F6 := fun_mk (st := s6) l6 c6 k6
  have b6 := F6.binds (ps := ["ring", "row", "told", "sights"]) fun _ _ _ _ _ _ us hl => match us, hl with | [_, _, _, _], _ => rfl
  have D_row_behind : D6 K mg := ⟨f6, _, F6, PySem.W.mg_of X G a6, b6⟩
  have F7 := fun_mk (st := s7) l7 c7 k7
  have b7 := F7.binds (ps := ["ring", "log"]) fun _ _ _ _ _ _ us hl => match us, hl with | [_, _], _ => rfl
  have D_marks : D7 K mg := ⟨f7, _, F7, PySem.W.mg_of X G a7, b7⟩
  have F8 := fun_mk (st := s8) l8 c8 k8
  have b8 := F8.binds (ps := ["row", "told"]) fun _ _ _ _ _ _ us hl => match us, hl with | [_, _], _ => rfl
  have D_tells_alike : D8 K mg := ⟨f8, _, F8, PySem.W.mg_of X G a8, b8⟩
  have F9 := fun_mk (st := s9) l9 c9 k9
  have b9 := F9.binds (ps := ["ring", "log"]) fun _ _ _ _ _ _ us hl => match us, hl with | [_, _], _ => rfl
  have D_is_comparing : D9 K mg := ⟨f9, _, F9, PySem.W.mg_of X G a9, b9⟩
  have F10 := fun_mk (st := s10) l10 c10 k10
  have b10 := F10.binds (ps := ["ring", "log"]) fun _ _ _ _ _ _ us hl => match us, hl with | [_, _], _ => rfl
  have D_alone : D10 K mg := ⟨f10, _, F10, PySem.W.mg_of X G a10, b10⟩
  have F12 := fun_mk (st := s12) l12 c12 k12
  have b12 := F12.binds (ps := ["ring", "reach"]) fun _ _ _ _ _ _ us hl => match us, hl with | [_, _], _ => rfl
  have D_kinds_at : D12 K mg := ⟨f12, _, F12, PySem.W.mg_of X G a12, b12⟩
  have F13 := fun_mk (st := s13) l13 c13 k13
  have b13 := F13.binds (ps := ["row"]) fun _ _ _ _ _ _ us hl => match us, hl with | [_], _ => rfl
  have D_fewest_of : D13 K mg := ⟨f13, _, F13, PySem.W.mg_of X G a13, b13⟩
  have F14 := fun_mk (st := s14) l14 c14 k14
  have b14 := F14.binds (ps := ["ring"]) fun _ _ _ _ _ _ us hl => match us, hl with | [_], _ => rfl
  have D_floor_paper : D14 K mg := ⟨f14, _, F14, PySem.W.mg_of X G a14, b14⟩
  have F15 := fun_mk (st := s15) l15 c15 k15
  have b15 := F15.binds (ps := ["ring"]) fun _ _ _ _ _ _ us hl => match us, hl with | [_], _ => rfl
  have D_floor : D15 K mg := ⟨f15, _, F15, PySem.W.mg_of X G a15, b15⟩
  have F17 := fun_mk (st := s17) l17 c17 k17
  have b17 := F17.binds (ps := ["log"]) fun _ _ _ _ _ _ us hl => match us, hl with | [_], _ => rfl
  have D_log_letters : D17 K mg := ⟨f17, _, F17, PySem.W.mg_of X G a17, b17⟩
  have F19 := fun_mk (st := s19) l19 c19 k19
  have b19 := F19.binds (ps := ["_law_script"]) fun _ _ _ _ _ _ us hl => match us, hl with | [_], _ => rfl
  have D__law_box : D19 K mg := ⟨f19, _, F19, PySem.W.mg_of X G a19, b19⟩
  have F20 := fun_mk (st := s20) l20 c20 k20
  have b20 := F20.binds (ps := ["_law_box_here", "_law_many"]) fun _ _ _ _ _ _ us hl => match us, hl with | [_, _], _ => rfl
  have D__law_draw : D20 K mg := ⟨f20, _, F20, PySem.W.mg_of X G a20, b20⟩
  have F21 := fun_mk (st := s21) l21 c21 k21
  have b21 := F21.binds (ps := ["_law_box_here", "_law_things"]) fun _ _ _ _ _ _ us hl => match us, hl with | [_, _], _ => rfl
  have D__law_mixed_up : D21 K mg := ⟨f21, _, F21, PySem.W.mg_of X G a21, b21⟩
  have F22 := fun_mk (st := s22) l22 c22 k22
  have b22 := F22.binds (ps := ["_law_number", "_law_most"]) fun _ _ _ _ _ _ us hl => match us, hl with | [_, _], _ => rfl
  have D__law_from_behind : D22 K mg := ⟨f22, _, F22, PySem.W.mg_of X G a22, b22⟩
  have F23 := fun_mk (st := s23) l23 c23 k23
  have b23 := F23.binds (ps := ["_law_box_here", "_law_many"]) fun _ _ _ _ _ _ us hl => match us, hl with | [_, _], _ => rfl
  have D__law_places : D23 K mg := ⟨f23, _, F23, PySem.W.mg_of X G a23, b23⟩
  have F24 := fun_mk (st := s24) l24 c24 k24
  have b24 := F24.binds (ps := ["_law_ring", "_law_house", "_law_sight"]) fun _ _ _ _ _ _ us hl => match us, hl with | [_, _, _], _ => rfl
  have D__law_order : D24 K mg := ⟨f24, _, F24, PySem.W.mg_of X G a24, b24⟩
  have F25 := fun_mk (st := s25) l25 c25 k25
  have b25 := F25.binds (ps := ["_law_turn", "_law_house", "_law_side"]) fun _ _ _ _ _ _ us hl => match us, hl with | [_, _, _], _ => rfl
  have D__law_told : D25 K mg := ⟨f25, _, F25, PySem.W.mg_of X G a25, b25⟩
  have F26 := fun_mk (st := s26) l26 c26 k26
  have b26 := F26.binds (ps := ["_law_ring", "_law_row", "_law_sights", "_law_turn"]) fun _ _ _ _ _ _ us hl => match us, hl with | [_, _, _, _], _ => rfl
  have D__law_behind : D26 K mg := ⟨f26, _, F26, PySem.W.mg_of X G a26, b26⟩
  have F27 := fun_mk (st := s27) l27 c27 k27
  have b27 := F27.binds (ps := ["_law_box_here", "_law_most"]) fun _ _ _ _ _ _ us hl => match us, hl with | [_, _], _ => rfl
  have D__law_small_ring : D27 K mg := ⟨f27, _, F27, PySem.W.mg_of X G a27, b27⟩
  have F28 := fun_mk (st := s28) l28 c28 k28
  have b28 := F28.binds (ps := ["_law_box_here", "_law_row"]) fun _ _ _ _ _ _ us hl => match us, hl with | [_, _], _ => rfl
  have D__law_comparing_turn : D28 K mg := ⟨f28, _, F28, PySem.W.mg_of X G a28, b28⟩
  have F29 := fun_mk (st := s29) l29 c29 k29
  have b29 := F29.binds (ps := ["_law_box_here", "_law_row"]) fun _ _ _ _ _ _ us hl => match us, hl with | [_, _], _ => rfl
  have D__law_thrifty_turn : D29 K mg := ⟨f29, _, F29, PySem.W.mg_of X G a29, b29⟩
  have F30 := fun_mk (st := s30) l30 c30 k30
  have b30 := F30.binds (ps := ["_law_ring", "_law_log", "_law_least", "_law_rows"]) fun _ _ _ _ _ _ us hl => match us, hl with | [_, _, _, _], _ => rfl
  have D__law_right : D30 K mg := ⟨f30, _, F30, PySem.W.mg_of X G a30, b30⟩
  have F31 := fun_mk (st := s31) l31 c31 k31
  have b31 := F31.binds (ps := ["_law_script"]) fun _ _ _ _ _ _ us hl => match us, hl with | [_], _ => rfl
  exact ⟨PySem.W.fnOf "law" "law" (defArgs s31) (defBody s31) (defScope s31) .none kV31 dc31 pm31 an31 cd31 ct31, fun s v => .of_eq rfl, fun base _ _ =>
    ok_law ⟨_, _, F31, PySem.W.mg_of X G a31, b31⟩ T D__law_box D__law_draw D__law_mixed_up D__law_from_behind D__law_places D__law_order D__law_told D__law_behind D__law_small_ring D__law_comparing_turn D__law_thrifty_turn D__law_right D_order_around D_numbered D_told_in D_sights_behind D_heard_from D_row_behind D_marks D_tells_alike D_is_comparing D_alone D_kinds_at D_fewest_of D_floor_paper D_floor D_log_letters⟩
end K62
open PySem PySem.W PyProof.Rows in
set_option maxRecDepth 100000 in
set_option maxHeartbeats 0 in
theorem PySem.Challenge.cw_ringchief_k62_whole_no_comparing_log_bel_holds : PySem.Challenge.rw_ringchief_k62_whole_no_comparing_log_bel.Holds := by
  w_on; o_law; k_head; (case hw => w_witness2)
  k_fill
  refine L2.walk_of (l := PySem.Challenge.rw_ringchief_k62_whole_no_comparing_log_bel) (n := 63) (k := 6) (x := "_law_script") (CX := fun _ => L2.CX0) (sp := fun w => K62.spLaw _) rfl (by decide) rfl ⟨rfl, by decide, by decide⟩ (fun w h Y => PySem.W.kIn_of Y) ?F (fun _ _ a ns hl _ hS => ⟨a, ns, rfl, hS, fun _ => rfl⟩) (fun _ _ _ _ _ h => h)
  case F =>
    intro w mg fa h KX G hmg
    refine' K62.all_mk KX G hmg ?a1 ?l1 ?c1 ?k1 ?a2 ?l2 ?c2 ?k2 ?a3 ?l3 ?c3 ?k3 ?a4 ?l4 ?c4 ?k4 ?a5 ?l5 ?c5 ?k5 ?a6 ?l6 ?c6 ?k6 ?a7 ?l7 ?c7 ?k7 ?a8 ?l8 ?c8 ?k8 ?a9 ?l9 ?c9 ?k9 ?a10 ?l10 ?c10 ?k10 ?a12 ?l12 ?c12 ?k12 ?a13 ?l13 ?c13 ?k13 ?a14 ?l14 ?c14 ?k14 ?a15 ?l15 ?c15 ?k15 ?a17 ?l17 ?c17 ?k17 ?a19 ?l19 ?c19 ?k19 ?a20 ?l20 ?c20 ?k20 ?a21 ?l21 ?c21 ?k21 ?a22 ?l22 ?c22 ?k22 ?a23 ?l23 ?c23 ?k23 ?a24 ?l24 ?c24 ?k24 ?a25 ?l25 ?c25 ?k25 ?a26 ?l26 ?c26 ?k26 ?a27 ?l27 ?c27 ?k27 ?a28 ?l28 ?c28 ?k28 ?a29 ?l29 ?c29 ?k29 ?a30 ?l30 ?c30 ?k30 ?a31 ?l31 ?c31 ?k31 ?z_len ?z_range ?z_set ?z_sorted ?z_enumerate ?z_dict ?z_tuple ?z_max ?z_min ?z_sum ?z_all ?z_abs ?z_list ?z_int ?z_zip
    (case a1 => k_is)
    (case l1 => k_is)
    (case c1 => k_is)
    (case k1 => k_is)
    (case a2 => k_is)
    (case l2 => k_is)
    (case c2 => k_is)
    (case k2 => k_is)
    (case a3 => k_is)
    (case l3 => k_is)
    (case c3 => k_is)
    (case k3 => k_is)
    (case a4 => k_is)
    (case l4 => k_is)
    (case c4 => k_is)
    (case k4 => k_is)
    (case a5 => k_is)
    (case l5 => k_is)
    (case c5 => k_is)
    (case k5 => k_is)
    (case a6 => k_is)
    (case l6 => k_is)
    (case c6 => k_is)
    (case k6 => k_is)
    (case a7 => k_is)
    (case l7 => k_is)
    (case c7 => k_is)
    (case k7 => k_is)
    (case a8 => k_is)
    (case l8 => k_is)
    (case c8 => k_is)
    (case k8 => k_is)
    (case a9 => k_is)
    (case l9 => k_is)
    (case c9 => k_is)
    (case k9 => k_is)
    (case a10 => k_is)
    (case l10 => k_is)
    (case c10 => k_is)
    (case k10 => k_is)
    (case a12 => k_is)
    (case l12 => k_is)
    (case c12 => k_is)
    (case k12 => k_is)
    (case a13 => k_is)
    (case l13 => k_is)
    (case c13 => k_is)
    (case k13 => k_is)
    (case a14 => k_is)
    (case l14 => k_is)
    (case c14 => k_is)
    (case k14 => k_is)
    (case a15 => k_is)
    (case l15 => k_is)
    (case c15 => k_is)
    (case k15 => k_is)
    (case a17 => k_is)
    (case l17 => k_is)
    (case c17 => k_is)
    (case k17 => k_is)
    (case a19 => k_is)
    (case l19 => k_is)
    (case c19 => k_is)
    (case k19 => k_is)
    (case a20 => k_is)
    (case l20 => k_is)
    (case c20 => k_is)
    (case k20 => k_is)
    (case a21 => k_is)
    (case l21 => k_is)
    (case c21 => k_is)
    (case k21 => k_is)
    (case a22 => k_is)
    (case l22 => k_is)
    (case c22 => k_is)
    (case k22 => k_is)
    (case a23 => k_is)
    (case l23 => k_is)
    (case c23 => k_is)
    (case k23 => k_is)
    (case a24 => k_is)
    (case l24 => k_is)
    (case c24 => k_is)
    (case k24 => k_is)
    (case a25 => k_is)
    (case l25 => k_is)
    (case c25 => k_is)
    (case k25 => k_is)
    (case a26 => k_is)
    (case l26 => k_is)
    (case c26 => k_is)
    (case k26 => k_is)
    (case a27 => k_is)
    (case l27 => k_is)
    (case c27 => k_is)
    (case k27 => k_is)
    (case a28 => k_is)
    (case l28 => k_is)
    (case c28 => k_is)
    (case k28 => k_is)
    (case a29 => k_is)
    (case l29 => k_is)
    (case c29 => k_is)
    (case k29 => k_is)
    (case a30 => k_is)
    (case l30 => k_is)
    (case c30 => k_is)
    (case k30 => k_is)
    (case a31 => k_is)
    (case l31 => k_is)
    (case c31 => k_is)
    (case k31 => k_is)
    (case z_len => k_is)
    (case z_range => k_is)
    (case z_set => k_is)
    (case z_sorted => k_is)
    (case z_enumerate => k_is)
    (case z_dict => k_is)
    (case z_tuple => k_is)
    (case z_max => k_is)
    (case z_min => k_is)
    (case z_sum => k_is)
    (case z_all => k_is)
    (case z_abs => k_is)
    (case z_list => k_is)
    (case z_int => k_is)
    (case z_zip => k_is)

