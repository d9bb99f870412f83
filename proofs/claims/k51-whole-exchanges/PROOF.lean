import PyProof.Rows.All
import Wide.All
import OpenK.AllK
import Wide.FinOn
import KE.KeyNested
import KE.SortData
import HandS.ForMost
import HandS.TupSets
import HandS.Walk
import HandS.Zip
import HandS.Deep
import HandS.Conv
import HandS.TupAny
import KE.GoesNew
import HandS.Strs
import PyProof.MinMaxWalk
import PyProof.WalksMore
import HandS.Codes
import PySem.Challenge.RW_namelesshall_k51_whole_exchanges_step_by
set_option Elab.async false
set_option linter.all false
set_option maxRecDepth 100000
section
set_option autoImplicit false
namespace Nl

abbrev Web := List (Int × List (Nat × Nat))

def mk (W : Web) (h : Nat) : Int := (W[h]?.map (·.1)).getD 0
def pegs (W : Web) (h : Nat) : List (Nat × Nat) := (W[h]?.map (·.2)).getD []
def peg (W : Web) (x : Nat × Nat) : Nat × Nat := (pegs W x.1).getD x.2 (0, 0)

/-- ties lead to pegs that are there -/
def InR (W : Web) : Prop := ∀ h, ∀ x ∈ pegs W h, x.1 < W.length ∧ x.2 < (pegs W x.1).length

theorem pegs_out {W : Web} {h : Nat} (hh : W.length ≤ h) : pegs W h = [] := by
  unfold pegs
  rw [List.getElem?_eq_none hh]
  rfl
theorem pegs_at {W : Web} {h : Nat} {m : Int} {ps : List (Nat × Nat)} (e : W[h]? = some (m, ps)) : pegs W h = ps := by
  unfold pegs
  rw [e]
  rfl
theorem mk_at {W : Web} {h : Nat} {m : Int} {ps : List (Nat × Nat)} (e : W[h]? = some (m, ps)) : mk W h = m := by
  unfold mk
  rw [e]
  rfl
theorem web_at {W : Web} {h : Nat} (hh : h < W.length) : W[h]? = some (mk W h, pegs W h) := by
  unfold mk pegs
  rw [List.getElem?_eq_getElem hh]
  rfl
theorem peg_mem {W : Web} {h p : Nat} (hp : p < (pegs W h).length) : peg W (h, p) ∈ pegs W h := by
  unfold peg
  simp only [List.getD_eq_getElem?_getD, List.getElem?_eq_getElem hp, Option.getD_some]
  exact List.getElem_mem hp
theorem peg_get {W : Web} {h p : Nat} (hp : p < (pegs W h).length) : (pegs W h)[p]? = some (peg W (h, p)) := by
  unfold peg
  simp only [List.getD_eq_getElem?_getD, List.getElem?_eq_getElem hp, Option.getD_some]
theorem InR.peg {W : Web} (H : InR W) {h p : Nat} (hp : p < (pegs W h).length) : (peg W (h, p)).1 < W.length ∧ (Nl.peg W (h, p)).2 < (pegs W (Nl.peg W (h, p)).1).length := H h _ (peg_mem hp)
theorem lt_of_peg {W : Web} {h p : Nat} (hp : p < (pegs W h).length) : h < W.length := by
  rcases Nat.lt_or_ge h W.length with z | z
  · exact z
  · rw [pegs_out z] at hp
    exact absurd hp (Nat.not_lt_zero _)

/-! a web made place by place -/
def webOf (n : Nat) (m : Nat → Int) (ps : Nat → List (Nat × Nat)) : Web := (List.range n).map fun h => (m h, ps h)
theorem webOf_len (n : Nat) (m : Nat → Int) (ps : Nat → List (Nat × Nat)) : (webOf n m ps).length = n := by simp [webOf]
theorem webOf_at {n : Nat} {m : Nat → Int} {ps : Nat → List (Nat × Nat)} {h : Nat} (hh : h < n) : (webOf n m ps)[h]? = some (m h, ps h) := by
  simp [webOf, hh]
theorem webOf_pegs {n : Nat} {m : Nat → Int} {ps : Nat → List (Nat × Nat)} {h : Nat} (hh : h < n) : pegs (webOf n m ps) h = ps h := pegs_at (webOf_at hh)
theorem webOf_mk {n : Nat} {m : Nat → Int} {ps : Nat → List (Nat × Nat)} {h : Nat} (hh : h < n) : mk (webOf n m ps) h = m h := mk_at (webOf_at hh)

/-! exchanges -/
def turnPeg (h p q : Nat) (x : Nat × Nat) : Nat × Nat := if x = (h, p) then (h, q) else if x = (h, q) then (h, p) else x
def exPegs (W : Web) (h p q : Nat) (j : Nat) : List (Nat × Nat) := (List.range (pegs W j).length).map fun k => turnPeg h p q (peg W (turnPeg h p q (j, k)))
def exch (W : Web) (h p q : Nat) : Web := webOf W.length (mk W) (exPegs W h p q)
abbrev Ex := Nat × Nat × Nat
def exAll (W : Web) : List Ex → Web
  | [] => W
  | e :: r => exAll (exch W e.1 e.2.1 e.2.2) r
/-- an exchange that can be done -/
def IsEx (W : Web) (e : Ex) : Prop := e.2.1 < e.2.2 ∧ e.2.2 < (pegs W e.1).length

theorem exch_len (W : Web) (h p q : Nat) : (exch W h p q).length = W.length := webOf_len ..
theorem exch_pegs {W : Web} {h p q j : Nat} (hj : j < W.length) : pegs (exch W h p q) j = exPegs W h p q j := webOf_pegs hj
theorem exch_plen (W : Web) (h p q j : Nat) : (pegs (exch W h p q) j).length = (pegs W j).length := by
  rcases Nat.lt_or_ge j W.length with z | z
  · rw [exch_pegs z]; simp [exPegs]
  · rw [pegs_out z, pegs_out (by rw [exch_len]; exact z)]
theorem exch_mk {W : Web} {h p q j : Nat} (hj : j < W.length) : mk (exch W h p q) j = mk W j := webOf_mk hj

theorem turn_in {W : Web} {h p q : Nat} (hp : p < (pegs W h).length) (hq : q < (pegs W h).length) {x : Nat × Nat} (hx : x.2 < (pegs W x.1).length) : (turnPeg h p q x).2 < (pegs W (turnPeg h p q x).1).length ∧ (turnPeg h p q x).1 = x.1 := by
  unfold turnPeg
  split
  · rename_i e; subst e; exact ⟨hq, rfl⟩
  · split
    · rename_i e; subst e; exact ⟨hp, rfl⟩
    · exact ⟨hx, rfl⟩
theorem exch_inR {W : Web} (H : InR W) {h p q : Nat} (hp : p < (pegs W h).length) (hq : q < (pegs W h).length) : InR (exch W h p q) := by
  intro j x hx
  rcases Nat.lt_or_ge j W.length with z | z
  · rw [exch_pegs z] at hx
    unfold exPegs at hx
    obtain ⟨k, hk, rfl⟩ := List.mem_map.mp hx
    have hk' : k < (pegs W j).length := List.mem_range.mp hk
    have a := turn_in (W := W) hp hq (x := (j, k)) hk'
    have b := H.peg (h := (turnPeg h p q (j, k)).1) (p := (turnPeg h p q (j, k)).2) a.1
    have c := turn_in (W := W) hp hq b.2
    rw [exch_len, exch_plen]
    refine ⟨?_, c.1⟩
    rw [c.2]
    exact b.1
  · rw [pegs_out (by rw [exch_len]; exact z)] at hx
    cases hx

/-! the exchanges in order -/
def singles (W : Web) : List Ex := (List.range W.length).flatMap fun h => (List.range (pegs W h).length).flatMap fun p => (List.range' (p + 1) ((pegs W h).length - (p + 1))).map fun q => (h, p, q)
theorem mem_singles {W : Web} {e : Ex} : e ∈ singles W ↔ IsEx W e := by
  obtain ⟨h, p, q⟩ := e
  unfold singles IsEx
  simp only [List.mem_flatMap, List.mem_range, List.mem_map, List.mem_range'_1, Prod.mk.injEq]
  constructor
  · rintro ⟨h', hh, p', hp, q', hq, rfl, rfl, rfl⟩
    omega
  · rintro ⟨h1, h2⟩
    exact ⟨h, lt_of_peg h2, p, by omega, q, by omega, rfl, rfl, rfl⟩
theorem singles_exch (W : Web) (h p q : Nat) : singles (exch W h p q) = singles W := by
  unfold singles
  rw [exch_len]
  simp only [exch_plen]

/-! bisimilar hands -/
structure Bis (W : Web) (R : Nat → Nat → Prop) : Prop where
  lt : ∀ i j, R i j → i < W.length ∧ j < W.length
  mrk : ∀ i j, R i j → mk W i = mk W j
  len : ∀ i j, R i j → (pegs W i).length = (pegs W j).length
  at_ : ∀ i j, R i j → ∀ p, p < (pegs W i).length → (peg W (i, p)).2 = (peg W (j, p)).2 ∧ R (peg W (i, p)).1 (peg W (j, p)).1
/-- no two hands are bisimilar -/
def Own (W : Web) : Prop := ∀ R, Bis W R → ∀ i j, R i j → i = j

/-! the same web with other numbers -/
structure Iso (f g : Nat → Nat) (W W' : Web) : Prop where
  len : W'.length = W.length
  fr : ∀ h, h < W.length → f h < W.length
  gr : ∀ h, h < W.length → g h < W.length
  gf : ∀ h, h < W.length → g (f h) = h
  fg : ∀ h, h < W.length → f (g h) = h
  mrk : ∀ h, h < W.length → mk W' (f h) = mk W h
  pg : ∀ h, h < W.length → pegs W' (f h) = (pegs W h).map fun x => (f x.1, x.2)
  inr : InR W

section
variable {f g : Nat → Nat} {W W' : Web}
theorem Iso.plen (I : Iso f g W W') {h : Nat} (hh : h < W.length) : (pegs W' (f h)).length = (pegs W h).length := by
  rw [I.pg h hh, List.length_map]
theorem Iso.peg (I : Iso f g W W') {h p : Nat} (hp : p < (pegs W h).length) : Nl.peg W' (f h, p) = (f (Nl.peg W (h, p)).1, (Nl.peg W (h, p)).2) := by
  have hh := lt_of_peg hp
  have e : (pegs W' (f h))[p]? = some (Nl.peg W' (f h, p)) := peg_get (by rw [I.plen hh]; exact hp)
  rw [I.pg h hh, List.getElem?_map, peg_get hp] at e
  exact (Option.some.inj e).symm
theorem Iso.inr' (I : Iso f g W W') : InR W' := by
  intro h x hx
  have hh : h < W'.length := by
    rcases Nat.lt_or_ge h W'.length with z | z
    · exact z
    · rw [pegs_out z] at hx; cases hx
  rw [I.len] at hh
  have e := I.fg h hh
  rw [← e, I.pg (g h) (I.gr h hh)] at hx
  obtain ⟨y, hy, rfl⟩ := List.mem_map.mp hx
  have a := I.inr _ y hy
  exact ⟨by rw [I.len]; exact I.fr _ a.1, by rw [I.plen a.1]; exact a.2⟩
theorem Iso.symm (I : Iso f g W W') : Iso g f W' W where
  len := I.len.symm
  fr := fun h hh => by rw [I.len] at hh ⊢; exact I.gr h hh
  gr := fun h hh => by rw [I.len] at hh ⊢; exact I.fr h hh
  gf := fun h hh => by rw [I.len] at hh; exact I.fg h hh
  fg := fun h hh => by rw [I.len] at hh; exact I.gf h hh
  mrk := fun h hh => by
    rw [I.len] at hh
    rw [← I.mrk (g h) (I.gr h hh), I.fg h hh]
  pg := fun h hh => by
    rw [I.len] at hh
    have e := I.pg (g h) (I.gr h hh)
    rw [I.fg h hh] at e
    rw [e, List.map_map]
    have k : ∀ x ∈ pegs W (g h), ((fun x => (g x.1, x.2)) ∘ fun x => (f x.1, x.2)) x = id x := fun x hx => by
      have a := I.inr _ x hx
      simp [Function.comp, I.gf _ a.1]
    rw [List.map_congr_left k, List.map_id]
  inr := I.inr'
theorem Iso.inj (I : Iso f g W W') {a b : Nat} (ha : a < W.length) (hb : b < W.length) (e : f a = f b) : a = b := by
  rw [← I.gf a ha, ← I.gf b hb, e]
theorem Iso.own (I : Iso f g W W') (H : Own W) : Own W' := by
  intro R hR i j hij
  obtain ⟨hi, hj⟩ := hR.lt i j hij
  rw [I.len] at hi hj
  have key : g i = g j := by
    refine H (fun a b => a < W.length ∧ b < W.length ∧ R (f a) (f b)) ⟨fun a b h => ⟨h.1, h.2.1⟩, ?_, ?_, ?_⟩ _ _ ⟨I.gr i hi, I.gr j hj, by rw [I.fg i hi, I.fg j hj]; exact hij⟩
    · rintro a b ⟨ha, hb, h⟩
      rw [← I.mrk a ha, ← I.mrk b hb]; exact hR.mrk _ _ h
    · rintro a b ⟨ha, hb, h⟩
      rw [← I.plen ha, ← I.plen hb]; exact hR.len _ _ h
    · rintro a b ⟨ha, hb, h⟩ p hp
      have hl := hR.len _ _ h
      rw [I.plen ha, I.plen hb] at hl
      have z := hR.at_ _ _ h p (by rw [I.plen ha]; exact hp)
      rw [I.peg hp, I.peg (h := b) (p := p) (by rw [← hl]; exact hp)] at z
      exact ⟨z.1, (I.inr.peg hp).1, (I.inr.peg (h := b) (p := p) (by rw [← hl]; exact hp)).1, z.2⟩
  rw [← I.fg i hi, ← I.fg j hj, key]
theorem Iso.turn (I : Iso f g W W') {h p q : Nat} (hh : h < W.length) {x : Nat × Nat} (hx : x.1 < W.length) : turnPeg (f h) p q (f x.1, x.2) = (f (turnPeg h p q x).1, (turnPeg h p q x).2) := by
  obtain ⟨a, k⟩ := x
  have c : ∀ r, ((f a, k) = (f h, r)) ↔ ((a, k) = (h, r)) := fun r => by
    simp only [Prod.mk.injEq]
    exact ⟨fun e => ⟨I.inj hx hh e.1, e.2⟩, fun e => ⟨by rw [e.1], e.2⟩⟩
  unfold turnPeg
  simp only [c]
  split
  · rfl
  · split <;> rfl
theorem Iso.exch (I : Iso f g W W') {h p q : Nat} (hp : p < (pegs W h).length) (hq : q < (pegs W h).length) : Iso f g (Nl.exch W h p q) (Nl.exch W' (f h) p q) := by
  have hh := lt_of_peg hp
  have e := exch_len W h p q
  refine ⟨by rw [exch_len, exch_len]; exact I.len, by rw [e]; exact I.fr, by rw [e]; exact I.gr, by rw [e]; exact I.gf, by rw [e]; exact I.fg, fun a ha => ?_, fun a ha => ?_, exch_inR I.inr hp hq⟩
  · rw [e] at ha
    rw [exch_mk (by rw [I.len]; exact I.fr a ha), exch_mk ha, I.mrk a ha]
  · rw [e] at ha
    rw [exch_pegs (by rw [I.len]; exact I.fr a ha), exch_pegs ha]
    unfold exPegs
    rw [I.plen ha, List.map_map]
    refine List.map_congr_left fun k hk => ?_
    have hk' : k < (pegs W a).length := List.mem_range.mp hk
    have t := turn_in (W := W) hp hq (x := (a, k)) hk'
    simp only [Function.comp]
    rw [I.turn hh (x := (a, k)) ha]
    have z := I.peg (h := (turnPeg h p q (a, k)).1) (p := (turnPeg h p q (a, k)).2) t.1
    rw [z]
    exact I.turn hh (I.inr.peg t.1).1
end
end Nl
end

section
set_option autoImplicit false
namespace Nl

/-- rows of exchanges, as the program lists them -/
def rowsN (W : Web) : Nat → List (List Ex)
  | 0 => [[]]
  | k + 1 => (rowsN W k).flatMap fun row => (singles W).map fun one => row ++ [one]
def allRows (W : Web) : List (List Ex) := rowsN W 0 ++ (rowsN W 1 ++ rowsN W 2)
def few (own : Web → Bool) (W : Web) : Option (List Ex) := (allRows W).find? fun row => own (exAll W row)
def cnt (r : Option (List Ex)) : Nat := match r with
  | none => 3
  | some l => l.length

theorem mem_rowsN {W : Web} : ∀ {k : Nat} {row : List Ex}, row ∈ rowsN W k ↔ row.length = k ∧ ∀ e ∈ row, IsEx W e
  | 0, row => by
    show row ∈ [[]] ↔ _
    rw [List.mem_singleton]
    constructor
    · rintro rfl; exact ⟨rfl, fun e he => by cases he⟩
    · rintro ⟨h, _⟩; exact List.length_eq_zero_iff.mp h
  | k + 1, row => by
    show row ∈ (rowsN W k).flatMap _ ↔ _
    rw [List.mem_flatMap]
    constructor
    · rintro ⟨r, hr, h⟩
      obtain ⟨one, ho, rfl⟩ := List.mem_map.mp h
      obtain ⟨a, b⟩ := mem_rowsN.mp hr
      refine ⟨by simp [a], fun e he => ?_⟩
      rcases List.mem_append.mp he with z | z
      · exact b e z
      · rw [List.mem_singleton.mp z]; exact mem_singles.mp ho
    · rintro ⟨h, b⟩
      have hne : row ≠ [] := fun e => by subst e; simp at h
      refine ⟨row.dropLast, mem_rowsN.mpr ⟨by simp [h], fun e he => b e (List.dropLast_subset _ he)⟩, List.mem_map.mpr ⟨row.getLast hne, mem_singles.mpr (b _ (List.getLast_mem hne)), List.dropLast_concat_getLast hne⟩⟩
theorem mem_allRows {W : Web} {row : List Ex} : row ∈ allRows W ↔ row.length ≤ 2 ∧ ∀ e ∈ row, IsEx W e := by
  unfold allRows
  rw [List.mem_append, List.mem_append, mem_rowsN, mem_rowsN, mem_rowsN]
  constructor
  · rintro (h | h | h) <;> exact ⟨by omega, h.2⟩
  · rintro ⟨h, b⟩
    have : row.length = 0 ∨ row.length = 1 ∨ row.length = 2 := by omega
    rcases this with z | z | z
    · exact .inl ⟨z, b⟩
    · exact .inr (.inl ⟨z, b⟩)
    · exact .inr (.inr ⟨z, b⟩)

section
variable {own : Web → Bool}
theorem few_some {W : Web} {row : List Ex} (h : few own W = some row) : row.length ≤ 2 ∧ (∀ e ∈ row, IsEx W e) ∧ own (exAll W row) = true := by
  unfold few at h
  have a := List.mem_of_find?_eq_some h
  have b := List.find?_some h
  obtain ⟨c, d⟩ := mem_allRows.mp a
  exact ⟨c, d, b⟩
/-- the count, by what rows there are -/
theorem cnt_le {W : Web} {k : Nat} (hk : k ≤ 2) : cnt (few own W) ≤ k ↔ ∃ row : List Ex, row.length ≤ k ∧ (∀ e ∈ row, IsEx W e) ∧ own (exAll W row) = true := by
  constructor
  · intro h
    cases e : few own W with
    | none => rw [e] at h; exact absurd h (by show ¬ 3 ≤ k; omega)
    | some row =>
      rw [e] at h
      obtain ⟨_, b, c⟩ := few_some e
      exact ⟨row, h, b, c⟩
  · rintro ⟨row, h1, h2, h3⟩
    have go : ∀ (l r : List (List Ex)), (∀ x ∈ l, x.length ≤ k) → row ∈ l → ∃ y, (l ++ r).find? (fun row => own (exAll W row)) = some y ∧ y.length ≤ k := by
      intro l r hl hm
      rw [List.find?_append]
      cases z : l.find? (fun row => own (exAll W row)) with
      | none =>
        rw [List.find?_eq_none] at z
        exact absurd h3 (z row hm)
      | some y => exact ⟨y, rfl, hl y (List.mem_of_find?_eq_some z)⟩
    have fin : ∃ y, few own W = some y ∧ y.length ≤ k := by
      unfold few allRows
      have : k = 0 ∨ k = 1 ∨ k = 2 := by omega
      rcases this with rfl | rfl | rfl
      · exact go _ _ (fun x hx => by rw [(mem_rowsN.mp hx).1]; exact Nat.le_refl _) (mem_rowsN.mpr ⟨by omega, h2⟩)
      · rw [← List.append_assoc]
        refine go _ _ (fun x hx => ?_) ?_
        · rcases List.mem_append.mp hx with z | z
          · rw [(mem_rowsN.mp z).1]; exact Nat.zero_le _
          · rw [(mem_rowsN.mp z).1]; exact Nat.le_refl _
        · have : row.length = 0 ∨ row.length = 1 := by omega
          rcases this with z | z
          · exact List.mem_append_left _ (mem_rowsN.mpr ⟨z, h2⟩)
          · exact List.mem_append_right _ (mem_rowsN.mpr ⟨z, h2⟩)
      · have e := List.append_nil (rowsN W 0 ++ (rowsN W 1 ++ rowsN W 2))
        rw [← e]
        exact go _ _ (fun x hx => (mem_allRows.mp hx).1) (mem_allRows.mpr ⟨h1, h2⟩)
    obtain ⟨y, e, hy⟩ := fin
    rw [e]
    exact hy
theorem cnt_le3 {W : Web} : cnt (few own W) ≤ 3 := by
  cases e : few own W with
  | none => exact Nat.le_refl 3
  | some row => exact Nat.le_succ_of_le (few_some e).1
theorem isEx_exch {W : Web} {h p q : Nat} {e : Ex} : IsEx (exch W h p q) e ↔ IsEx W e := by
  unfold IsEx
  rw [exch_plen]
theorem isEx_exAll {W : Web} {e : Ex} : ∀ {row : List Ex}, IsEx (exAll W row) e ↔ IsEx W e := by
  intro row
  induction row generalizing W with
  | nil => exact Iff.rfl
  | cons a r ih => exact ih.trans isEx_exch
theorem exAll_inR {W : Web} : ∀ {row : List Ex}, InR W → (∀ e ∈ row, IsEx W e) → InR (exAll W row) := by
  intro row
  induction row generalizing W with
  | nil => exact fun H _ => H
  | cons a r ih =>
    intro H h
    have ha := h a List.mem_cons_self
    exact ih (exch_inR H (Nat.lt_trans ha.1 ha.2) ha.2) fun e he => isEx_exch.mpr (h e (List.mem_cons_of_mem _ he))
theorem exAll_len {W : Web} : ∀ {row : List Ex}, (exAll W row).length = W.length := by
  intro row
  induction row generalizing W with
  | nil => rfl
  | cons a r ih => exact ih.trans (exch_len ..)

/-! ### called anew -/
theorem Iso.exAll {f g : Nat → Nat} : ∀ {row : List Ex} {W W' : Web}, Iso f g W W' → (∀ e ∈ row, IsEx W e) → Iso f g (exAll W row) (Nl.exAll W' (row.map fun e => (f e.1, e.2)))
  | [], _, _, I, _ => I
  | a :: r, W, W', I, h => by
    have ha := h a List.mem_cons_self
    exact Iso.exAll (row := r) (I.exch (Nat.lt_trans ha.1 ha.2) ha.2) fun e he => isEx_exch.mpr (h e (List.mem_cons_of_mem _ he))
theorem Iso.cnt {f g : Nat → Nat} {W W' : Web} (hown : ∀ V : Web, 0 < V.length → InR V → (own V = true ↔ Own V)) (h0 : 0 < W.length) (I : Iso f g W W') : Nl.cnt (few own W') = Nl.cnt (few own W) := by
  have one : ∀ {f g : Nat → Nat} {W W' : Web}, 0 < W.length → Iso f g W W' → ∀ k, k ≤ 2 → Nl.cnt (few own W) ≤ k → Nl.cnt (few own W') ≤ k := by
    intro f g W W' h0 I k hk h
    obtain ⟨row, h1, h2, h3⟩ := (cnt_le hk).mp h
    refine (cnt_le hk).mpr ⟨row.map fun e => (f e.1, e.2), by simpa using h1, fun e he => ?_, ?_⟩
    · obtain ⟨x, hx, rfl⟩ := List.mem_map.mp he
      have z := h2 x hx
      exact ⟨z.1, by show x.2.2 < _; rw [I.plen (lt_of_peg z.2)]; exact z.2⟩
    · have J := I.exAll h2
      have i1 := exAll_inR I.inr h2
      rw [hown _ (by rw [exAll_len]; exact h0) i1] at h3
      rw [hown _ (by rw [exAll_len, I.len]; exact h0) J.inr']
      exact J.own h3
  have a := one h0 I
  have b := one (by rw [I.len]; exact h0) I.symm
  have c1 := cnt_le3 (own := own) (W := W)
  have c2 := cnt_le3 (own := own) (W := W')
  have key : ∀ x y : Nat, x ≤ 3 → y ≤ 3 → (∀ k, k ≤ 2 → x ≤ k → y ≤ k) → (∀ k, k ≤ 2 → y ≤ k → x ≤ k) → y = x := by
    intro x y hx hy h1 h2
    rcases Nat.lt_or_ge x 3 with z | z
    · have := h1 x (by omega) (Nat.le_refl _)
      have := h2 y (by omega) (Nat.le_refl _)
      omega
    · rcases Nat.lt_or_ge y 3 with y' | y'
      · have := h2 y (by omega) (Nat.le_refl _)
        omega
      · omega
  exact key _ _ c1 c2 a b

/-! ### one exchange lowers by one at most -/
theorem cnt_exch {W : Web} {e : Ex} (he : IsEx W e) : cnt (few own W) ≤ cnt (few own (exch W e.1 e.2.1 e.2.2)) + 1 := by
  rcases Nat.lt_or_ge (cnt (few own (exch W e.1 e.2.1 e.2.2))) 2 with z | z
  · obtain ⟨row, h1, h2, h3⟩ := (cnt_le (own := own) (k := cnt (few own (exch W e.1 e.2.1 e.2.2))) (by omega)).mp (Nat.le_refl _)
    refine (cnt_le (by omega)).mpr ⟨e :: row, by simpa using h1, fun x hx => ?_, h3⟩
    rcases List.mem_cons.mp hx with rfl | hx
    · exact he
    · exact isEx_exch.mp (h2 x hx)
  · have := cnt_le3 (own := own) (W := W)
    omega

/-! ### the first of the fewest done, the rest are the fewest -/
theorem rows1 (W : Web) : rowsN W 1 = (singles W).map fun a => [a] := by
  show ([[]] : List (List Ex)).flatMap _ = _
  simp
theorem rows2 (W : Web) : rowsN W 2 = (singles W).flatMap fun a => (singles W).map fun b => [a, b] := by
  show (rowsN W 1).flatMap _ = _
  rw [rows1, List.flatMap_map]
  rfl
theorem few_tail {W : Web} {e : Ex} {rest : List Ex} (h : few own W = some (e :: rest)) : few own (exch W e.1 e.2.1 e.2.2) = some rest := by
  have hE : IsEx W e := (few_some h).2.1 e List.mem_cons_self
  have hO := (few_some h).2.2
  have h0 : own W = false := by
    cases q : own W with
    | false => rfl
    | true =>
      have z : few own W = some [] := by
        unfold few allRows
        show List.find? _ ([] :: _) = _
        rw [List.find?_cons]
        show (match own W with | true => _ | false => _) = _
        rw [q]
      rw [h] at z
      cases z
  unfold few allRows at h
  have h' : (rowsN W 1 ++ rowsN W 2).find? (fun row => own (exAll W row)) = some (e :: rest) := by
    have : List.find? (fun row => own (exAll W row)) ([] :: (rowsN W 1 ++ rowsN W 2)) = some (e :: rest) := h
    rw [List.find?_cons] at this
    have q : own (exAll W []) = false := h0
    rw [q] at this
    exact this
  rw [List.find?_append, rows1, rows2] at h'
  unfold few allRows
  show List.find? _ ([] :: _) = _
  rw [List.find?_cons]
  show (match own (exch W e.1 e.2.1 e.2.2) with | true => _ | false => _) = _
  cases z1 : (((singles W).map fun a => [a]).find? fun row => own (exAll W row)) with
  | some r =>
    rw [z1] at h'
    have er : r = e :: rest := Option.some.inj h'
    subst er
    obtain ⟨x, hx, ex⟩ := List.mem_map.mp (List.mem_of_find?_eq_some z1)
    have e1 : e = x := (List.cons.inj ex).1.symm
    have e2 : rest = [] := (List.cons.inj ex).2.symm
    subst e2
    have q : own (exch W e.1 e.2.1 e.2.2) = true := hO
    rw [q]
  | none =>
    rw [z1] at h'
    have h2 : (((singles W).flatMap fun a => (singles W).map fun b => [a, b]).find? fun row => own (exAll W row)) = some (e :: rest) := h'
    rw [List.find?_eq_none] at z1
    have q : own (exch W e.1 e.2.1 e.2.2) = false := by
      cases q : own (exch W e.1 e.2.1 e.2.2) with
      | false => rfl
      | true => exact absurd q (z1 [e] (List.mem_map.mpr ⟨e, mem_singles.mpr hE, rfl⟩))
    rw [q]
    rw [List.find?_flatMap] at h2
    obtain ⟨a, ha, hb⟩ := List.exists_of_findSome?_eq_some h2
    rw [List.find?_map, Option.map_eq_some_iff] at hb
    obtain ⟨b, hb1, hb2⟩ := hb
    have e1 : a = e := (List.cons.inj hb2).1
    have e2 : [b] = rest := (List.cons.inj hb2).2
    subst e1
    subst e2
    show List.find? _ (rowsN (exch W a.1 a.2.1 a.2.2) 1 ++ rowsN (exch W a.1 a.2.1 a.2.2) 2) = _
    rw [List.find?_append, rows1, singles_exch, List.find?_map]
    have hb3 : (singles W).find? ((fun row => own (exAll (exch W a.1 a.2.1 a.2.2) row)) ∘ fun a => [a]) = some b := hb1
    rw [hb3]
    rfl
theorem few_own {W : Web} (h : own W = true) : few own W = some [] := by
  unfold few allRows
  show List.find? _ ([] :: _) = _
  rw [List.find?_cons]
  show (match own W with | true => _ | false => _) = _
  rw [h]
end

/-! ### one hand marked as no other -/
def LeadBack (W : Web) : Prop := ∀ h p, p < (pegs W h).length → (peg W (h, p)).1 < W.length ∧ (peg W (h, p)).2 < (pegs W (peg W (h, p)).1).length ∧ peg W (peg W (h, p)) = (h, p)
inductive Reach (W : Web) : Nat → Nat → Prop where
  | refl (a : Nat) : Reach W a a
  | step {a b : Nat} (p : Nat) : p < (pegs W a).length → Reach W (peg W (a, p)).1 b → Reach W a b
theorem Reach.trans {W : Web} {a b c : Nat} (x : Reach W a b) (y : Reach W b c) : Reach W a c := by
  induction x with
  | refl _ => exact y
  | step p hp _ ih => exact .step p hp (ih y)
theorem Reach.symm {W : Web} (L : LeadBack W) {a b : Nat} (x : Reach W a b) : Reach W b a := by
  induction x with
  | refl a => exact .refl a
  | @step a b p hp _ ih =>
    obtain ⟨h1, h2, h3⟩ := L a p hp
    refine ih.trans (.step (peg W (a, p)).2 h2 ?_)
    have e : peg W ((peg W (a, p)).1, (peg W (a, p)).2) = (a, p) := h3
    rw [e]
    exact .refl a
structure Valid (W : Web) : Prop where
  pos : 0 < W.length
  back : LeadBack W
  conn : ∀ a b, a < W.length → b < W.length → Reach W a b
theorem LeadBack.inR {W : Web} (L : LeadBack W) : InR W := by
  intro h x hx
  obtain ⟨p, hp, e⟩ := List.getElem_of_mem hx
  have z := L h p hp
  have e2 : peg W (h, p) = x := by
    have := peg_get hp
    rw [List.getElem?_eq_getElem hp, e] at this
    exact (Option.some.inj this).symm
  rw [e2] at z
  exact ⟨z.1, z.2.1⟩
def mkd (W : Web) (hd : Nat) (m : Int) : Web := webOf W.length (fun h => if h = hd then m else mk W h) (pegs W)
theorem mkd_len (W : Web) (hd : Nat) (m : Int) : (mkd W hd m).length = W.length := webOf_len ..
theorem mkd_pegs (W : Web) (hd : Nat) (m : Int) (h : Nat) : pegs (mkd W hd m) h = pegs W h := by
  rcases Nat.lt_or_ge h W.length with z | z
  · exact webOf_pegs z
  · rw [pegs_out z, pegs_out (by rw [mkd_len]; exact z)]
theorem mkd_peg (W : Web) (hd : Nat) (m : Int) (x : Nat × Nat) : peg (mkd W hd m) x = peg W x := by
  unfold peg
  rw [mkd_pegs]
theorem mkd_own {W : Web} (V : Valid W) {hd : Nat} {m : Int} (hh : hd < W.length) (hm : ∀ h, h < W.length → mk W h ≠ m) : Own (mkd W hd m) := by
  intro R B
  have key : ∀ a b, Reach W a b → b = hd → ∀ j, R a j → a = j := by
    intro a b x
    induction x with
    | refl a =>
      intro e j h
      subst e
      have l := B.lt _ _ h
      rw [mkd_len] at l
      have e := B.mrk _ _ h
      have m1 : mk (mkd W a m) a = m := by
        rw [mkd, webOf_mk hh]; simp
      have m2 : mk (mkd W a m) j = if j = a then m else mk W j := webOf_mk l.2
      rw [m1, m2] at e
      split at e
      · rename_i z; exact z.symm
      · exact absurd e.symm (hm j l.2)
    | @step a b p hp _ ih =>
      intro e j h
      have l := B.len _ _ h
      rw [mkd_pegs, mkd_pegs] at l
      have z := B.at_ _ _ h p (by rw [mkd_pegs]; exact hp)
      rw [mkd_peg, mkd_peg] at z
      have i := ih e _ z.2
      have b1 := (V.back a p hp).2.2
      have b2 := (V.back j p (by rw [← l]; exact hp)).2.2
      have e2 : peg W (a, p) = peg W (j, p) := Prod.ext i z.1
      rw [e2, b2] at b1
      exact (congrArg Prod.fst b1).symm
  intro i j h
  have l := B.lt _ _ h
  rw [mkd_len] at l
  exact key i hd (V.conn i hd l.1 hh) rfl j h
theorem mkd_inR {W : Web} (H : InR W) (hd : Nat) (m : Int) : InR (mkd W hd m) := by
  intro h x hx
  rw [mkd_pegs] at hx
  rw [mkd_len, mkd_pegs]
  exact H h x hx
/-- the same with other numbers is a web of one piece too -/
theorem Iso.valid {f g : Nat → Nat} {W W' : Web} (I : Iso f g W W') (V : Valid W) : Valid W' where
  pos := by rw [I.len]; exact V.pos
  back := fun h p hp => by
    have hh : h < W.length := by rw [← I.len]; exact lt_of_peg hp
    have e := I.fg h hh
    generalize ea : g h = a at e
    have ha : a < W.length := by rw [← ea]; exact I.gr h hh
    subst e
    rw [I.plen ha] at hp
    rw [I.peg hp]
    obtain ⟨h1, h2, h3⟩ := V.back a p hp
    refine ⟨by rw [I.len]; exact I.fr _ h1, by show (Nl.peg W (a, p)).2 < _; rw [I.plen h1]; exact h2, ?_⟩
    have z := I.peg h2
    have e3 : Nl.peg W ((Nl.peg W (a, p)).1, (Nl.peg W (a, p)).2) = (a, p) := h3
    rw [e3] at z
    exact z
  conn := by
    have key : ∀ a b, Reach W a b → a < W.length → Reach W' (f a) (f b) := by
      intro a b x
      induction x with
      | refl a => intro _; exact .refl _
      | @step a b p hp _ ih =>
        intro ha
        refine .step p (by rw [I.plen ha]; exact hp) ?_
        rw [I.peg hp]
        exact ih (V.back a p hp).1
    intro a b ha hb
    rw [I.len] at ha hb
    rw [← I.fg a ha, ← I.fg b hb]
    exact key _ _ (V.conn _ _ (I.gr a ha) (I.gr b hb)) (I.gr a ha)
end Nl
end

section
set_option autoImplicit false
set_option linter.all false
namespace Nl
section
variable {κ : Type} [DecidableEq κ]
/-- each once -/
def uniq : List κ → List κ
  | [] => []
  | a :: l => if a ∈ l then uniq l else a :: uniq l
theorem mem_uniq {x : κ} : ∀ {l : List κ}, x ∈ uniq l ↔ x ∈ l
  | [] => Iff.rfl
  | a :: l => by
    unfold uniq
    split
    · rename_i h
      rw [mem_uniq, List.mem_cons]
      exact ⟨.inr, fun z => z.elim (fun e => e ▸ h) id⟩
    · rw [List.mem_cons, List.mem_cons, mem_uniq]
theorem nodup_uniq : ∀ l : List κ, (uniq l).Nodup
  | [] => List.nodup_nil
  | a :: l => by
    unfold uniq
    split
    · exact nodup_uniq l
    · rename_i h
      exact List.nodup_cons.mpr ⟨fun z => h (mem_uniq.mp z), nodup_uniq l⟩
theorem uniq_len : ∀ l : List κ, (uniq l).length ≤ l.length
  | [] => Nat.le_refl _
  | a :: l => by
    have := uniq_len l
    unfold uniq
    split
    · simp only [List.length_cons]; omega
    · simp only [List.length_cons]; omega
def rank (lt : κ → κ → Bool) (ks : List κ) (k : κ) : Nat := ((uniq ks).filter fun x => lt x k).length
def places (lt : κ → κ → Bool) (ks : List κ) : List Nat := ks.map (rank lt ks)

structure StrictOn (lt : κ → κ → Bool) (ks : List κ) : Prop where
  irr : ∀ a ∈ ks, lt a a = false
  tr : ∀ a ∈ ks, ∀ b ∈ ks, ∀ c ∈ ks, lt a b = true → lt b c = true → lt a c = true
  tot : ∀ a ∈ ks, ∀ b ∈ ks, a ≠ b → lt a b = true ∨ lt b a = true

/-- the unlike ones in order -/
structure Sorted (lt : κ → κ → Bool) (ks S : List κ) : Prop where
  mem : ∀ x, x ∈ S ↔ x ∈ ks
  pw : S.Pairwise fun a b => lt a b = true

variable {lt : κ → κ → Bool} {ks S : List κ}
theorem Sorted.nodup (H : StrictOn lt ks) (T : Sorted lt ks S) : S.Nodup := by
  refine List.Pairwise.imp_of_mem (fun {a b} ha hb h e => ?_) T.pw
  subst e
  rw [H.irr a ((T.mem a).mp ha)] at h
  cases h
theorem perm_of_nodup {l m : List κ} (hl : l.Nodup) (hm : m.Nodup) (h : ∀ x, x ∈ l ↔ x ∈ m) : l.Perm m := (List.perm_ext_iff_of_nodup hl hm).mpr h
theorem rank_at (H : StrictOn lt ks) (T : Sorted lt ks S) {j : Nat} {k : κ} (hj : S[j]? = some k) : rank lt ks k = j := by
  have pm : (uniq ks).Perm S := perm_of_nodup (nodup_uniq ks) (T.nodup H) fun x => by rw [mem_uniq, T.mem]
  unfold rank
  rw [(pm.filter _).length_eq]
  obtain ⟨hl, e⟩ := List.getElem?_eq_some_iff.mp hj
  have hs : S = S.take j ++ k :: S.drop (j + 1) := by
    rw [← e, List.getElem_cons_drop, List.take_append_drop]
  have hk : k ∈ ks := (T.mem k).mp (by rw [← e]; exact List.getElem_mem hl)
  have pw := T.pw
  rw [hs, List.pairwise_append] at pw
  obtain ⟨_, p2, p3⟩ := pw
  rw [List.pairwise_cons] at p2
  have a1 : (S.take j).filter (fun x => lt x k) = S.take j := List.filter_eq_self.mpr fun x hx => p3 x hx k List.mem_cons_self
  have a2 : (k :: S.drop (j + 1)).filter (fun x => lt x k) = [] := List.filter_eq_nil_iff.mpr fun x hx => by
    rcases List.mem_cons.mp hx with rfl | hx
    · rw [H.irr _ hk]; decide
    · intro h
      have hx' : x ∈ ks := (T.mem x).mp (List.mem_of_mem_drop hx)
      have := H.tr k hk x hx' k hk (p2.1 x hx) h
      rw [H.irr _ hk] at this
      cases this
  rw [hs, List.filter_append, a1, a2, List.append_nil, List.length_take]
  omega
/-- put in its place -/
theorem insert_sorted {a : κ} {l : List κ} (H : StrictOn lt (a :: l)) : ∀ {S : List κ}, (∀ x ∈ S, x ∈ l) → a ∉ S → S.Pairwise (fun a b => lt a b = true) → ∃ S' : List κ, (∀ x, x ∈ S' ↔ x = a ∨ x ∈ S) ∧ S'.Pairwise fun a b => lt a b = true
  | [], _, _, _ => ⟨[a], fun x => by simp, List.pairwise_singleton _ _⟩
  | b :: S, hs, hn, pw => by
    have hb : b ∈ l := hs b List.mem_cons_self
    rw [List.pairwise_cons] at pw
    have hne : a ≠ b := fun e => hn (e ▸ List.mem_cons_self)
    rcases H.tot a List.mem_cons_self b (List.mem_cons_of_mem _ hb) hne with h | h
    · refine ⟨a :: b :: S, fun x => by simp, List.pairwise_cons.mpr ⟨fun x hx => ?_, List.pairwise_cons.mpr pw⟩⟩
      rcases List.mem_cons.mp hx with rfl | hx
      · exact h
      · exact H.tr a List.mem_cons_self b (List.mem_cons_of_mem _ hb) x (List.mem_cons_of_mem _ (hs x (List.mem_cons_of_mem _ hx))) h (pw.1 x hx)
    · obtain ⟨S', m, p⟩ := insert_sorted (a := a) H (S := S) (fun x hx => hs x (List.mem_cons_of_mem _ hx)) (fun z => hn (List.mem_cons_of_mem _ z)) pw.2
      refine ⟨b :: S', fun x => ?_, List.pairwise_cons.mpr ⟨fun x hx => ?_, p⟩⟩
      · rw [List.mem_cons, m, List.mem_cons]
        constructor
        · rintro (z | z | z)
          · exact .inr (.inl z)
          · exact .inl z
          · exact .inr (.inr z)
        · rintro (z | z | z)
          · exact .inr (.inl z)
          · exact .inl z
          · exact .inr (.inr z)
      · rcases (m x).mp hx with rfl | z
        · exact h
        · exact pw.1 x z
theorem sorted_exists : ∀ {ks : List κ}, StrictOn lt ks → ∃ S, Sorted lt ks S
  | [], _ => ⟨[], fun x => Iff.rfl, List.Pairwise.nil⟩
  | a :: l, H => by
    have H' : StrictOn lt l := ⟨fun x hx => H.irr x (.tail _ hx), fun x hx y hy z hz => H.tr x (.tail _ hx) y (.tail _ hy) z (.tail _ hz), fun x hx y hy => H.tot x (.tail _ hx) y (.tail _ hy)⟩
    obtain ⟨S, T⟩ := sorted_exists H'
    by_cases h : a ∈ S
    · refine ⟨S, fun x => ?_, T.pw⟩
      rw [T.mem, List.mem_cons]
      exact ⟨.inr, fun z => z.elim (fun e => e ▸ (T.mem a).mp h) id⟩
    · obtain ⟨S', m, p⟩ := insert_sorted H (fun x hx => (T.mem x).mp hx) h T.pw
      refine ⟨S', fun x => ?_, p⟩
      rw [m, T.mem, List.mem_cons]

theorem rank_inj (H : StrictOn lt ks) {a b : κ} (ha : a ∈ ks) (hb : b ∈ ks) (e : rank lt ks a = rank lt ks b) : a = b := by
  obtain ⟨S, T⟩ := sorted_exists H
  obtain ⟨i, hi⟩ := List.getElem?_of_mem ((T.mem a).mpr ha)
  obtain ⟨j, hj⟩ := List.getElem?_of_mem ((T.mem b).mpr hb)
  rw [rank_at H T hi, rank_at H T hj] at e
  subst e
  rw [hi] at hj
  exact Option.some.inj hj
theorem rank_lt (H : StrictOn lt ks) {a b : κ} (ha : a ∈ ks) (hb : b ∈ ks) (h : lt a b = true) : rank lt ks a < rank lt ks b := by
  obtain ⟨S, T⟩ := sorted_exists H
  obtain ⟨i, hi⟩ := List.getElem?_of_mem ((T.mem a).mpr ha)
  obtain ⟨j, hj⟩ := List.getElem?_of_mem ((T.mem b).mpr hb)
  rw [rank_at H T hi, rank_at H T hj]
  obtain ⟨hi1, hi2⟩ := List.getElem?_eq_some_iff.mp hi
  obtain ⟨hj1, hj2⟩ := List.getElem?_eq_some_iff.mp hj
  rcases Nat.lt_trichotomy i j with z | z | z
  · exact z
  · subst z
    rw [hi] at hj
    rw [Option.some.inj hj, H.irr b hb] at h
    cases h
  · exfalso
    have p := List.pairwise_iff_getElem.mp T.pw j i hj1 hi1 z
    rw [hi2, hj2] at p
    have := H.tr a ha b hb a ha h p
    rw [H.irr a ha] at this
    cases this
theorem rank_hit (H : StrictOn lt ks) {a : κ} (ha : a ∈ ks) {v : Nat} (hv : v ≤ rank lt ks a) : ∃ b ∈ ks, rank lt ks b = v := by
  obtain ⟨S, T⟩ := sorted_exists H
  obtain ⟨i, hi⟩ := List.getElem?_of_mem ((T.mem a).mpr ha)
  rw [rank_at H T hi] at hv
  have hl : v < S.length := Nat.lt_of_le_of_lt hv (List.getElem?_eq_some_iff.mp hi).1
  exact ⟨S[v], (T.mem _).mp (List.getElem_mem hl), rank_at H T (List.getElem?_eq_getElem hl)⟩
end

/-! ### numbers of hands: c i below n, all numbers up to each one there -/
structure Nums (n : Nat) (c : Nat → Nat) : Prop where
  hit : ∀ i, i < n → ∀ v, v ≤ c i → ∃ j, j < n ∧ c j = v
def top (n : Nat) (c : Nat → Nat) : Nat := match n with
  | 0 => 0
  | n + 1 => max (c n) (top n c)
theorem le_top {c : Nat → Nat} : ∀ {n i : Nat}, i < n → c i ≤ top n c
  | n + 1, i, h => by
    show c i ≤ max (c n) (top n c)
    rcases Nat.lt_or_ge i n with z | z
    · exact Nat.le_trans (le_top z) (Nat.le_max_right ..)
    · have e : i = n := by omega
      rw [e]; exact Nat.le_max_left ..
theorem top_hit {c : Nat → Nat} : ∀ {n : Nat}, 0 < n → ∃ i, i < n ∧ c i = top n c
  | 1, _ => ⟨0, Nat.one_pos, by show c 0 = max (c 0) 0; omega⟩
  | n + 2, _ => by
    obtain ⟨i, hi, e⟩ := top_hit (c := c) (n := n + 1) (Nat.succ_pos _)
    by_cases h : c (n + 1) ≤ top (n + 1) c
    · refine ⟨i, by omega, ?_⟩
      show c i = max (c (n + 1)) (top (n + 1) c)
      rw [e]; omega
    · refine ⟨n + 1, by omega, ?_⟩
      show c (n + 1) = max (c (n + 1)) (top (n + 1) c)
      omega
theorem top_congr {c d : Nat → Nat} : ∀ {n : Nat}, (∀ i, i < n → c i = d i) → top n c = top n d
  | 0, _ => rfl
  | n + 1, h => by
    show max (c n) (top n c) = max (d n) (top n d)
    rw [h n (Nat.lt_succ_self n), top_congr fun i hi => h i (Nat.lt_succ_of_lt hi)]
theorem nodup_fit : ∀ (l D : List Nat), l.Nodup → (∀ x ∈ l, x ∈ D) → l.length ≤ D.length
  | [], _, _, _ => Nat.zero_le _
  | a :: l, D, h, s => by
    obtain ⟨h1, h2⟩ := List.nodup_cons.mp h
    have ha : a ∈ D := s a List.mem_cons_self
    have i := nodup_fit l (D.erase a) h2 fun y hy => (List.mem_erase_of_ne fun e : y = a => h1 (e ▸ hy)).mpr (s y (List.mem_cons_of_mem _ hy))
    rw [List.length_erase_of_mem ha] at i
    have := List.length_pos_of_mem ha
    simp only [List.length_cons]
    omega
/-- pigeons -/
theorem pigeon {m n : Nat} (f : Nat → Nat) (hf : ∀ i, i < m → f i < n) (hi : ∀ i j, i < m → j < m → f i = f j → i = j) : m ≤ n := by
  have h1 : ((List.range m).map f).Nodup := by
    rw [List.Nodup, List.pairwise_map]
    refine List.Pairwise.imp_of_mem (fun {a b} ha hb hne e => hne ?_) List.nodup_range
    exact hi a b (List.mem_range.mp ha) (List.mem_range.mp hb) e
  have h2 : ((List.range m).map f).length ≤ (List.range n).length := by
    refine nodup_fit _ _ h1 fun x hx => ?_
    obtain ⟨i, hi, rfl⟩ := List.mem_map.mp hx
    exact List.mem_range.mpr (hf i (List.mem_range.mp hi))
  simpa using h2
theorem Nums.top_lt {n : Nat} {c : Nat → Nat} (N : Nums n c) (h : 0 < n) : top n c < n := by
  obtain ⟨i, hi, e⟩ := top_hit (c := c) h
  have pick : ∀ v, ∃ j, v ≤ top n c → j < n ∧ c j = v := fun v => by
    by_cases hv : v ≤ top n c
    · obtain ⟨j, hj⟩ := N.hit i hi v (by omega)
      exact ⟨j, fun _ => hj⟩
    · exact ⟨0, fun z => absurd z hv⟩
  have f := fun v => (pick v).choose
  have hf : ∀ v, v ≤ top n c → (pick v).choose < n ∧ c (pick v).choose = v := fun v => (pick v).choose_spec
  refine pigeon (m := top n c + 1) (n := n) (fun v => (pick v).choose) (fun v hv => (hf v (by omega)).1) fun a b ha hb e => ?_
  have e' : (pick a).choose = (pick b).choose := e
  rw [← (hf a (by omega)).2, ← (hf b (by omega)).2, e']
/-- as many numbers as hands: each its own -/
theorem Nums.inj_of_top {n : Nat} {c : Nat → Nat} (N : Nums n c) (h : top n c + 1 = n) : ∀ i j, i < n → j < n → c i = c j → i = j := by
  intro i j hi hj e
  rcases Nat.lt_trichotomy i j with z | z | z
  · exfalso; exact absurd h (by
      have := go n c N h i j hi hj z e
      exact this.elim)
  · exact z
  · exfalso; exact go n c N h j i hj hi z e.symm
where
  go (n : Nat) (c : Nat → Nat) (N : Nums n c) (h : top n c + 1 = n) (i j : Nat) (_ : i < n) (hj : j < n) (z : i < j) (e : c i = c j) : False := by
    -- n numbers out of the n - 1 hands that are left behind j
    obtain ⟨t, ht, et⟩ := top_hit (c := c) (n := n) (by omega)
    have pick : ∀ v, ∃ k, v < n → k < n - 1 ∧ (if k < j then c k else c (k + 1)) = v := fun v => by
      by_cases hv : v < n
      · obtain ⟨k, hk, ek⟩ := N.hit t ht v (by omega)
        rcases Nat.lt_trichotomy k j with q | q | q
        · exact ⟨k, fun _ => ⟨by omega, by rw [if_pos q]; exact ek⟩⟩
        · refine ⟨i, fun _ => ⟨by omega, ?_⟩⟩
          rw [if_pos z, e, ← q]; exact ek
        · refine ⟨k - 1, fun _ => ⟨by omega, ?_⟩⟩
          rw [if_neg (by omega), show k - 1 + 1 = k by omega]; exact ek
      · exact ⟨0, fun q => absurd q hv⟩
    have hf : ∀ v, v < n → (pick v).choose < n - 1 ∧ (if (pick v).choose < j then c (pick v).choose else c ((pick v).choose + 1)) = v := fun v => (pick v).choose_spec
    have := pigeon (m := n) (n := n - 1) (fun v => (pick v).choose) (fun v hv => (hf v hv).1) fun a b ha hb e => by
      have e' : (pick a).choose = (pick b).choose := e
      have h1 := (hf a ha).2
      have h2 := (hf b hb).2
      rw [e'] at h1
      exact h1.symm.trans h2
    omega
theorem top_of_inj {n : Nat} {c : Nat → Nat} (N : Nums n c) (h0 : 0 < n) (h : ∀ i j, i < n → j < n → c i = c j → i = j) : top n c + 1 = n := by
  have a := N.top_lt h0
  have b := pigeon (m := n) (n := top n c + 1) c (fun i hi => Nat.lt_succ_of_le (le_top hi)) h
  omega
/-- a step onward parts no hands that are parted, and keeps the order -/
structure Finer (n : Nat) (c d : Nat → Nat) : Prop where
  nums : Nums n c
  nums' : Nums n d
  lt : ∀ i j, i < n → j < n → c i < c j → d i < d j
theorem Finer.le {n : Nat} {c d : Nat → Nat} (F : Finer n c d) : ∀ (v i : Nat), i < n → c i = v → v ≤ d i
  | 0, _, _, _ => Nat.zero_le _
  | v + 1, i, hi, e => by
    obtain ⟨j, hj, ej⟩ := F.nums.hit i hi v (by omega)
    have a := F.le v j hj ej
    have b := F.lt j i hj hi (by omega)
    omega
theorem Finer.ge {n : Nat} {c d : Nat → Nat} (F : Finer n c d) : ∀ (k i : Nat), i < n → c i + k = top n c → d i + k ≤ top n d
  | 0, i, hi, _ => le_top hi
  | k + 1, i, hi, e => by
    obtain ⟨t, ht, et⟩ := top_hit (c := c) (n := n) (by omega)
    obtain ⟨j, hj, ej⟩ := F.nums.hit t ht (c i + 1) (by omega)
    have a := F.ge k j hj (by omega)
    have b := F.lt i j hi hj (by omega)
    omega
theorem Finer.top_le {n : Nat} {c d : Nat → Nat} (F : Finer n c d) (h0 : 0 < n) : top n c ≤ top n d := by
  obtain ⟨t, ht, et⟩ := top_hit (c := c) h0
  have a := F.le _ t ht et
  exact Nat.le_trans a (le_top ht)
theorem Finer.same {n : Nat} {c d : Nat → Nat} (F : Finer n c d) (e : top n d = top n c) : ∀ i, i < n → d i = c i := by
  intro i hi
  have a := F.le _ i hi rfl
  have b := F.ge (top n c - c i) i hi (by have := le_top (c := c) hi; omega)
  have := le_top (c := c) hi
  omega
end Nl
end

section
set_option autoImplicit false
set_option linter.all false
set_option maxRecDepth 100000
namespace Nl
open PySem PySem.W PyProof.Rows

/-! ### keys and their order -/
def nlt (a b : NestedKey) : Bool := dataLt a.data b.data
mutual
theorem eqv_keys : ∀ a b : NestedKey, PyData.eqv a.data b.data = true → a = b
  | .none, b, h => by cases b <;> first | rfl | simp [NestedKey.data, PyData.eqv] at h
  | .num i, b, h => by
    cases b with
    | num j => simp only [NestedKey.data, PyData.eqv, beq_iff_eq] at h; rw [h]
    | _ => simp [NestedKey.data, PyData.eqv] at h
  | .text x, b, h => by
    cases b with
    | text y => simp only [NestedKey.data, PyData.eqv, beq_iff_eq, decide_eq_true_eq] at h; rw [h]
    | _ => simp [NestedKey.data, PyData.eqv] at h
  | .tup xs, b, h => by
    cases b with
    | tup ys => simp only [NestedKey.data, PyData.eqv] at h; rw [eqv_keysAll xs ys h]
    | _ => simp [NestedKey.data, PyData.eqv] at h
theorem eqv_keysAll : ∀ a b : List NestedKey, PyData.eqvAll (NestedKey.datas a) (NestedKey.datas b) = true → a = b
  | [], [], _ => rfl
  | [], _ :: _, h => by simp [NestedKey.datas, PyData.eqvAll] at h
  | _ :: _, [], h => by simp [NestedKey.datas, PyData.eqvAll] at h
  | x :: xs, y :: ys, h => by
    simp only [NestedKey.datas, PyData.eqvAll, Bool.and_eq_true] at h
    rw [eqv_keys x y h.1, eqv_keysAll xs ys h.2]
end
theorem toks_inj {x y : PyData} (h : alike x y = true) (e : keyToks x = keyToks y) : PyData.eqv x y = true := by
  cases q : PyData.eqv x y with
  | true => rfl
  | false =>
    exfalso
    have a := (toks_eqv x y h).2 q [] [.inl 0]
    rw [e, lex_pre, lex_irrefl] at a
    have b : PyProof.Rows.lexLt itemOrd [] [Sum.inl 0] = true := by
      simp [PyProof.Rows.lexLt]
    rw [b] at a
    cases a
theorem strict_alike {ks : List NestedKey} (h : ∀ a ∈ ks, ∀ b ∈ ks, alike a.data b.data = true) : StrictOn nlt ks where
  irr := fun a _ => lex_irrefl _
  tr := fun a _ b _ c _ h1 h2 => lex_trans _ _ _ h1 h2
  tot := fun a ha b hb hne => by
    cases h1 : nlt a b with
    | true => exact .inl rfl
    | false =>
      cases h2 : nlt b a with
      | true => exact .inr rfl
      | false =>
        exfalso
        have e := lex_total (O := itemOrd) _ _ h1 h2
        exact hne (eqv_keys a b (toks_inj (h a ha b hb) e))

/-! ### the keys of the turns -/
def key0 (W : Web) (h : Nat) : NestedKey := .tup [.num (mk W h), .num (pegs W h).length]
def heardK (W : Web) (c : Nat → Nat) (h : Nat) : NestedKey := .tup ((pegs W h).map fun x => .tup [.num x.2, .num (c x.1)])
def keyC (W : Web) (c : Nat → Nat) (h : Nat) : NestedKey := .tup [.num (c h), heardK W c h]
def keys0 (W : Web) : List NestedKey := (List.range W.length).map (key0 W)
def keysC (W : Web) (c : Nat → Nat) : List NestedKey := (List.range W.length).map (keyC W c)
theorem alike_key0 (W : Web) (h k : Nat) : alike (key0 W h).data (key0 W k).data = true := by
  simp [key0, NestedKey.data, NestedKey.datas, alike, alikeAll]
theorem alike_pairs (c : Nat → Nat) : ∀ l m : List (Nat × Nat), alikeAll (NestedKey.datas (l.map fun x => .tup [.num x.2, .num (c x.1)])) (NestedKey.datas (m.map fun x => .tup [.num x.2, .num (c x.1)])) = true
  | [], _ => by simp [NestedKey.datas, alikeAll]
  | _ :: _, [] => by simp [NestedKey.datas, alikeAll]
  | x :: l, y :: m => by
    have ih := alike_pairs c l m
    simp only [List.map_cons, NestedKey.datas, alikeAll, ih, Bool.and_true]
    simp [NestedKey.data, NestedKey.datas, alike, alikeAll]
theorem alike_keyC (W : Web) (c : Nat → Nat) (h k : Nat) : alike (keyC W c h).data (keyC W c k).data = true := by
  have := alike_pairs c (pegs W h) (pegs W k)
  simp only [keyC, heardK, NestedKey.data, NestedKey.datas, alike, alikeAll, this, Bool.and_true]
theorem strict0 (W : Web) : StrictOn nlt (keys0 W) := strict_alike fun a ha b hb => by
  obtain ⟨h, _, rfl⟩ := List.mem_map.mp ha
  obtain ⟨k, _, rfl⟩ := List.mem_map.mp hb
  exact alike_key0 W h k
theorem strictC (W : Web) (c : Nat → Nat) : StrictOn nlt (keysC W c) := strict_alike fun a ha b hb => by
  obtain ⟨h, _, rfl⟩ := List.mem_map.mp ha
  obtain ⟨k, _, rfl⟩ := List.mem_map.mp hb
  exact alike_keyC W c h k
theorem keyC_lt {W : Web} {c : Nat → Nat} {h k : Nat} (e : c h < c k) : nlt (keyC W c h) (keyC W c k) = true := by
  have al : alike (heardK W c h).data (heardK W c k).data = true := by
    have := alike_pairs c (pegs W h) (pegs W k)
    simp only [heardK, NestedKey.data, alike, this]
  unfold nlt keyC
  simp only [NestedKey.data, NestedKey.datas]
  rw [dataLt_pair (by simp [alike]) al]
  have hne : ¬ PyData.eqv (.int (c h)) (.int (c k)) = true := by
    simp only [PyData.eqv, beq_iff_eq]; omega
  rw [if_neg hne, dataLt_int]
  simp only [decide_eq_true_eq]
  omega
theorem keyC_eq {W : Web} {c : Nat → Nat} {h k : Nat} : keyC W c h = keyC W c k ↔ c h = c k ∧ (pegs W h).length = (pegs W k).length ∧ ∀ p, p < (pegs W h).length → (peg W (h, p)).2 = (peg W (k, p)).2 ∧ c (peg W (h, p)).1 = c (peg W (k, p)).1 := by
  unfold keyC heardK
  simp only [NestedKey.tup.injEq, List.cons.injEq, NestedKey.num.injEq, and_true]
  have hi : ∀ a b : Nat, ((a : Int) = b) ↔ a = b := fun a b => by omega
  constructor
  · rintro ⟨e1, e2⟩
    have e3 := congrArg List.length e2
    rw [List.length_map, List.length_map] at e3
    refine ⟨(hi _ _).mp e1, e3, fun p hp => ?_⟩
    have z := congrArg (fun l => l[p]?) e2
    simp only [List.getElem?_map, peg_get hp, peg_get (W := W) (h := k) (p := p) (by omega), Option.map_some, Option.some.injEq, NestedKey.tup.injEq, List.cons.injEq, NestedKey.num.injEq, and_true, hi] at z
    exact z
  · rintro ⟨e1, e2, e3⟩
    refine ⟨by rw [e1], ?_⟩
    refine List.ext_getElem? fun p => ?_
    rcases Nat.lt_or_ge p (pegs W h).length with z | z
    · simp only [List.getElem?_map, peg_get z, peg_get (W := W) (h := k) (p := p) (by omega), Option.map_some]
      rw [(e3 p z).1, (e3 p z).2]
    · rw [List.getElem?_eq_none (by simpa using z), List.getElem?_eq_none (by rw [List.length_map]; omega)]
theorem key0_eq {W : Web} {h k : Nat} : key0 W h = key0 W k ↔ mk W h = mk W k ∧ (pegs W h).length = (pegs W k).length := by
  unfold key0
  simp only [NestedKey.tup.injEq, List.cons.injEq, NestedKey.num.injEq, and_true]
  constructor <;> rintro ⟨a, b⟩ <;> exact ⟨a, by omega⟩

/-! ### the numbers at a turn -/
def at0 (c : List Nat) (i : Nat) : Nat := c.getD i 0
def begun (W : Web) : List Nat := places nlt (keys0 W)
def onward (W : Web) (c : List Nat) : List Nat := places nlt (keysC W (at0 c))
def col (W : Web) : Nat → List Nat
  | 0 => begun W
  | t + 1 => onward W (col W t)
theorem begun_len (W : Web) : (begun W).length = W.length := by simp [begun, places, keys0]
theorem onward_len (W : Web) (c : List Nat) : (onward W c).length = W.length := by simp [onward, places, keysC]
theorem col_len (W : Web) : ∀ t, (col W t).length = W.length
  | 0 => begun_len W
  | _ + 1 => onward_len ..
theorem begun_at {W : Web} {i : Nat} (h : i < W.length) : at0 (begun W) i = rank nlt (keys0 W) (key0 W i) := by
  have e : (begun W)[i]? = some (rank nlt (keys0 W) (key0 W i)) := by simp [begun, places, keys0, h]
  unfold at0
  rw [List.getD_eq_getElem?_getD, e]
  rfl
theorem onward_at {W : Web} {c : List Nat} {i : Nat} (h : i < W.length) : at0 (onward W c) i = rank nlt (keysC W (at0 c)) (keyC W (at0 c) i) := by
  have e : (onward W c)[i]? = some (rank nlt (keysC W (at0 c)) (keyC W (at0 c) i)) := by simp [onward, places, keysC, h]
  unfold at0
  rw [List.getD_eq_getElem?_getD, e]
  rfl
theorem mem_keys0 {W : Web} {i : Nat} (h : i < W.length) : key0 W i ∈ keys0 W := List.mem_map.mpr ⟨i, List.mem_range.mpr h, rfl⟩
theorem mem_keysC {W : Web} {c : Nat → Nat} {i : Nat} (h : i < W.length) : keyC W c i ∈ keysC W c := List.mem_map.mpr ⟨i, List.mem_range.mpr h, rfl⟩
theorem nums_col (W : Web) : ∀ t, Nums W.length (at0 (col W t))
  | 0 => ⟨fun i hi v hv => by
    have e : at0 (col W 0) i = _ := begun_at hi
    rw [e] at hv
    obtain ⟨b, hb, eb⟩ := rank_hit (strict0 W) (mem_keys0 hi) hv
    obtain ⟨j, hj, rfl⟩ := List.mem_map.mp hb
    exact ⟨j, List.mem_range.mp hj, (begun_at (List.mem_range.mp hj)).trans eb⟩⟩
  | t + 1 => ⟨fun i hi v hv => by
    have e : at0 (col W (t + 1)) i = _ := onward_at hi
    rw [e] at hv
    obtain ⟨b, hb, eb⟩ := rank_hit (strictC W _) (mem_keysC hi) hv
    obtain ⟨j, hj, rfl⟩ := List.mem_map.mp hb
    exact ⟨j, List.mem_range.mp hj, (onward_at (List.mem_range.mp hj)).trans eb⟩⟩
theorem finer_col (W : Web) (t : Nat) : Finer W.length (at0 (col W t)) (at0 (col W (t + 1))) where
  nums := nums_col W t
  nums' := nums_col W (t + 1)
  lt := fun i j hi hj h => by
    have e1 : at0 (col W (t + 1)) i = _ := onward_at hi
    have e2 : at0 (col W (t + 1)) j = _ := onward_at hj
    rw [e1, e2]
    exact rank_lt (strictC W _) (mem_keysC hi) (mem_keysC hj) (keyC_lt h)
theorem list_ext_at {c d : List Nat} {n : Nat} (hc : c.length = n) (hd : d.length = n) (h : ∀ i, i < n → at0 c i = at0 d i) : c = d := by
  refine List.ext_getElem? fun i => ?_
  rcases Nat.lt_or_ge i n with z | z
  · have := h i z
    unfold at0 at this
    rw [List.getD_eq_getElem?_getD, List.getD_eq_getElem?_getD, List.getElem?_eq_getElem (by omega), List.getElem?_eq_getElem (by omega)] at this
    rw [List.getElem?_eq_getElem (by omega), List.getElem?_eq_getElem (by omega)]
    exact congrArg some this
  · rw [List.getElem?_eq_none (by omega), List.getElem?_eq_none (by omega)]
theorem col_grows {W : Web} (h0 : 0 < W.length) {t : Nat} (hne : col W (t + 1) ≠ col W t) : top W.length (at0 (col W t)) < top W.length (at0 (col W (t + 1))) := by
  have F := finer_col W t
  rcases Nat.lt_or_ge (top W.length (at0 (col W t))) (top W.length (at0 (col W (t + 1)))) with z | z
  · exact z
  · exact absurd (list_ext_at (col_len W _) (col_len W _) (F.same (Nat.le_antisymm z (F.top_le h0)))) hne
theorem col_climb {W : Web} (h0 : 0 < W.length) : ∀ {t : Nat}, (∀ s, s < t → col W (s + 1) ≠ col W s) → t ≤ top W.length (at0 (col W t))
  | 0, _ => Nat.zero_le _
  | t + 1, h => by
    have a := col_climb h0 (t := t) fun s hs => h s (Nat.lt_succ_of_lt hs)
    have b := col_grows h0 (h t (Nat.lt_succ_self t))
    omega
theorem col_turns {W : Web} (h0 : 0 < W.length) {t : Nat} (h : ∀ s, s < t → col W (s + 1) ≠ col W s) : t < W.length :=
  Nat.lt_of_le_of_lt (col_climb h0 h) ((nums_col W t).top_lt h0)
theorem col_stays {W : Web} {t : Nat} (h : col W (t + 1) = col W t) : ∀ k, col W (t + k) = col W t
  | 0 => rfl
  | k + 1 => by
    show onward W (col W (t + k)) = _
    rw [col_stays h k]
    exact h
theorem col_first {W : Web} (h0 : 0 < W.length) {t : Nat} (h : ∀ s, s < t → col W (s + 1) ≠ col W s) (e : col W (t + 1) = col W t) : col W t = col W W.length := by
  have a := col_turns h0 h
  have b := col_stays e (W.length - t)
  rw [show t + (W.length - t) = W.length by omega] at b
  exact b.symm
theorem col_end {W : Web} (h0 : 0 < W.length) : col W (W.length + 1) = col W W.length := by
  have ex : ∃ t, t ≤ W.length ∧ col W (t + 1) = col W t := by
    refine Classical.byContradiction fun hn => ?_
    have := col_turns (W := W) h0 (t := W.length) fun s hs e => hn ⟨s, Nat.le_of_lt hs, e⟩
    omega
  obtain ⟨t, ht, e⟩ := ex
  have a := col_stays e (W.length - t)
  have b := col_stays e (W.length + 1 - t)
  rw [show t + (W.length - t) = W.length by omega] at a
  rw [show t + (W.length + 1 - t) = W.length + 1 by omega] at b
  rw [a, b]

def isOwn (W : Web) : Bool := top W.length (at0 (col W W.length)) + 1 == W.length
/-- bisimilar hands have one number at every turn -/
theorem bis_col {W : Web} {R : Nat → Nat → Prop} (B : Bis W R) : ∀ (t i j : Nat), R i j → at0 (col W t) i = at0 (col W t) j
  | 0, i, j, h => by
    have l := B.lt i j h
    have e1 : at0 (col W 0) i = _ := begun_at l.1
    have e2 : at0 (col W 0) j = _ := begun_at l.2
    rw [e1, e2, key0_eq.mpr ⟨B.mrk i j h, B.len i j h⟩]
  | t + 1, i, j, h => by
    have l := B.lt i j h
    have e1 : at0 (col W (t + 1)) i = _ := onward_at l.1
    have e2 : at0 (col W (t + 1)) j = _ := onward_at l.2
    rw [e1, e2, keyC_eq.mpr ⟨bis_col B t i j h, B.len i j h, fun p hp => ⟨(B.at_ i j h p hp).1, bis_col B t _ _ (B.at_ i j h p hp).2⟩⟩]
theorem col_key {W : Web} {t i j : Nat} (hi : i < W.length) (hj : j < W.length) (h : at0 (col W (t + 1)) i = at0 (col W (t + 1)) j) : keyC W (at0 (col W t)) i = keyC W (at0 (col W t)) j := by
  have e1 : at0 (col W (t + 1)) i = _ := onward_at hi
  have e2 : at0 (col W (t + 1)) j = _ := onward_at hj
  rw [e1, e2] at h
  exact rank_inj (strictC W _) (mem_keysC hi) (mem_keysC hj) h
theorem col_mark {W : Web} : ∀ {t i j : Nat}, i < W.length → j < W.length → at0 (col W t) i = at0 (col W t) j → mk W i = mk W j
  | 0, i, j, hi, hj, h => by
    have e1 : at0 (col W 0) i = _ := begun_at hi
    have e2 : at0 (col W 0) j = _ := begun_at hj
    rw [e1, e2] at h
    exact (key0_eq.mp (rank_inj (strict0 W) (mem_keys0 hi) (mem_keys0 hj) h)).1
  | t + 1, i, j, hi, hj, h => col_mark hi hj (keyC_eq.mp (col_key hi hj h)).1
theorem isOwn_iff {W : Web} (h0 : 0 < W.length) (H : InR W) : isOwn W = true ↔ Own W := by
  unfold isOwn
  rw [beq_iff_eq]
  constructor
  · intro h R B i j hij
    have l := B.lt i j hij
    exact (nums_col W W.length).inj_of_top h i j l.1 l.2 (bis_col B _ i j hij)
  · intro h
    refine top_of_inj (nums_col W _) h0 fun i j hi hj e => ?_
    refine h (fun a b => a < W.length ∧ b < W.length ∧ at0 (col W W.length) a = at0 (col W W.length) b) ⟨fun a b z => ⟨z.1, z.2.1⟩, ?_, ?_, ?_⟩ i j ⟨hi, hj, e⟩
    · rintro a b ⟨ha, hb, z⟩
      exact col_mark ha hb z
    · rintro a b ⟨ha, hb, z⟩
      rw [← col_end h0] at z
      exact (keyC_eq.mp (col_key ha hb z)).2.1
    · rintro a b ⟨ha, hb, z⟩ p hp
      rw [← col_end h0] at z
      obtain ⟨_, z2, z3⟩ := keyC_eq.mp (col_key ha hb z)
      exact ⟨(z3 p hp).1, (H.peg hp).1, (H.peg (h := b) (p := p) (by omega)).1, (z3 p hp).2⟩
end Nl
end

section
set_option autoImplicit false
set_option linter.all false
namespace Nl
/-- the numbers below n in any order -/
structure IsPerm (r : List Nat) (n : Nat) : Prop where
  len : r.length = n
  nd : r.Nodup
  lt : ∀ x ∈ r, x < n
namespace IsPerm
variable {r : List Nat} {n : Nat}
theorem mem (h : IsPerm r n) {i : Nat} (hi : i < n) : i ∈ r := by
  rcases Classical.em (i ∈ r) with z | z
  · exact z
  · exfalso
    have := nodup_fit (i :: r) (List.range n) (List.nodup_cons.mpr ⟨z, h.nd⟩) fun x hx => by
      rcases List.mem_cons.mp hx with rfl | hx
      · exact List.mem_range.mpr hi
      · exact List.mem_range.mpr (h.lt x hx)
    simp [h.len] at this
    omega
theorem get (h : IsPerm r n) {i : Nat} (hi : i < n) : r[i]? = some (at0 r i) := by
  have hl : i < r.length := by rw [h.len]; exact hi
  unfold at0
  rw [List.getD_eq_getElem?_getD, List.getElem?_eq_getElem hl]
  rfl
theorem at_lt (h : IsPerm r n) {i : Nat} (hi : i < n) : at0 r i < n := h.lt _ (List.mem_of_getElem? (h.get hi))
theorem inj (h : IsPerm r n) {i j : Nat} (hi : i < n) (hj : j < n) (e : at0 r i = at0 r j) : i = j := by
  have a := h.get hi
  have b := h.get hj
  rw [e] at a
  exact (List.getElem?_inj (by rw [h.len]; exact hi) h.nd).mp (a.trans b.symm)
theorem idx_lt (h : IsPerm r n) {i : Nat} (hi : i < n) : r.idxOf i < n := by
  rw [← h.len]
  exact List.idxOf_lt_length_of_mem (h.mem hi)
theorem at_idx (h : IsPerm r n) {i : Nat} (hi : i < n) : at0 r (r.idxOf i) = i := by
  have hl : r.idxOf i < r.length := List.idxOf_lt_length_of_mem (h.mem hi)
  have e : r[r.idxOf i]? = some i := by
    rw [List.getElem?_eq_getElem hl]
    exact congrArg some (List.getElem_idxOf hl)
  rw [h.get (h.idx_lt hi)] at e
  exact Option.some.inj e
theorem idx_at (h : IsPerm r n) {i : Nat} (hi : i < n) : r.idxOf (at0 r i) = i := h.inj (h.idx_lt (h.at_lt hi)) hi (h.at_idx (h.at_lt hi))
end IsPerm
/-- called anew -/
def ren (W : Web) (r : List Nat) : Web := webOf W.length (fun j => mk W (r.idxOf j)) (fun j => (pegs W (r.idxOf j)).map fun x => (at0 r x.1, x.2))
theorem ren_len (W : Web) (r : List Nat) : (ren W r).length = W.length := webOf_len ..
theorem ren_iso {W : Web} {r : List Nat} (H : InR W) (h : IsPerm r W.length) : Iso (at0 r) (fun j => r.idxOf j) W (ren W r) where
  len := ren_len W r
  fr := fun i hi => h.at_lt hi
  gr := fun i hi => h.idx_lt hi
  gf := fun i hi => h.idx_at hi
  fg := fun i hi => h.at_idx hi
  mrk := fun i hi => by
    unfold ren
    rw [webOf_mk (h.at_lt hi), h.idx_at hi]
  pg := fun i hi => by
    unfold ren
    rw [webOf_pegs (h.at_lt hi), h.idx_at hi]
  inr := H
theorem ren_valid {W : Web} {r : List Nat} (V : Valid W) (h : IsPerm r W.length) : Valid (ren W r) := (ren_iso V.back.inR h).valid V
theorem ren_plen {W : Web} {r : List Nat} (h : IsPerm r W.length) {n : Nat} (hn : ∀ i, (pegs W i).length ≤ n) (j : Nat) : (pegs (ren W r) j).length ≤ n := by
  rcases Nat.lt_or_ge j W.length with z | z
  · unfold ren
    rw [webOf_pegs z, List.length_map]
    exact hn _
  · rw [pegs_out (by rw [ren_len]; exact z)]
    exact Nat.zero_le _
end Nl
end

section
set_option autoImplicit false
set_option linter.all false
namespace Nl
theorem at0_set {c : List Nat} {i j v : Nat} (hi : i < c.length) : at0 (c.set i v) j = if i = j then v else at0 c j := by
  unfold at0
  simp only [List.getD_eq_getElem?_getD, List.getElem?_set]
  by_cases e : i = j
  · subst e; simp [hi]
  · simp [e]
/-! ### ties -/
abbrev Tie := (Nat × Nat) × (Nat × Nat)
def ends1 (t : Tie) : List (Nat × Nat) := if t.1 = t.2 then [t.1] else [t.1, t.2]
def endsOf (T : List Tie) : List (Nat × Nat) := T.flatMap ends1
theorem mem_ends1 {t : Tie} {x : Nat × Nat} : x ∈ ends1 t ↔ x = t.1 ∨ x = t.2 := by
  unfold ends1
  split
  · rename_i h
    rw [List.mem_singleton, ← h]
    simp
  · simp
theorem mem_endsOf {T : List Tie} {x : Nat × Nat} : x ∈ endsOf T ↔ ∃ t ∈ T, x = t.1 ∨ x = t.2 := by
  unfold endsOf
  rw [List.mem_flatMap]
  simp only [mem_ends1]
theorem endsOf_snoc (T : List Tie) (t : Tie) : endsOf (T ++ [t]) = endsOf T ++ ends1 t := by
  unfold endsOf
  rw [List.flatMap_append]
  simp
structure TieInv (n : Nat) (c : List Nat) (T : List Tie) : Prop where
  len : c.length = n
  room : ∀ g, g < n → at0 c g ≤ 3
  ends : ∀ x : Nat × Nat, x ∈ endsOf T ↔ x.1 < n ∧ x.2 < at0 c x.1
  nd : (endsOf T).Nodup
theorem TieInv.start (n : Nat) : TieInv n (List.replicate n 0) [] where
  len := List.length_replicate
  room := fun g hg => by
    have : at0 (List.replicate n 0) g = 0 := by unfold at0; simp [List.getD_eq_getElem?_getD, List.getElem?_replicate]; split <;> rfl
    omega
  ends := fun x => by
    have : at0 (List.replicate n 0) x.1 = 0 := by unfold at0; simp [List.getD_eq_getElem?_getD, List.getElem?_replicate]; split <;> rfl
    rw [this]
    constructor
    · intro h; cases h
    · rintro ⟨_, h⟩; exact absurd h (Nat.not_lt_zero _)
  nd := List.nodup_nil
/-- two pegs more, at unlike hands -/
theorem TieInv.two {n : Nat} {c : List Nat} {T : List Tie} (I : TieInv n c T) {a b : Nat} (ha : a < n) (hb : b < n) (hab : a ≠ b) (ra : at0 c a < 3) (rb : at0 c b < 3) {c' : List Nat} (hl : c'.length = n)
    (hc : ∀ j, at0 c' j = if j = a then at0 c a + 1 else if j = b then at0 c b + 1 else at0 c j) : TieInv n c' (T ++ [((a, at0 c a), (b, at0 c b))]) where
  len := hl
  room := fun g hg => by
    rw [hc]
    have := I.room g hg
    split
    · omega
    · split <;> omega
  ends := fun x => by
    obtain ⟨g, s⟩ := x
    rw [endsOf_snoc, List.mem_append, I.ends, mem_ends1, hc]
    simp only [Prod.mk.injEq]
    constructor
    · rintro (⟨h1, h2⟩ | ⟨rfl, rfl⟩ | ⟨rfl, rfl⟩)
      · refine ⟨h1, ?_⟩
        split
        · subst g; omega
        · split
          · subst g; omega
          · exact h2
      · exact ⟨ha, by simp⟩
      · refine ⟨hb, ?_⟩
        rw [if_neg (Ne.symm hab)]; simp
    · rintro ⟨h1, h2⟩
      split at h2
      · subst g
        by_cases e : s = at0 c a
        · exact .inr (.inl ⟨rfl, e⟩)
        · exact .inl ⟨h1, by omega⟩
      · split at h2
        · subst g
          by_cases e : s = at0 c b
          · exact .inr (.inr ⟨rfl, e⟩)
          · exact .inl ⟨h1, by omega⟩
        · exact .inl ⟨h1, h2⟩
  nd := by
    rw [endsOf_snoc]
    have n1 : (a, at0 c a) ∉ endsOf T := fun z => by have := ((I.ends _).mp z).2; exact absurd this (Nat.lt_irrefl _)
    have n2 : (b, at0 c b) ∉ endsOf T := fun z => by have := ((I.ends _).mp z).2; exact absurd this (Nat.lt_irrefl _)
    have ne : (a, at0 c a) ≠ (b, at0 c b) := fun e => hab (congrArg Prod.fst e)
    refine List.nodup_append.mpr ⟨I.nd, ?_, fun x hx y hy e => ?_⟩
    · unfold ends1
      rw [if_neg ne]
      simp [hab]
    · subst e
      rcases mem_ends1.mp hy with rfl | rfl
      · exact n1 hx
      · exact n2 hx
/-- a peg tied to itself -/
theorem TieInv.one {n : Nat} {c : List Nat} {T : List Tie} (I : TieInv n c T) {a : Nat} (ha : a < n) (ra : at0 c a < 3) {c' : List Nat} (hl : c'.length = n)
    (hc : ∀ j, at0 c' j = if j = a then at0 c a + 1 else at0 c j) : TieInv n c' (T ++ [((a, at0 c a), (a, at0 c a))]) where
  len := hl
  room := fun g hg => by
    rw [hc]
    have := I.room g hg
    split <;> omega
  ends := fun x => by
    obtain ⟨g, s⟩ := x
    rw [endsOf_snoc, List.mem_append, I.ends, mem_ends1, hc]
    simp only [Prod.mk.injEq, or_self]
    constructor
    · rintro (⟨h1, h2⟩ | ⟨rfl, rfl⟩)
      · refine ⟨h1, ?_⟩
        split
        · subst g; omega
        · exact h2
      · exact ⟨ha, by simp⟩
    · rintro ⟨h1, h2⟩
      split at h2
      · subst g
        by_cases e : s = at0 c a
        · exact .inr ⟨rfl, e⟩
        · exact .inl ⟨h1, by omega⟩
      · exact .inl ⟨h1, h2⟩
  nd := by
    rw [endsOf_snoc]
    have n1 : (a, at0 c a) ∉ endsOf T := fun z => by have := ((I.ends _).mp z).2; exact absurd this (Nat.lt_irrefl _)
    refine List.nodup_append.mpr ⟨I.nd, by unfold ends1; simp, fun x hx y hy e => ?_⟩
    subst e
    rcases mem_ends1.mp hy with rfl | rfl <;> exact n1 hx
/-- two pegs of one hand -/
theorem TieInv.loop {n : Nat} {c : List Nat} {T : List Tie} (I : TieInv n c T) {a : Nat} (ha : a < n) (ra : at0 c a + 1 < 3) {c' : List Nat} (hl : c'.length = n)
    (hc : ∀ j, at0 c' j = if j = a then at0 c a + 2 else at0 c j) : TieInv n c' (T ++ [((a, at0 c a), (a, at0 c a + 1))]) where
  len := hl
  room := fun g hg => by
    rw [hc]
    have := I.room g hg
    split <;> omega
  ends := fun x => by
    obtain ⟨g, s⟩ := x
    rw [endsOf_snoc, List.mem_append, I.ends, mem_ends1, hc]
    simp only [Prod.mk.injEq]
    constructor
    · rintro (⟨h1, h2⟩ | ⟨rfl, rfl⟩ | ⟨rfl, rfl⟩)
      · refine ⟨h1, ?_⟩
        split
        · subst g; omega
        · exact h2
      · exact ⟨ha, by simp⟩
      · exact ⟨ha, by simp⟩
    · rintro ⟨h1, h2⟩
      split at h2
      · subst g
        by_cases e : s = at0 c a
        · exact .inr (.inl ⟨rfl, e⟩)
        · by_cases e2 : s = at0 c a + 1
          · exact .inr (.inr ⟨rfl, e2⟩)
          · exact .inl ⟨h1, by omega⟩
      · exact .inl ⟨h1, h2⟩
  nd := by
    rw [endsOf_snoc]
    have n1 : (a, at0 c a) ∉ endsOf T := fun z => by have := ((I.ends _).mp z).2; exact absurd this (Nat.lt_irrefl _)
    have n2 : (a, at0 c a + 1) ∉ endsOf T := fun z => by have := ((I.ends _).mp z).2; simp only at this; omega
    refine List.nodup_append.mpr ⟨I.nd, ?_, fun x hx y hy e => ?_⟩
    · unfold ends1
      simp
    · subst e
      rcases mem_ends1.mp hy with rfl | rfl
      · exact n1 hx
      · exact n2 hx
/-- each hand below h but the first is tied to one ahead -/
def Tree (h : Nat) (T : List Tie) : Prop := ∀ g, 0 < g → g < h → ∃ g', g' < g ∧ ∃ s t, ((g, s), (g', t)) ∈ T
theorem Tree.more {h : Nat} {T : List Tie} {t : Tie} (H : Tree h T) : Tree h (T ++ [t]) := fun g h0 h1 => by
  obtain ⟨g', hg, s, t, hm⟩ := H g h0 h1
  exact ⟨g', hg, s, t, List.mem_append_left _ hm⟩

/-! ### the pegs filled in -/
abbrev Tab := List (List (Nat × Nat))
def look2 (A : Tab) (x : Nat × Nat) : Nat × Nat := (A.getD x.1 []).getD x.2 (0, 0)
def put2 (A : Tab) (x v : Nat × Nat) : Tab := A.set x.1 ((A.getD x.1 []).set x.2 v)
def inTab (A : Tab) (x : Nat × Nat) : Prop := x.1 < A.length ∧ x.2 < (A.getD x.1 []).length
theorem put2_len (A : Tab) (x v : Nat × Nat) : (put2 A x v).length = A.length := by simp [put2]
theorem put2_row (A : Tab) (x v : Nat × Nat) (j : Nat) : ((put2 A x v).getD j []).length = (A.getD j []).length := by
  unfold put2
  simp only [List.getD_eq_getElem?_getD, List.getElem?_set]
  by_cases e : x.1 = j
  · subst e
    by_cases h : x.1 < A.length
    · simp [h]
    · simp [h, List.getElem?_eq_none (Nat.not_lt.mp h)]
  · simp [e]
theorem inTab_put {A : Tab} {x v y : Nat × Nat} (h : inTab A y) : inTab (put2 A x v) y := ⟨by rw [put2_len]; exact h.1, by rw [put2_row]; exact h.2⟩
theorem look2_put {A : Tab} {x v y : Nat × Nat} (h : inTab A x) : look2 (put2 A x v) y = if x = y then v else look2 A y := by
  obtain ⟨h1, h2⟩ := h
  obtain ⟨a, p⟩ := x
  obtain ⟨b, q⟩ := y
  unfold look2 put2
  simp only [List.getD_eq_getElem?_getD, List.getElem?_set, Prod.mk.injEq] at h1 h2 ⊢
  by_cases e : a = b
  · subst e
    by_cases e2 : p = q
    · subst e2
      simp [h1, List.getElem?_set]
      rw [List.getElem?_eq_getElem h1, Option.getD_some] at h2
      rw [if_pos h2]
      rfl
    · simp [h1, List.getElem?_set, e2]
  · simp [e]
def fillIn (φ : Nat × Nat → Nat × Nat) (A : Tab) (t : Tie) : Tab := put2 (put2 A (φ t.1) (φ t.2)) (φ t.2) (φ t.1)
theorem fill_len (φ : Nat × Nat → Nat × Nat) : ∀ (T : List Tie) (A : Tab), (T.foldl (fillIn φ) A).length = A.length
  | [], _ => rfl
  | t :: T, A => by
    rw [List.foldl_cons, fill_len φ T]
    simp [fillIn, put2_len]
theorem fill_row (φ : Nat × Nat → Nat × Nat) : ∀ (T : List Tie) (A : Tab) (j : Nat), ((T.foldl (fillIn φ) A).getD j []).length = (A.getD j []).length
  | [], _, _ => rfl
  | t :: T, A, j => by
    rw [List.foldl_cons, fill_row φ T]
    simp only [fillIn, put2_row]
/-- what was not met stays -/
theorem fill_other (φ : Nat × Nat → Nat × Nat) : ∀ (T : List Tie) (A : Tab) (y : Nat × Nat), (∀ t ∈ T, inTab A (φ t.1) ∧ inTab A (φ t.2) ∧ φ t.1 ≠ y ∧ φ t.2 ≠ y) → look2 (T.foldl (fillIn φ) A) y = look2 A y
  | [], _, _, _ => rfl
  | t :: T, A, y, h => by
    obtain ⟨a, b, c, d⟩ := h t List.mem_cons_self
    rw [List.foldl_cons, fill_other φ T _ y fun u hu => ?_]
    · unfold fillIn
      rw [look2_put (inTab_put b), if_neg d, look2_put a, if_neg c]
    · obtain ⟨a', b', c', d'⟩ := h u (List.mem_cons_of_mem _ hu)
      exact ⟨inTab_put (inTab_put a'), inTab_put (inTab_put b'), c', d'⟩
theorem fill_at {φ : Nat × Nat → Nat × Nat} : ∀ (T : List Tie) (A : Tab), (endsOf T).Nodup → (∀ x ∈ endsOf T, inTab A (φ x)) → (∀ x ∈ endsOf T, ∀ y ∈ endsOf T, φ x = φ y → x = y) →
    ∀ t ∈ T, look2 (T.foldl (fillIn φ) A) (φ t.1) = φ t.2 ∧ look2 (T.foldl (fillIn φ) A) (φ t.2) = φ t.1
  | [], _, _, _, _, t, ht => by cases ht
  | u :: T, A, hn, hin, hinj, t, ht => by
    have e0 : endsOf (u :: T) = ends1 u ++ endsOf T := rfl
    rw [e0] at hn hin hinj
    obtain ⟨n1, n2, n3⟩ := List.nodup_append.mp hn
    have u1 : u.1 ∈ ends1 u := mem_ends1.mpr (.inl rfl)
    have u2 : u.2 ∈ ends1 u := mem_ends1.mpr (.inr rfl)
    have i1 := hin _ (List.mem_append_left (endsOf T) u1)
    have i2 := hin _ (List.mem_append_left (endsOf T) u2)
    rw [List.foldl_cons]
    rcases List.mem_cons.mp ht with rfl | ht
    · have oth : ∀ x ∈ ends1 t, ∀ v ∈ T, inTab (fillIn φ A t) (φ v.1) ∧ inTab (fillIn φ A t) (φ v.2) ∧ φ v.1 ≠ φ x ∧ φ v.2 ≠ φ x := fun x hx v hv => by
        have v1 : v.1 ∈ endsOf T := mem_endsOf.mpr ⟨v, hv, .inl rfl⟩
        have v2 : v.2 ∈ endsOf T := mem_endsOf.mpr ⟨v, hv, .inr rfl⟩
        refine ⟨inTab_put (inTab_put (hin _ (List.mem_append_right _ v1))), inTab_put (inTab_put (hin _ (List.mem_append_right _ v2))), fun e => ?_, fun e => ?_⟩
        · exact n3 x hx _ v1 (hinj _ (List.mem_append_right _ v1) _ (List.mem_append_left _ hx) e).symm
        · exact n3 x hx _ v2 (hinj _ (List.mem_append_right _ v2) _ (List.mem_append_left _ hx) e).symm
      rw [fill_other φ T _ _ (oth _ u1), fill_other φ T _ _ (oth _ u2)]
      unfold fillIn
      rw [look2_put (inTab_put i2), look2_put (inTab_put i2), look2_put i1, if_pos rfl]
      refine ⟨?_, if_pos rfl⟩
      split
      · rename_i e; exact e.symm
      · rfl
    · exact fill_at T _ n2 (fun x hx => inTab_put (inTab_put (hin x (List.mem_append_right _ hx)))) (fun x hx y hy => hinj x (List.mem_append_right _ hx) y (List.mem_append_right _ hy)) t ht
/-- the slot's peg, by the new numbers -/
def byN (N : List (List Nat)) (x : Nat × Nat) : Nat × Nat := (x.1, at0 (N.getD x.1 []) x.2)
theorem plain_valid {n : Nat} {c : List Nat} {T : List Tie} {N : List (List Nat)} {m : List Int} (I : TieInv n c T) (hn : 0 < n) (tr : Tree n T) (hN : ∀ g, g < n → IsPerm (N.getD g []) (at0 c g)) (hm : m.length = n) {A0 : Tab} (hA : A0.length = n) (hr : ∀ g, g < n → (A0.getD g []).length = at0 c g) :
    Valid (m.zip (T.foldl (fillIn (byN N)) A0)) ∧ (m.zip (T.foldl (fillIn (byN N)) A0)).length = n ∧ ∀ h, (pegs (m.zip (T.foldl (fillIn (byN N)) A0)) h).length ≤ 3 := by
  generalize hW : T.foldl (fillIn (byN N)) A0 = A
  have hAl : A.length = n := by rw [← hW, fill_len, hA]
  have hAr : ∀ g, g < n → (A.getD g []).length = at0 c g := fun g hg => by rw [← hW, fill_row, hr g hg]
  have hl : (m.zip A).length = n := by simp [hm, hAl]
  have hp : ∀ g, g < n → pegs (m.zip A) g = A.getD g [] := fun g hg => by
    have e : (m.zip A)[g]? = some (m[g]'(by omega), A[g]'(by omega)) := by
      rw [List.getElem?_eq_getElem (by omega), List.getElem_zip]
    rw [pegs_at e, List.getD_eq_getElem?_getD, List.getElem?_eq_getElem (by omega)]
    rfl
  have hpeg : ∀ x : Nat × Nat, x.1 < n → peg (m.zip A) x = look2 A x := fun x hx => by
    unfold peg look2
    rw [hp x.1 hx]
  have inj : ∀ x ∈ endsOf T, ∀ y ∈ endsOf T, byN N x = byN N y → x = y := fun x hx y hy e => by
    obtain ⟨x1, x2⟩ := (I.ends x).mp hx
    obtain ⟨y1, y2⟩ := (I.ends y).mp hy
    have e1 : x.1 = y.1 := (Prod.mk.inj e).1
    have e2 : at0 (N.getD x.1 []) x.2 = at0 (N.getD y.1 []) y.2 := (Prod.mk.inj e).2
    rw [← e1] at e2 y2
    exact Prod.ext e1 ((hN x.1 x1).inj x2 y2 e2)
  have inT : ∀ x ∈ endsOf T, inTab A0 (byN N x) := fun x hx => by
    obtain ⟨x1, x2⟩ := (I.ends x).mp hx
    exact ⟨by rw [hA]; exact x1, by show _ < (A0.getD x.1 []).length; rw [hr _ x1]; exact (hN x.1 x1).at_lt x2⟩
  have fa := fill_at (φ := byN N) T A0 I.nd inT inj
  rw [hW] at fa
  -- each end's peg leads to the other end's
  have lead : ∀ x ∈ endsOf T, ∃ y ∈ endsOf T, peg (m.zip A) (byN N x) = byN N y ∧ peg (m.zip A) (byN N y) = byN N x := fun x hx => by
    obtain ⟨t, ht, e⟩ := mem_endsOf.mp hx
    have t1 : t.1 ∈ endsOf T := mem_endsOf.mpr ⟨t, ht, .inl rfl⟩
    have t2 : t.2 ∈ endsOf T := mem_endsOf.mpr ⟨t, ht, .inr rfl⟩
    obtain ⟨f1, f2⟩ := fa t ht
    have b1 : (byN N t.1).1 < n := ((I.ends _).mp t1).1
    have b2 : (byN N t.2).1 < n := ((I.ends _).mp t2).1
    rw [← hpeg _ b1] at f1
    rw [← hpeg _ b2] at f2
    rcases e with rfl | rfl
    · exact ⟨t.2, t2, f1, f2⟩
    · exact ⟨t.1, t1, f2, f1⟩
  have slot : ∀ h p, p < (pegs (m.zip A) h).length → ∃ x ∈ endsOf T, byN N x = (h, p) := fun h p hlt => by
    have hh : h < n := by rw [← hl]; exact lt_of_peg hlt
    rw [hp h hh, hAr h hh] at hlt
    have i := hN h hh
    refine ⟨(h, (N.getD h []).idxOf p), (I.ends _).mpr ⟨hh, i.idx_lt hlt⟩, ?_⟩
    unfold byN
    simp only
    rw [i.at_idx hlt]
  have back : LeadBack (m.zip A) := fun h p hlt => by
    obtain ⟨x, hx, ex⟩ := slot h p hlt
    obtain ⟨y, hy, e1, e2⟩ := lead x hx
    rw [← ex, e1]
    obtain ⟨y1, y2⟩ := (I.ends y).mp hy
    refine ⟨by rw [hl]; exact y1, ?_, e2⟩
    show _ < (pegs (m.zip A) y.1).length
    rw [hp _ y1, hAr _ y1]
    exact (hN y.1 y1).at_lt y2
  have down : ∀ g, g < n → Reach (m.zip A) g 0 := by
    intro g
    induction g using Nat.strongRecOn with
    | ind g ih =>
      intro hg
      rcases Nat.eq_zero_or_pos g with rfl | h0
      · exact .refl 0
      · obtain ⟨g', hlt, s, t, hm'⟩ := tr g h0 hg
        have f := (fa _ hm').1
        have gs : (g, s) ∈ endsOf T := mem_endsOf.mpr ⟨_, hm', .inl rfl⟩
        obtain ⟨_, s2⟩ := (I.ends _).mp gs
        rw [← hpeg (byN N (g, s)) hg] at f
        refine .step (at0 (N.getD g []) s) (by rw [hp g hg, hAr g hg]; exact (hN g hg).at_lt s2) ?_
        have e : peg (m.zip A) (g, at0 (N.getD g []) s) = byN N (g', t) := f
        rw [e]
        exact ih g' hlt (by omega)
  refine ⟨⟨by rw [hl]; exact hn, back, fun a b ha hb => ?_⟩, hl, fun h => ?_⟩
  · rw [hl] at ha hb
    exact (down a ha).trans ((down b hb).symm back)
  · rcases Nat.lt_or_ge h n with z | z
    · rw [hp h z, hAr h z]; exact I.room h z
    · rw [pegs_out (by rw [hl]; exact z)]
      exact Nat.zero_le _
end Nl
end

section
set_option autoImplicit false
set_option linter.all false
namespace Nl
/-! ### turnings -/
/-- a row of S numbers below S that is its own inverse, the numbers from k on in their places -/
structure Flip (S k : Nat) (r : List Nat) : Prop where
  len : r.length = S
  lt : ∀ i, i < S → at0 r i < S
  inv : ∀ i, i < S → at0 r (at0 r i) = i
  tail : ∀ i, k ≤ i → i < S → at0 r i = i
theorem at0_range {S i : Nat} (h : i < S) : at0 (List.range S) i = i := by
  unfold at0
  rw [List.getD_eq_getElem?_getD, List.getElem?_range h]
  rfl
theorem Flip.start (S : Nat) : Flip S 0 (List.range S) where
  len := List.length_range
  lt := fun i hi => by rw [at0_range hi]; exact hi
  inv := fun i hi => by rw [at0_range hi, at0_range hi]
  tail := fun i _ hi => at0_range hi
theorem Flip.more {S k k' : Nat} {r : List Nat} (F : Flip S k r) (h : k ≤ k') : Flip S k' r := ⟨F.len, F.lt, F.inv, fun i hi => F.tail i (by omega)⟩
theorem Flip.swap {S k : Nat} {r : List Nat} (F : Flip S (2 * k) r) (h : 2 * k + 1 < S) : Flip S (2 * (k + 1)) ((r.set (2 * k) (2 * k + 1)).set (2 * k + 1) (2 * k)) := by
  have hl := F.len
  have e : ∀ i, at0 ((r.set (2 * k) (2 * k + 1)).set (2 * k + 1) (2 * k)) i = if 2 * k + 1 = i then 2 * k else if 2 * k = i then 2 * k + 1 else at0 r i := fun i => by
    rw [at0_set (by rw [List.length_set]; omega), at0_set (by omega)]
  have low : ∀ i, i < S → i ≠ 2 * k → i ≠ 2 * k + 1 → at0 r i ≠ 2 * k ∧ at0 r i ≠ 2 * k + 1 := fun i hi h1 h2 => by
    have a := F.inv i hi
    refine ⟨fun z => ?_, fun z => ?_⟩
    · rw [z, F.tail (2 * k) (Nat.le_refl _) (by omega)] at a; exact h1 a.symm
    · rw [z, F.tail (2 * k + 1) (by omega) h] at a; exact h2 a.symm
  refine ⟨by simp [hl], fun i hi => ?_, fun i hi => ?_, fun i hi hi2 => ?_⟩
  · rw [e]
    split
    · omega
    · split
      · omega
      · exact F.lt i hi
  · rw [e i]
    by_cases c1 : 2 * k + 1 = i
    · rw [if_pos c1, e, if_neg (by omega), if_pos rfl]; exact c1
    · rw [if_neg c1]
      by_cases c2 : 2 * k = i
      · rw [if_pos c2, e, if_pos rfl]; exact c2
      · rw [if_neg c2]
        obtain ⟨n1, n2⟩ := low i hi (Ne.symm c2) (Ne.symm c1)
        rw [e, if_neg (Ne.symm n2), if_neg (Ne.symm n1)]
        exact F.inv i hi
  · rw [e, if_neg (by omega), if_neg (by omega)]
    exact F.tail i (by omega) hi2
/-- turned by a shift: (row[(s + d) % S] - d) % S -/
def shifted (S : Nat) (r : List Nat) (d : Nat) (s : Nat) : Nat := (((at0 r ((s + d) % S) : Int) - (d : Int)) % (S : Int)).toNat
theorem shifted_val {S d : Nat} (hS : 0 < S) (hd : d < S) {x : Nat} (hx : x < S) : (((x : Int) - (d : Int)) % (S : Int)).toNat = (x + (S - d)) % S := by
  have e : ((x : Int) - (d : Int)) % (S : Int) = (((x + (S - d) : Nat) : Int)) % (S : Int) := by
    have : (((x + (S - d) : Nat) : Int)) = ((x : Int) - (d : Int)) + (S : Int) := by omega
    rw [this, Int.add_emod_right]
  rw [e]
  omega
theorem shift_back {S d : Nat} (hd : d < S) {x : Nat} (hx : x < S) : ((x + (S - d)) % S + d) % S = x := by
  rw [Nat.mod_add_mod]
  have : x + (S - d) + d = x + S := by omega
  rw [this, Nat.add_mod_right, Nat.mod_eq_of_lt hx]
theorem back_shift {S d : Nat} (hd : d < S) {x : Nat} (hx : x < S) : ((x + d) % S + (S - d)) % S = x := by
  rw [Nat.mod_add_mod]
  have : x + d + (S - d) = x + S := by omega
  rw [this, Nat.add_mod_right, Nat.mod_eq_of_lt hx]
theorem shifted_lt {S d k : Nat} {r : List Nat} (F : Flip S k r) (hd : d < S) {s : Nat} (hs : s < S) : shifted S r d s < S := by
  unfold shifted
  have h1 := F.lt ((s + d) % S) (Nat.mod_lt _ (by omega))
  rw [shifted_val (by omega) hd h1]
  exact Nat.mod_lt _ (by omega)
theorem shifted_inv {S d k : Nat} {r : List Nat} (F : Flip S k r) (hd : d < S) {s : Nat} (hs : s < S) : shifted S r d (shifted S r d s) = s := by
  have h0 : (s + d) % S < S := Nat.mod_lt _ (by omega)
  have h1 := F.lt _ h0
  have e : shifted S r d s = (at0 r ((s + d) % S) + (S - d)) % S := by
    unfold shifted
    exact shifted_val (by omega) hd h1
  rw [e]
  unfold shifted
  rw [shift_back hd h1, F.inv _ h0, shifted_val (by omega) hd h0, back_shift hd hs]
/-- how each tie turns the sheets -/
structure Turns (B : Web) (S : Nat) (tau : Nat × Nat → List Nat) : Prop where
  len : ∀ h p, p < (pegs B h).length → (tau (h, p)).length = S
  lt : ∀ h p, p < (pegs B h).length → ∀ s, s < S → at0 (tau (h, p)) s < S
  back : ∀ h p, p < (pegs B h).length → ∀ s, s < S → at0 (tau (peg B (h, p))) (at0 (tau (h, p)) s) = s

/-! ### the web above -/
def nx (B : Web) (tau : Nat × Nat → List Nat) (x : Nat × Nat) (p : Nat) : Nat × Nat := ((peg B (x.1, p)).1, at0 (tau (x.1, p)) x.2)
/-- places that are there, in the order in which they are come to -/
structure There (B : Web) (S : Nat) (tau : Nat × Nat → List Nat) (L : List (Nat × Nat)) (k : Nat) : Prop where
  first : L[0]? = some (0, 0)
  nd : L.Nodup
  rng : ∀ x ∈ L, x.1 < B.length ∧ x.2 < S
  come : ∀ i, 0 < i → i < L.length → ∃ j, j < i ∧ ∃ y, L[j]? = some y ∧ ∃ p, p < (pegs B y.1).length ∧ L[i]? = some (nx B tau y p)
  closed : ∀ i x, i < k → L[i]? = some x → ∀ p, p < (pegs B x.1).length → nx B tau x p ∈ L
theorem There.start {B : Web} {S : Nat} {tau : Nat × Nat → List Nat} (h0 : 0 < B.length) (hS : 0 < S) : There B S tau [(0, 0)] 0 where
  first := rfl
  nd := by simp
  rng := fun x hx => by rw [List.mem_singleton.mp hx]; exact ⟨h0, hS⟩
  come := fun i h1 h2 => by simp at h2; omega
  closed := fun i x h => absurd h (Nat.not_lt_zero _)
theorem There.len {B : Web} {S : Nat} {tau : Nat × Nat → List Nat} {L : List (Nat × Nat)} {k : Nat} (T : There B S tau L k) : L.length ≤ B.length * S := by
  have h1 : (L.map fun x => x.1 * S + x.2).Nodup := by
    rw [List.Nodup, List.pairwise_map]
    refine List.Pairwise.imp_of_mem (fun {a b} ha hb hne e => hne ?_) T.nd
    obtain ⟨a1, a2⟩ := T.rng a ha
    obtain ⟨b1, b2⟩ := T.rng b hb
    have e1 : a.1 = b.1 := by
      have h1 : (a.1 * S + a.2) / S = a.1 := by rw [Nat.mul_comm, Nat.mul_add_div (by omega), Nat.div_eq_of_lt a2]; rfl
      have h2 : (b.1 * S + b.2) / S = b.1 := by rw [Nat.mul_comm, Nat.mul_add_div (by omega), Nat.div_eq_of_lt b2]; rfl
      rw [← h1, ← h2, e]
    rw [e1] at e
    exact Prod.ext e1 (by omega)
  have h2 := nodup_fit _ (List.range (B.length * S)) h1 fun z hz => by
    obtain ⟨x, hx, rfl⟩ := List.mem_map.mp hz
    obtain ⟨x1, x2⟩ := T.rng x hx
    refine List.mem_range.mpr ?_
    have : (x.1 + 1) * S ≤ B.length * S := Nat.mul_le_mul_right S x1
    rw [Nat.add_mul] at this
    omega
  simpa using h2
/-- one more place, come to from one that is there -/
theorem There.push {B : Web} {S : Nat} {tau : Nat × Nat → List Nat} {L : List (Nat × Nat)} {k : Nat} (T : There B S tau L k) (V : Valid B) (Tu : Turns B S tau) {j p : Nat} {y : Nat × Nat} (hj : L[j]? = some y) (hp : p < (pegs B y.1).length) (hn : nx B tau y p ∉ L) (hk : k ≤ L.length) :
    There B S tau (L ++ [nx B tau y p]) k where
  first := by
    have h := (List.getElem?_eq_some_iff.mp T.first).1
    rw [List.getElem?_append_left h]; exact T.first
  nd := List.nodup_append.mpr ⟨T.nd, by simp, fun a ha b hb e => by
    rw [List.mem_singleton.mp hb] at e
    exact hn (e ▸ ha)⟩
  rng := fun x hx => by
    rcases List.mem_append.mp hx with z | z
    · exact T.rng x z
    · rw [List.mem_singleton.mp z]
      exact ⟨(V.back y.1 p hp).1, Tu.lt y.1 p hp _ (T.rng y (List.mem_of_getElem? hj)).2⟩
  come := fun i h0 h1 => by
    rw [List.length_append, List.length_singleton] at h1
    rcases Nat.lt_or_ge i L.length with z | z
    · obtain ⟨j', hj', y', hy', p', hp', e⟩ := T.come i h0 z
      exact ⟨j', hj', y', by rw [List.getElem?_append_left (by omega)]; exact hy', p', hp', by rw [List.getElem?_append_left z]; exact e⟩
    · have hjl := (List.getElem?_eq_some_iff.mp hj).1
      have e : i = L.length := by omega
      subst e
      exact ⟨j, hjl, y, by rw [List.getElem?_append_left hjl]; exact hj, p, hp, by simp⟩
  closed := fun i x hi hx q hq => by
    rw [List.getElem?_append_left (by omega)] at hx
    exact List.mem_append_left _ (T.closed i x hi hx q hq)
theorem There.next {B : Web} {S : Nat} {tau : Nat × Nat → List Nat} {L : List (Nat × Nat)} {k : Nat} {y : Nat × Nat} (T : There B S tau L k) (hk : L[k]? = some y) (h : ∀ p, p < (pegs B y.1).length → nx B tau y p ∈ L) : There B S tau L (k + 1) :=
  ⟨T.first, T.nd, T.rng, T.come, fun i x hi hx p hp => by
    rcases Nat.lt_or_ge i k with z | z
    · exact T.closed i x z hx p hp
    · have e : i = k := by omega
      subst e
      rw [hk] at hx
      obtain rfl := Option.some.inj hx
      exact h p hp⟩
def cov (B : Web) (tau : Nat × Nat → List Nat) (L : List (Nat × Nat)) : Web :=
  webOf L.length (fun i => mk B (L.getD i (0, 0)).1) fun i => (List.range (pegs B (L.getD i (0, 0)).1).length).map fun p => (L.idxOf (nx B tau (L.getD i (0, 0)) p), (peg B ((L.getD i (0, 0)).1, p)).2)
theorem cov_len (B : Web) (tau : Nat × Nat → List Nat) (L : List (Nat × Nat)) : (cov B tau L).length = L.length := webOf_len ..
section
variable {B : Web} {S : Nat} {tau : Nat × Nat → List Nat} {L : List (Nat × Nat)}
theorem getD_at {i : Nat} (h : i < L.length) : L[i]? = some (L.getD i (0, 0)) := by
  rw [List.getD_eq_getElem?_getD, List.getElem?_eq_getElem h]
  rfl
theorem cov_plen {i : Nat} (h : i < L.length) : (pegs (cov B tau L) i).length = (pegs B (L.getD i (0, 0)).1).length := by
  unfold cov
  rw [webOf_pegs h]
  simp
theorem cov_peg {i p : Nat} (h : i < L.length) (hp : p < (pegs B (L.getD i (0, 0)).1).length) : peg (cov B tau L) (i, p) = (L.idxOf (nx B tau (L.getD i (0, 0)) p), (peg B ((L.getD i (0, 0)).1, p)).2) := by
  show (pegs (cov B tau L) i).getD p (0, 0) = _
  unfold cov
  rw [webOf_pegs h, List.getD_eq_getElem?_getD, List.getElem?_map, List.getElem?_range hp]
  rfl
theorem idx_of {x : Nat × Nat} (h : x ∈ L) : L.idxOf x < L.length ∧ L.getD (L.idxOf x) (0, 0) = x := by
  have hl := List.idxOf_lt_length_of_mem h
  refine ⟨hl, ?_⟩
  rw [List.getD_eq_getElem?_getD, List.getElem?_eq_getElem hl]
  exact List.getElem_idxOf hl
theorem idx_at (hn : L.Nodup) {i : Nat} {x : Nat × Nat} (h : L[i]? = some x) : L.idxOf x = i := by
  have hm := List.mem_of_getElem? h
  obtain ⟨hl, e⟩ := idx_of hm
  have e2 : L[L.idxOf x]? = some x := by rw [getD_at hl, e]
  exact (List.getElem?_inj hl hn).mp (e2.trans h.symm)
theorem cov_valid (V : Valid B) (Tu : Turns B S tau) (T : There B S tau L L.length) : Valid (cov B tau L) := by
  have hl0 : 0 < L.length := (List.getElem?_eq_some_iff.mp T.first).1
  have back : LeadBack (cov B tau L) := fun i p hp => by
    have hi : i < L.length := by rw [← cov_len B tau L]; exact lt_of_peg hp
    rw [cov_plen hi] at hp
    have hx := getD_at hi
    generalize L.getD i (0, 0) = x at hx hp
    have ex : L.getD i (0, 0) = x := by rw [List.getD_eq_getElem?_getD, hx]; rfl
    have hm := T.closed i x hi hx p hp
    obtain ⟨j1, j2⟩ := idx_of hm
    obtain ⟨b1, b2, b3⟩ := V.back x.1 p hp
    have hs := (T.rng x (List.mem_of_getElem? hx)).2
    have e1 : peg (cov B tau L) (i, p) = (L.idxOf (nx B tau x p), (peg B (x.1, p)).2) := by
      have := cov_peg (B := B) (tau := tau) hi (p := p) (by rw [ex]; exact hp)
      rw [ex] at this
      exact this
    rw [e1]
    refine ⟨by rw [cov_len]; exact j1, ?_, ?_⟩
    · show _ < (pegs (cov B tau L) (L.idxOf (nx B tau x p))).length
      rw [cov_plen j1, j2]
      exact b2
    · rw [cov_peg j1 (by rw [j2]; exact b2), j2]
      have e2 : peg B ((nx B tau x p).1, (peg B (x.1, p)).2) = (x.1, p) := b3
      have e3 : nx B tau (nx B tau x p) (peg B (x.1, p)).2 = x := by
        unfold nx at e2 ⊢
        simp only at e2 ⊢
        rw [e2]
        exact Prod.ext rfl (Tu.back x.1 p hp x.2 hs)
      rw [e2, e3, idx_at T.nd hx]
  have down : ∀ i, i < L.length → Reach (cov B tau L) 0 i := by
    intro i
    induction i using Nat.strongRecOn with
    | ind i ih =>
      intro hi
      rcases Nat.eq_zero_or_pos i with rfl | h0
      · exact .refl 0
      · obtain ⟨j, hj, y, hy, p, hp, e⟩ := T.come i h0 hi
        have hjl : j < L.length := by omega
        have ey : L.getD j (0, 0) = y := by rw [List.getD_eq_getElem?_getD, hy]; rfl
        refine (ih j hj hjl).trans (.step p (by rw [cov_plen hjl, ey]; exact hp) ?_)
        rw [cov_peg hjl (by rw [ey]; exact hp), ey]
        show Reach _ (L.idxOf (nx B tau y p)) i
        rw [idx_at T.nd e]
        exact .refl i
  refine ⟨by rw [cov_len]; exact hl0, back, fun a b ha hb => ?_⟩
  rw [cov_len] at ha hb
  exact ((down a ha).symm back).trans (down b hb)
theorem cov_plen_le {n : Nat} (hn : ∀ h, (pegs B h).length ≤ n) (i : Nat) : (pegs (cov B tau L) i).length ≤ n := by
  rcases Nat.lt_or_ge i L.length with z | z
  · rw [cov_plen z]; exact hn _
  · rw [pegs_out (by rw [cov_len]; exact z)]
    exact Nat.zero_le _
end
end Nl
end

section
set_option autoImplicit false
set_option linter.all false
namespace Nl
def inP (B : Web) (x : Nat × Nat) : Prop := x.2 < (pegs B x.1).length
/-- turnings found so far -/
structure Part (B : Web) (S : Nat) (tau : Nat × Nat → List Nat) (D : Nat × Nat → Prop) : Prop where
  len : ∀ x, inP B x → D x → (tau x).length = S
  lt : ∀ x, inP B x → D x → ∀ s, s < S → at0 (tau x) s < S
  back : ∀ x, inP B x → D x → ∀ s, s < S → at0 (tau (peg B x)) (at0 (tau x) s) = s
section
variable {B : Web} {S : Nat} {tau : Nat × Nat → List Nat} {D D' : Nat × Nat → Prop}
theorem Part.start : Part B S tau (fun _ => False) := ⟨fun _ _ h => h.elim, fun _ _ h => h.elim, fun _ _ h => h.elim⟩
theorem Part.sub (T : Part B S tau D) (h : ∀ x, inP B x → D' x → D x) : Part B S tau D' :=
  ⟨fun x a b => T.len x a (h x a b), fun x a b => T.lt x a (h x a b), fun x a b => T.back x a (h x a b)⟩
theorem Part.turns (T : Part B S tau D) (h : ∀ x, inP B x → D x) : Turns B S tau :=
  ⟨fun a p hp => T.len (a, p) hp (h _ hp), fun a p hp => T.lt (a, p) hp (h _ hp), fun a p hp => T.back (a, p) hp (h _ hp)⟩
def put1 (tau : Nat × Nat → List Nat) (x : Nat × Nat) (r : List Nat) : Nat × Nat → List Nat := fun z => if z = x then r else tau z
theorem put1_same {x : Nat × Nat} {r : List Nat} : put1 tau x r x = r := if_pos rfl
theorem put1_ne {x z : Nat × Nat} {r : List Nat} (h : z ≠ x) : put1 tau x r z = tau z := if_neg h
theorem LeadBack.pegIn (V : LeadBack B) {x : Nat × Nat} (h : inP B x) : inP B (peg B x) ∧ peg B (peg B x) = x := ⟨(V x.1 x.2 h).2.1, (V x.1 x.2 h).2.2⟩
theorem Part.self (V : LeadBack B) (T : Part B S tau D) {x : Nat × Nat} (hs : peg B x = x) {r : List Nat} (h1 : r.length = S) (h2 : ∀ s, s < S → at0 r s < S) (h3 : ∀ s, s < S → at0 r (at0 r s) = s) : Part B S (put1 tau x r) (fun z => D z ∨ z = x) where
  len := fun z a b => by
    by_cases e : z = x
    · rw [e, put1_same]; exact h1
    · rw [put1_ne e]; exact T.len z a (b.resolve_right e)
  lt := fun z a b => by
    by_cases e : z = x
    · rw [e, put1_same]; exact h2
    · rw [put1_ne e]; exact T.lt z a (b.resolve_right e)
  back := fun z a b => by
    by_cases e : z = x
    · rw [e, hs, put1_same]; exact h3
    · have e2 : peg B z ≠ x := fun q => e (by rw [← (V.pegIn a).2, q, hs])
      rw [put1_ne e, put1_ne e2]; exact T.back z a (b.resolve_right e)
theorem Part.two (V : LeadBack B) (T : Part B S tau D) {x y : Nat × Nat} (hx : inP B x) (hy : peg B x = y) (hne : y ≠ x) {r r' : List Nat} (h1 : r.length = S) (h2 : ∀ s, s < S → at0 r s < S) (h1' : r'.length = S) (h2' : ∀ s, s < S → at0 r' s < S)
    (h3 : ∀ s, s < S → at0 r' (at0 r s) = s) (h3' : ∀ s, s < S → at0 r (at0 r' s) = s) : Part B S (put1 (put1 tau x r) y r') (fun z => D z ∨ z = x ∨ z = y) := by
  have ex : put1 (put1 tau x r) y r' x = r := by rw [put1_ne hne.symm, put1_same]
  have ey : put1 (put1 tau x r) y r' y = r' := put1_same
  have en : ∀ z, z ≠ x → z ≠ y → put1 (put1 tau x r) y r' z = tau z := fun z a b => by rw [put1_ne b, put1_ne a]
  have hyx : peg B y = x := by rw [← hy]; exact (V.pegIn hx).2
  refine ⟨fun z a b => ?_, fun z a b => ?_, fun z a b => ?_⟩
  · by_cases e : z = x
    · rw [e, ex]; exact h1
    · by_cases e' : z = y
      · rw [e', ey]; exact h1'
      · rw [en z e e']; exact T.len z a (b.resolve_right fun q => q.elim e e')
  · by_cases e : z = x
    · rw [e, ex]; exact h2
    · by_cases e' : z = y
      · rw [e', ey]; exact h2'
      · rw [en z e e']; exact T.lt z a (b.resolve_right fun q => q.elim e e')
  · by_cases e : z = x
    · rw [e, hy, ex, ey]; exact h3
    · by_cases e' : z = y
      · rw [e', hyx, ex, ey]; exact h3'
      · have q1 : peg B z ≠ x := fun q => e' (by rw [← (V.pegIn a).2, q, hy])
        have q2 : peg B z ≠ y := fun q => e (by rw [← (V.pegIn a).2, q, hyx])
        rw [en z e e', en _ q1 q2]; exact T.back z a (b.resolve_right fun q => q.elim e e')
end
theorem at0_mapr {S s : Nat} {f : Nat → Nat} (h : s < S) : at0 ((List.range S).map f) s = f s := by
  unfold at0
  rw [List.getD_eq_getElem?_getD, List.getElem?_map, List.getElem?_range h]
  rfl
/-- seen so far -/
def vis (h p : Nat) (x : Nat × Nat) : Prop := x.1 < h ∨ x.1 = h ∧ x.2 < p
def Dn (B : Web) (h p : Nat) (x : Nat × Nat) : Prop := vis h p x ∨ vis h p (peg B x)
section
variable {B : Web} {h p : Nat}
theorem vis_next {x : Nat × Nat} (v : vis h (p + 1) x) : vis h p x ∨ x = (h, p) := by
  rcases v with v | ⟨v1, v2⟩
  · exact .inl (.inl v)
  · rcases Nat.lt_or_ge x.2 p with z | z
    · exact .inl (.inr ⟨v1, z⟩)
    · exact .inr (Prod.ext v1 (by simp only; omega))
theorem vis_over {x : Nat × Nat} (hx : inP B x) (v : vis (h + 1) 0 x) : vis h (pegs B h).length x := by
  rcases v with v | ⟨_, v2⟩
  · rcases Nat.lt_or_ge x.1 h with z | z
    · exact .inl z
    · have e : x.1 = h := by omega
      exact .inr ⟨e, by rw [← e]; exact hx⟩
  · omega
theorem Dn_next (V : LeadBack B) {x : Nat × Nat} (hx : inP B x) (d : Dn B h (p + 1) x) : Dn B h p x ∨ x = (h, p) ∨ x = peg B (h, p) := by
  rcases d with d | d
  · rcases vis_next d with d | d
    · exact .inl (.inl d)
    · exact .inr (.inl d)
  · rcases vis_next d with d | d
    · exact .inl (.inr d)
    · exact .inr (.inr (by rw [← d, (V.pegIn hx).2]))
theorem Dn_over (V : LeadBack B) {x : Nat × Nat} (hx : inP B x) (d : Dn B (h + 1) 0 x) : Dn B h (pegs B h).length x := by
  rcases d with d | d
  · exact .inl (vis_over hx d)
  · exact .inr (vis_over (V.pegIn hx).1 d)
theorem Dn_zero {x : Nat × Nat} (d : Dn B 0 0 x) : False := by
  rcases d with (d | ⟨_, d⟩) | (d | ⟨_, d⟩) <;> omega
theorem Dn_all {x : Nat × Nat} (hx : inP B x) : Dn B B.length 0 x := .inl (.inl (lt_of_peg hx))
end
end Nl
end

section
set_option Elab.async false
set_option linter.all false
set_option maxRecDepth 100000
/-! sets of keys that are tuples within tuples; sorted of such a set -/
namespace Nl
open PySem PySem.Spec PyProof.Rows L2

mutual
/-- numbers and tuples alone -/
def pureK : NestedKey → Bool
  | .none => true
  | .num _ => true
  | .text _ => false
  | .tup ks => pureKs ks
def pureKs : List NestedKey → Bool
  | [] => true
  | k :: ks => pureK k && pureKs ks
end
/-- the tuple at a is the key k -/
structure KeyAt (h : Heap) (k : NestedKey) (a : Addr) : Prop where
  is : NestedIs h k (.ref a)
  dep : k.depth ≤ 8
  pure_ : pureK k = true
theorem KeyAt.inj {h : Heap} {k k' : NestedKey} {a : Addr} (x : KeyAt h k a) (y : KeyAt h k' a) : k = k' := NestedIs.inj _ _ _ x.is y.is
theorem KeyAt.stay {h h' : Heap} {k : NestedKey} {a : Addr} (x : KeyAt h k a) (e : ∀ b o, h.get? b = some o → (∃ vs n, o.data = .seq vs n) → h'.get? b = some o) : KeyAt h' k a :=
  ⟨NestedIs.at (fun b o vs n hb hd => e b o hb ⟨vs, n, hd⟩) k _ x.is, x.dep, x.pure_⟩
theorem KeyAt.keep {h h' : Heap} {k : NestedKey} {a : Addr} (x : KeyAt h k a) (e : ∀ b o, h.get? b = some o → h'.get? b = some o) : KeyAt h' k a := x.stay fun b o hb _ => e b o hb
/-- a write to a set leaves it -/
theorem KeyAt.past {h h' : Heap} {k : NestedKey} {a b : Addr} {o : Obj} {es : Array (Int × Value)} {ep : Nat} {t : SetTable} (x : KeyAt h k b) (ho : h.get? a = some o) (hd : o.data = .set es ep t) (hs : Heap.SameBut a h h') : KeyAt h' k b :=
  x.stay fun c u hc ⟨vs, n, hv⟩ => (hs.2 c fun e => by
    subst e
    obtain rfl : o = u := Option.some.inj (ho.symm.trans hc)
    rw [hd] at hv
    exact nomatch hv).trans hc

section
variable {P : Program} {w : World} {A : Around} {E : Value → Shared → Prop} {s : Shared}
mutual
theorem ofA_key : ∀ (k : NestedKey) (v : Value) (n : Nat) (s : Shared) (Q : Bool → Shared → Prop), NestedIs s.heap k v → k.depth ≤ n → Q false s → wpAny (model P w) A (ofAClassStatement n v) Q E s
  | .none, _, n, s, Q, x, _, h => by cases x; cases n <;> exact wpAny_pure h
  | .num i, _, n, s, Q, x, _, h => by cases x <;> cases n <;> exact wpAny_pure h
  | .text y, _, n, s, Q, x, _, h => by cases x; cases n <;> exact wpAny_pure h
  | .tup ks, _, n, s, Q, x, hn, h => by
    cases x with
    | @tup a o vs m _ hg hc hd hk =>
      rw [NestedKey.depth] at hn
      cases n with
      | zero => omega
      | succ n =>
        unfold ofAClassStatement
        refine wpAny_bind (wpAny_typeOf (T := "tuple") ⟨o, hg, hc⟩ ?_)
        dsimp only
        have e : (("tuple" : String) == "tuple") = true := by decide
        simp only [e, if_true, Bool.not_true, Bool.false_eq_true, if_false]
        try refine wpAny_bind (wpAny_pure ?_)
        try simp only [Bool.not_true, Bool.false_eq_true, if_false]
        show wpAny _ _ (seqItems? (.ref a) >>= _) _ _ s
        refine wpAny_bind (wpAny_seqItems hg hd ?_)
        dsimp only
        refine wpAny_bind ?_
        show wpAny _ _ (forIn vs _ _) _ _ s
        rw [← Array.forIn_toList]
        refine wpAny_forIn_list _ (fun rest r s' => r.1 = none ∧ s' = s ∧ ∀ v ∈ rest, ∀ Q : Bool → Shared → Prop, Q false s → wpAny (model P w) A (ofAClassStatement n v) Q E s) _ ?_ ?_ _ _ ⟨rfl, rfl, ofA_keys ks vs.toList n s hk (by omega)⟩
        · rintro v rest r s' ⟨hr, rfl, hall⟩
          refine wpAny_bind (hall v List.mem_cons_self _ ?_)
          simp only [Bool.false_eq_true, if_false]
          exact wpAny_pure ⟨rfl, rfl, fun u hu' => hall u (List.mem_cons_of_mem _ hu')⟩
        · rintro ⟨r1, r2⟩ s' ⟨hr, rfl, _⟩
          simp only at hr
          subst hr
          exact wpAny_pure h
theorem ofA_keys : ∀ (ks : List NestedKey) (vs : List Value) (n : Nat) (s : Shared), NestedAll s.heap ks vs → NestedKey.depthAll ks ≤ n → ∀ v ∈ vs, ∀ Q : Bool → Shared → Prop, Q false s → wpAny (model P w) A (ofAClassStatement n v) Q E s
  | [], _, n, s, x, _, v, hv => by cases x; cases hv
  | k :: ks, _, n, s, x, hn, v, hv => by
    cases x with
    | cons x1 x2 =>
      rw [NestedKey.depthAll] at hn
      rcases List.mem_cons.mp hv with e | hv
      · intro Q h
        rw [e]; exact ofA_key k _ n s Q x1 (by omega) h
      · exact ofA_keys ks _ n s x2 (by omega) v hv
end
mutual
theorem hashBy_key : ∀ (k : NestedKey) (v : Value) (n : Nat) (s : Shared) (Q : Bool → Shared → Prop), NestedIs s.heap k v → k.depth ≤ n → pureK k = true → Q true s → wpAny (model P w) A (hashByValue n v) Q E s
  | .none, _, n, s, Q, x, _, _, h => by cases x; cases n <;> exact wpAny_pure h
  | .num i, _, n, s, Q, x, _, _, h => by cases x <;> cases n <;> exact wpAny_pure h
  | .text y, _, n, s, Q, x, _, hp, h => by simp [pureK] at hp
  | .tup ks, _, n, s, Q, x, hn, hp, h => by
    cases x with
    | @tup a o vs m _ hg hc hd hk =>
      rw [NestedKey.depth] at hn
      rw [pureK] at hp
      cases n with
      | zero => omega
      | succ n =>
        unfold hashByValue
        refine wpAny_bind (wpAny_specialOf (T := "tuple") ⟨o, hg, hc⟩ PySem.F.slot_tuple_hash.lookup ?_)
        show wpAny _ _ (seqItems? (.ref a) >>= _) _ _ s
        refine wpAny_bind (wpAny_seqItems hg hd ?_)
        refine wpAny_bind ?_
        show wpAny _ _ (forIn vs _ _) _ _ s
        rw [← Array.forIn_toList]
        refine wpAny_forIn_list _ (fun rest r s' => r.1 = none ∧ s' = s ∧ ∀ v ∈ rest, ∀ Q : Bool → Shared → Prop, Q true s → wpAny (model P w) A (hashByValue n v) Q E s) _ ?_ ?_ _ _ ⟨rfl, rfl, hashBy_keys ks vs.toList n s hk (by omega) hp⟩
        · rintro v rest r s' ⟨hr, rfl, hall⟩
          refine wpAny_bind (hall v List.mem_cons_self _ ?_)
          simp only [Bool.not_true, Bool.false_eq_true, if_false]
          exact wpAny_pure ⟨rfl, rfl, fun u hu' => hall u (List.mem_cons_of_mem _ hu')⟩
        · rintro ⟨r1, r2⟩ s' ⟨hr, rfl, _⟩
          simp only at hr
          subst hr
          exact wpAny_pure h
theorem hashBy_keys : ∀ (ks : List NestedKey) (vs : List Value) (n : Nat) (s : Shared), NestedAll s.heap ks vs → NestedKey.depthAll ks ≤ n → pureKs ks = true → ∀ v ∈ vs, ∀ Q : Bool → Shared → Prop, Q true s → wpAny (model P w) A (hashByValue n v) Q E s
  | [], _, n, s, x, _, _, v, hv => by cases x; cases hv
  | k :: ks, _, n, s, x, hn, hp, v, hv => by
    cases x with
    | cons x1 x2 =>
      rw [NestedKey.depthAll] at hn
      rw [pureKs, Bool.and_eq_true] at hp
      rcases List.mem_cons.mp hv with e | hv
      · intro Q h
        rw [e]; exact hashBy_key k _ n s Q x1 (by omega) hp.1 h
      · exact hashBy_keys ks _ n s x2 (by omega) hp.2 v hv
end
theorem KeyAt.quiet {k : NestedKey} {b : Addr} {Q : Bool → Shared → Prop} (x : KeyAt s.heap k b) (h : Q true s) : wpAny (model P w) A (eqIsQuiet 8 (.ref b)) Q E s := quiet_key k _ 8 s x.is x.dep A E Q h
theorem KeyAt.noClass {k : NestedKey} {b : Addr} {Q : Bool → Shared → Prop} (x : KeyAt s.heap k b) (h : Q false s) : wpAny (model P w) A (ofAClassStatement 8 (.ref b)) Q E s := ofA_key k _ 8 s Q x.is x.dep h
theorem KeyAt.byVal {k : NestedKey} {b : Addr} {Q : Bool → Shared → Prop} (x : KeyAt s.heap k b) (h : Q true s) : wpAny (model P w) A (hashByValue 8 (.ref b)) Q E s := hashBy_key k _ 8 s Q x.is x.dep x.pure_ h
theorem KeyAt.hashes {k : NestedKey} {b : Addr} {Q : Int → Shared → Prop} (x : KeyAt s.heap k b) (hu : A.units + 8 < cLine) (h : Q (k.hash w) { s with toks := s.toks + k.draws }) : wpAny (model P w) A (pyHash (.ref b)) Q E s :=
  pyHash_key k _ A s Q x.is (by have := x.dep; omega) h
theorem KeyAt.eqs {k k' : NestedKey} {b c : Addr} {Q : Bool → Shared → Prop} (x : KeyAt s.heap k b) (y : KeyAt s.heap k' c) (hu : A.units + 8 < cLine) (h : Q (decide (k = k')) s) : wpAny (model P w) A (eqBool (.ref b) (.ref c)) Q E s :=
  (nestedKind P w).eqBool (x := k) (y := k') hu ⟨x.is, x.dep⟩ ⟨y.is, y.dep⟩ h
/-- a search shows nothing -/
theorem unseen {k : NestedKey} {b : Addr} {Q : Bool → Shared → Prop} (hk : KeyAt s.heap k b) {ys : List Value} (hy : ∀ y ∈ ys, ∃ k' c, y = Value.ref c ∧ KeyAt s.heap k' c) (h : Q false s) :
    wpAny (model P w) A (searchCouldBeSeen (.ref b) ys) Q E s := by
  unfold searchCouldBeSeen
  refine wpAny_bind (wpAny_forIn_list _ (fun rest r s' => r.1 = none ∧ s' = s ∧ ∀ y ∈ rest, ∃ k' c, y = Value.ref c ∧ KeyAt s.heap k' c) _ ?_ ?_ _ _ ⟨rfl, rfl, hy⟩)
  · rintro v rest r s' ⟨hr, rfl, hall⟩
    obtain ⟨k', c, rfl, hc⟩ := hall v List.mem_cons_self
    have more : ∀ y ∈ rest, ∃ k' c, y = Value.ref c ∧ KeyAt s'.heap k' c := fun u hu' => hall u (List.mem_cons_of_mem _ hu')
    dsimp only
    by_cases hv : (b == c || (carriedByValue (.ref b) && carriedByValue (.ref c))) = true
    · exact wp_if_pos hv (wpAny_pure ⟨rfl, rfl, more⟩)
    · refine wp_if_neg hv (wpAny_bind (hk.quiet ?_))
      simp only [Bool.not_true, Bool.false_eq_true, if_false]
      refine wpAny_bind (hc.quiet ?_)
      simp only [Bool.not_true, Bool.false_eq_true, if_false]
      refine wpAny_bind (hk.noClass ?_)
      simp only [Bool.false_eq_true, if_false]
      refine wpAny_bind (hc.noClass ?_)
      simp only [Bool.false_eq_true, if_false]
      exact wpAny_pure ⟨rfl, rfl, more⟩
  · rintro ⟨r1, r2⟩ s' ⟨hr, rfl, _⟩
    simp only at hr
    subst hr
    exact wpAny_pure h

/-! ### the set -/
def kRows (w : World) (L : List (Addr × NestedKey)) : List (Int × Value) := L.map fun p => (p.2.hash w, Value.ref p.1)
theorem kRows_len (w : World) (L : List (Addr × NestedKey)) : (kRows w L).length = L.length := by simp [kRows]
structure KSet (w : World) (h : Heap) (a : Addr) (L : List (Addr × NestedKey)) (es : Array (Int × Value)) (ep : Nat) (t : SetTable) : Prop where
  ob : ∃ o, h.get? a = some o ∧ o.ExactSet ∧ o.data = .set es ep t
  rows : es.toList = kRows w L
  tab : TabOk t (L.map fun p => p.2.hash w)
  nd : (L.map (·.2)).Nodup
  keys : ∀ p ∈ L, KeyAt h p.2 p.1
  plain : t.plain = true
  led : w.params.followText "set-order" = true ∨ t.led = true
  room : L.length * 5 < t.mask * 3
  few : L.length < 64
variable {a : Addr} {L : List (Addr × NestedKey)} {es : Array (Int × Value)} {ep : Nat} {t : SetTable}
theorem KSet.size (R : KSet w s.heap a L es ep t) : es.size = L.length := by
  have h := congrArg List.length R.rows
  rwa [Array.length_toList, kRows_len] at h
theorem KSet.places (R : KSet w s.heap a L es ep t) : t.place.size = L.length := by
  have h := R.tab.sz
  rwa [List.length_map] at h
theorem KSet.fits (R : KSet w s.heap a L es ep t) : t.fits es.size = true := by
  have h1 := R.places
  have h2 := R.size
  have h3 := R.room
  unfold SetTable.fits SetTable.fill
  rw [R.tab.dm, Bool.and_eq_true, beq_iff_eq, decide_eq_true_eq]
  show t.place.size = es.size ∧ t.place.size + 0 ≤ t.mask
  omega
theorem KSet.entry (R : KSet w s.heap a L es ep t) {i : Nat} {p : Addr × NestedKey} (h : L[i]? = some p) : es[i]? = some (p.2.hash w, Value.ref p.1) := by
  rw [← Array.getElem?_toList, R.rows]
  simp [kRows, h]
theorem KSet.noGap (R : KSet w s.heap a L es ep t) : ¬ t.gaveWay = true := by
  unfold SetTable.gaveWay
  rw [mask_odd R.tab.mok]
  decide
theorem KSet.hash_at (R : KSet w s.heap a L es ep t) {i : Nat} {p : Addr × NestedKey} (h : L[i]? = some p) : (es[i]?.map (·.1)).getD 0 = p.2.hash w := by
  rw [R.entry h]; rfl
theorem nth_clear (m : Nat) : ∀ (n : Nat) (p : SetTable.Probe), p.dummy = none → (nth m p n).dummy = none
  | 0, _, h => h
  | n + 1, p, h => nth_clear m n (adv m p) (by unfold adv; split <;> exact h)
abbrev begins (m : Nat) (h : Int) : SetTable.Probe := runAt m (SetTable.bits h % (m + 1)) (SetTable.bits h)

/-- the search, from the c-th step of the key's way on; K the first empty place -/
theorem look_from (R : KSet w s.heap a L es ep t) {x : Addr} {k : NestedKey} (hx : KeyAt s.heap k x) (hu : A.units + 8 < cLine) {K : Nat} (hKf : K < 10 * SetTable.turns t.mask)
    (hK : way t.mask (k.hash w) K ∉ t.place.toList) (hKb : ∀ c, c < K → way t.mask (k.hash w) c ∈ t.place.toList) {Q : SetFound → Shared → Prop}
    (hin : k ∈ L.map (·.2) → Q (.there none) s) (hout : k ∉ L.map (·.2) → Q (.free (way t.mask (k.hash w) K) false) s) :
    ∀ (f c : Nat) (stand : Option SetTable.Probe), stand.getD (t.probeStart (k.hash w)) = nth t.mask (begins t.mask (k.hash w)) c → c ≤ K → K - c < f →
      (∀ (i : Nat) p, L[i]? = some p → p.2 = k → ∃ c', c ≤ c' ∧ c' < K ∧ t.place.toList[i]? = some (way t.mask (k.hash w) c')) →
      wpAny (model P w) A (setSearchFrom a (.ref x) (k.hash w) true f stand) Q E s
  | 0, c, stand, _, _, hf, _ => absurd hf (Nat.not_lt_zero _)
  | f + 1, c, stand, hst, hc, hf, hre => by
    obtain ⟨o, ho, hex, hd⟩ := R.ob
    have hpl := R.places
    rw [setSearchFrom_succ]
    refine wpAny_bind (wpAny_setState_of ho hd R.fits ?_)
    dsimp only
    refine wp_if_neg R.noGap ?_
    try refine wpAny_bind (wpAny_pure ?_)
    have sh : ∀ q, nth t.mask (nth t.mask (begins t.mask (k.hash w)) c) q = nth t.mask (begins t.mask (k.hash w)) (c + q) := fun q => (nth_add t.mask c _ q).symm
    have e1 : ∀ q, (nth t.mask (nth t.mask (begins t.mask (k.hash w)) c) q).j = way t.mask (k.hash w) (c + q) := fun q => congrArg SetTable.Probe.j (sh q)
    have eK : c + (K - c) = K := by omega
    rcases go_spec t R.tab.ris R.tab.dm (fun i => (es[i]?.map (·.1)).getD 0) (k.hash w) (10 * SetTable.turns t.mask) (K - c) _ (nth_clear t.mask c (begins t.mask (k.hash w)) rfl) (by omega)
      (fun q hq => by rw [e1]; exact hKb (c + q) (by omega)) (by rw [e1, eK]; exact hK) with ⟨q, i, hq, hi, hh, hno, hpr⟩ | ⟨hno, hpr⟩
    · have hpr' : t.probe (fun i => (es[i]?.map (·.1)).getD 0) (k.hash w) (stand.getD (t.probeStart (k.hash w))) = some (.candidate (way t.mask (k.hash w) (c + q)) i (nth t.mask (begins t.mask (k.hash w)) (c + (q + 1)))) := by
        rw [hst, ← e1, ← sh]
        exact hpr
      rw [hpr']
      dsimp only
      rw [e1] at hi
      have hil : i < L.length := by
        have h1 : i < t.place.toList.length := (List.getElem?_eq_some_iff.mp hi).1
        rw [Array.length_toList] at h1
        omega
      obtain ⟨p, hp⟩ : ∃ p, L[i]? = some p := ⟨L[i], List.getElem?_eq_getElem hil⟩
      have hmem : p ∈ L := List.mem_of_getElem? hp
      have hpt := R.keys p hmem
      have rest : wpAny (model P w) A (searchRest a (.ref x) (k.hash w) true f es t (way t.mask (k.hash w) (c + q)) i (nth t.mask (begins t.mask (k.hash w)) (c + (q + 1)))) Q E s := by
        unfold searchRest
        rw [R.entry hp]
        dsimp only
        refine wpAny_bind (wpAny_holding (hpt.eqs hx hu ?_))
        refine wpAny_bind (wpAny_setState_of ho hd R.fits ?_)
        dsimp only
        by_cases hkk : p.2 = k
        · exact wp_if_pos (by simp [hkk]) (wpAny_pure (hin (List.mem_map.mpr ⟨p, hmem, hkk⟩)))
        · refine wp_if_neg (by simp [hkk]) ?_
          try refine wpAny_bind (wpAny_pure ?_)
          rw [sameMem]
          dsimp only
          have hsl : t.slot (way t.mask (k.hash w) (c + q)) = .live i := slot_live R.tab.ris hi
          simp only [if_true, hsl, R.entry hp]
          refine wpAny_bind (wpAny_isSame_ref_self (wpAny_bind (wpAny_pure ?_)))
          simp only [if_true]
          refine wp_if_neg (by simp [hkk]) ?_
          refine look_from R hx hu hKf hK hKb hin hout f (c + (q + 1)) _ rfl (by omega) (by omega) fun i0 p0 h0 hk0 => ?_
          obtain ⟨c', a1, a2, a3⟩ := hre i0 p0 h0 hk0
          refine ⟨c', ?_, a2, a3⟩
          rcases Nat.lt_trichotomy c' (c + q) with z | z | z
          · exfalso
            refine hno (c' - c) i0 (by omega) (by rw [e1, show c + (c' - c) = c' by omega]; exact a3) ?_
            rw [← hk0]
            exact R.hash_at h0
          · exfalso
            rw [z] at a3
            have s0 := slot_live R.tab.ris a3
            rw [hsl] at s0
            injection s0 with s0
            rw [← s0, hp] at h0
            exact hkk ((congrArg Prod.snd (Option.some.inj h0)).trans hk0)
          · omega
      by_cases hl : t.led = true
      · refine wp_if_neg (by simp [hl]) ?_
        try refine wpAny_bind (wpAny_pure ?_)
        exact rest
      · refine wp_if_pos (by simp [hl]) ?_
        refine wpAny_bind (unseen hx (fun y hy => ?_) ?_)
        · obtain ⟨e, he, ee⟩ := List.mem_map.mp hy
          have he2 : e ∈ es.toList := by
            have z : e ∈ es ∧ e.1 = k.hash w := by simpa using he
            simpa using z.1
          rw [R.rows] at he2
          obtain ⟨p2, hp2, e2⟩ := List.mem_map.mp he2
          exact ⟨p2.2, p2.1, by rw [← ee, ← e2], R.keys p2 hp2⟩
        · refine wp_if_neg (by decide) ?_
          try refine wpAny_bind (wpAny_pure ?_)
          exact rest
    · have hpr' : t.probe (fun i => (es[i]?.map (·.1)).getD 0) (k.hash w) (stand.getD (t.probeStart (k.hash w))) = some (.empty (way t.mask (k.hash w) K) none) := by
        have e2 : way t.mask (k.hash w) K = (nth t.mask (nth t.mask (begins t.mask (k.hash w)) c) (K - c)).j := by rw [e1, eK]
        rw [hst, e2]
        exact hpr
      rw [hpr']
      dsimp only
      refine wpAny_pure (hout fun hm => ?_)
      obtain ⟨p0, h0, hk0⟩ := List.mem_map.mp hm
      obtain ⟨i0, h00⟩ := List.getElem?_of_mem h0
      obtain ⟨c', a1, a2, a3⟩ := hre i0 p0 h00 hk0
      refine hno (c' - c) i0 (by omega) (by rw [e1, show c + (c' - c) = c' by omega]; exact a3) ?_
      rw [← hk0]
      exact R.hash_at h00
theorem look_at (R : KSet w s.heap a L es ep t) {x : Addr} {k : NestedKey} (hx : KeyAt s.heap k x) (hu : A.units + 8 < cLine) {Q : SetFound → Shared → Prop}
    (hin : k ∈ L.map (·.2) → Q (.there none) s)
    (hout : ∀ K, k ∉ L.map (·.2) → way t.mask (k.hash w) K ∉ t.place.toList → (∀ c, c < K → way t.mask (k.hash w) c ∈ t.place.toList) → Q (.free (way t.mask (k.hash w) K) false) s) :
    wpAny (model P w) A (setSearch a (.ref x) (k.hash w) true) Q E s := by
  have hroom := R.room
  have hpl := R.places
  obtain ⟨K, hKf, hK, hKb⟩ := R.tab.first (by rw [List.length_map]; omega) (k.hash w)
  have hbig : K < 100000 := by
    have : 10 * SetTable.turns t.mask ≤ 1420 := by
      unfold SetTable.turns
      rcases R.tab.mok with e | e | e <;> omega
    omega
  unfold setSearch
  refine look_from R hx hu hKf hK hKb hin (fun hn => hout K hn hK hKb) 100000 0 none rfl (Nat.zero_le _) (by omega) fun i p hp hk => ?_
  have hi : (L.map fun p => p.2.hash w)[i]? = some (k.hash w) := by rw [List.getElem?_map, hp, ← hk]; rfl
  have hil : i < t.place.toList.length := by
    have h1 : i < L.length := (List.getElem?_eq_some_iff.mp hp).1
    rw [Array.length_toList]
    omega
  have hj := List.getElem?_eq_getElem hil
  obtain ⟨c, hc, e⟩ := R.tab.before hK hi hj
  exact ⟨c, Nat.zero_le _, hc, by rw [hj, e]⟩
end
end Nl
end

section
set_option Elab.async false
set_option linter.all false
set_option maxRecDepth 100000
namespace Nl
open PySem PySem.Spec PyProof.Rows L2
section
variable {P : Program} {w : World} {A : Around} {E : Value → Shared → Prop} {s : Shared}
theorem kRows_put (L : List (Addr × NestedKey)) (p : Nat) (x : Addr × NestedKey) : kRows w (L.take p ++ x :: L.drop p) = (kRows w L).take p ++ (x.2.hash w, Value.ref x.1) :: (kRows w L).drop p := by
  simp [kRows, List.map_take, List.map_drop]
theorem take_all {α : Type} (l : List α) : (List.range l.length).filterMap (fun i => l[i]?) = l := by
  have key : ∀ n, n ≤ l.length → (List.range n).filterMap (fun i => l[i]?) = l.take n := by
    intro n
    induction n with
    | zero => intro _; rfl
    | succ n ih =>
      intro hn
      rw [List.range_succ, List.filterMap_append, ih (Nat.le_of_lt hn), List.take_succ, List.getElem?_eq_getElem hn, List.filterMap_cons_some (List.getElem?_eq_getElem hn)]
      rfl
  rw [key _ (Nat.le_refl _), List.take_length]
/-- the entries in another order -/
theorem kRows_order (L : List (Addr × NestedKey)) (es : Array (Int × Value)) (order : Array Nat) (hr : es.toList = kRows w L) (hp : order.toList.Perm (List.range L.length)) :
    ∃ L2, (order.filterMap (es[·]?)).toList = kRows w L2 ∧ L2.Perm L ∧ (L2.map fun p => p.2.hash w) = order.toList.map fun i => (es.map (·.1)).getD i 0 := by
  have hsz : es.size = L.length := by
    have h := congrArg List.length hr
    rwa [Array.length_toList, kRows_len] at h
  have ent : ∀ i (h : i < L.length), es[i]? = some ((L[i]).2.hash w, Value.ref (L[i]).1) := fun i h => by
    rw [← Array.getElem?_toList, hr]
    simp [kRows, h]
  have key : ∀ l : List Nat, (∀ i ∈ l, i < L.length) → ∃ L2 : List (Addr × NestedKey), l.filterMap (fun i => es[i]?) = kRows w L2 ∧ L2 = l.filterMap (fun i => L[i]?) ∧ (L2.map fun p => p.2.hash w) = l.map fun i => (es.map (·.1)).getD i 0 := by
    intro l
    induction l with
    | nil => exact fun _ => ⟨[], rfl, rfl, rfl⟩
    | cons i l ih =>
      intro hl
      have hi := hl i List.mem_cons_self
      obtain ⟨L2, e1, e2, e3⟩ := ih fun j hj => hl j (List.mem_cons_of_mem _ hj)
      refine ⟨L[i] :: L2, ?_, ?_, ?_⟩
      · rw [List.filterMap_cons_some (ent i hi), e1]; rfl
      · rw [List.filterMap_cons_some (List.getElem?_eq_getElem hi), e2]
      · rw [List.map_cons, List.map_cons, e3]
        have e5 : (es.map (·.1))[i]? = some ((L[i]).2.hash w) := by rw [Array.getElem?_map, ent i hi]; rfl
        simp [Array.getD_eq_getD_getElem?, e5]
  obtain ⟨L2, e1, e2, e3⟩ := key order.toList fun i hi => List.mem_range.mp (hp.mem_iff.mp hi)
  refine ⟨L2, by first | (rw [Array.toList_filterMap]; exact e1) | simpa using e1, ?_, e3⟩
  have h1 : L2.Perm ((List.range L.length).filterMap fun i => L[i]?) := e2 ▸ hp.filterMap _
  rwa [take_all] at h1
variable {a : Addr} {L : List (Addr × NestedKey)} {es : Array (Int × Value)} {ep : Nat} {t : SetTable}
/-- laid anew, larger -/
theorem laid_anew {o : Obj} (ho : s.heap.get? a = some o) (hex : o.ExactSet) (hd : o.data = .set es ep t) (hrows : es.toList = kRows w L) (hsz : t.place.size = es.size) (hdm : t.dummies = #[]) (hfl : es.size ≤ t.mask)
    (nd : (L.map (·.2)).Nodup) (keys : ∀ p ∈ L, KeyAt s.heap p.2 p.1) (pl : t.plain = true) (ld : w.params.followText "set-order" = true ∨ t.led = true) (few : L.length < 64) {wanted M : Nat}
    (hw : SetTable.sizeAbove wanted - 1 = M) (hM : MaskOk M) (hw2 : SetTable.sizeAbove wanted ≤ 128) (hn : L.length * 5 < M * 3) {Q : Unit → Shared → Prop}
    (hQ : ∀ h' L' es' ep' t', Heap.SameBut a s.heap h' → KSet w h' a L' es' ep' t' → L'.Perm L → Q () { s with heap := h' }) : wpAny (model P w) A (setRelay a wanted) Q E s := by
  have hsl : es.size = L.length := by
    have h := congrArg List.length hrows
    rwa [Array.length_toList, kRows_len] at h
  have hfits : t.fits es.size = true := by
    unfold SetTable.fits SetTable.fill
    rw [hdm, Bool.and_eq_true, beq_iff_eq, decide_eq_true_eq]
    show t.place.size = es.size ∧ t.place.size + 0 ≤ t.mask
    omega
  obtain ⟨t', order, e, hp, T, em, el, ep', ed⟩ := relaid_ok t (hs := es.map (·.1)) (wanted := wanted) hw hM (by rw [Array.size_map, hsl]; omega)
  rw [Array.size_map, hsl] at hp
  obtain ⟨L2, r1, r2, r3⟩ := kRows_order L es order hrows hp
  rw [← r3] at T
  have hs2 : (order.filterMap (es[·]?)).size = es.size := by
    have h := congrArg List.length r1
    rw [Array.length_toList, kRows_len, r2.length_eq] at h
    rw [h, hsl]
  rw [setRelay_eq]
  refine wpAny_bind (wpAny_setState_of ho hd hfits ?_)
  dsimp only
  refine wp_if_neg (by rw [sizeLine_eq]; omega) ?_
  try refine wpAny_bind (wpAny_pure ?_)
  rw [e]
  dsimp only
  refine wpAny_bind ?_
  refine wp_if_neg (by rw [hs2]; simp) ?_
  try refine wpAny_bind (wpAny_pure ?_)
  refine wpAny_pure ?_
  dsimp only
  refine wpAny_storeSet_of ho hd ?_ (by rw [hs2, hsl, sizeLine_eq]; omega)
  have sb : Heap.SameBut a s.heap (s.heap.update a (Obj.putSet (order.filterMap (es[·]?)) t')) := Heap.SameBut.update ..
  refine hQ _ L2 _ (ep + 1) t' sb ⟨⟨_, store_at ho hd, ⟨hex.1, hex.2.1, hex.2.2⟩, rfl⟩, r1, T, (r2.map (·.2)).nodup_iff.mpr nd, fun p hpm => (keys p (r2.mem_iff.mp hpm)).past ho hd sb, by rw [ep']; exact pl, by rw [el]; exact ld, ?_, by rw [r2.length_eq]; exact few⟩ r2
  rw [r2.length_eq, em]
  exact hn

/-- one is added -/
theorem adds (R : KSet w s.heap a L es ep t) {x : Addr} {k : NestedKey} (hx : KeyAt s.heap k x) (hu : A.units + 8 < cLine) (hfew : L.length + 1 < 64) {Q : Bool → Shared → Prop}
    (hQ : ∀ b h' L' es' ep' t', Heap.SameBut a s.heap h' → KSet w h' a L' es' ep' t' → (k ∈ L.map (·.2) → L' = L) → (k ∉ L.map (·.2) → L'.Perm ((x, k) :: L)) → Q b { s with heap := h' }) :
    wpAny (model P w) A (setAddHashed a (.ref x) (k.hash w)) Q E s := by
  obtain ⟨o, ho, hex, hd⟩ := R.ob
  have hsl := R.size
  have hroom := R.room
  unfold setAddHashed
  refine wpAny_holding ?_
  rw [show (100000 : Nat) = 99999 + 1 from rfl, setAddHashedIn_succ]
  refine wpAny_bind (wpAny_setState_of ho hd R.fits ?_)
  dsimp only
  refine wp_if_neg (by simp [byScan, Value.scannable]) ?_
  try refine wpAny_bind (wpAny_pure ?_)
  refine wpAny_bind (look_at R hx hu (fun hm => ?_) fun K hm hK hb => ?_)
  · dsimp only
    exact wpAny_pure (hQ false s.heap L es ep t (Heap.SameBut.refl a s.heap) R (fun _ => rfl) fun z => absurd hm z)
  · dsimp only
    refine wpAny_bind (wpAny_setState_of ho hd R.fits ?_)
    dsimp only
    obtain ⟨q1, q2, q3, q4, q5, q6, q7, q8, q9⟩ := R.tab.put hK hb
    have hp1 : (t.put (way t.mask (k.hash w) K)).1.plain = true := by rw [q6]; exact R.plain
    generalize hpt : t.put (way t.mask (k.hash w) K) = pt at q1 q3 q4 q5 q6 q7 q8 q9 hp1 ⊢
    obtain ⟨t1, p⟩ := pt
    dsimp only at q1 q3 q4 q5 q6 q7 q8 q9 hp1 ⊢
    subst q1
    first
      | (refine wpAny_bind ?_; refine wp_if_pos hp1 ?_; refine hx.byVal ?_)
      | refine wp_if_pos hp1 (wpAny_bind (hx.byVal ?_))
    simp only [if_true]
    generalize hpp : SetTable.below t.place (way t.mask (k.hash w) K) = p at q2 q3 ⊢
    have hin : (SetTable.insertAt es p (k.hash w, Value.ref x)).toList = kRows w (L.take p ++ (x, k) :: L.drop p) := by
      rw [SetTable.toList_insertAt, kRows_put, R.rows]
    have pm := put_perm L p (x, k)
    have hlen : (L.take p ++ (x, k) :: L.drop p).length = L.length + 1 := pm.length_eq
    have hhs : (L.take p ++ (x, k) :: L.drop p).map (fun p => p.2.hash w) = (L.map fun p => p.2.hash w).take p ++ k.hash w :: (L.map fun p => p.2.hash w).drop p := by
      rw [List.map_append, List.map_cons, List.map_take, List.map_drop]
    rw [← hhs] at q3
    have nd1 : ((L.take p ++ (x, k) :: L.drop p).map (·.2)).Nodup :=
      (pm.map (·.2)).nodup_iff.mpr (by rw [List.map_cons]; exact List.nodup_cons.mpr ⟨hm, R.nd⟩)
    have hes : (SetTable.insertAt es p (k.hash w, Value.ref x)).size = L.length + 1 := by
      have h := congrArg List.length hin
      rwa [Array.length_toList, kRows_len, hlen] at h
    generalize SetTable.insertAt es p (k.hash w, Value.ref x) = es1 at hin hes ⊢
    generalize L.take p ++ (x, k) :: L.drop p = L1 at pm hlen q3 nd1 hin
    refine wpAny_bind (wpAny_storeSet_of ho hd ?_ (by rw [hes, sizeLine_eq]; omega))
    have sb : Heap.SameBut a s.heap (s.heap.update a (Obj.putSet es1 t1)) := Heap.SameBut.update ..
    have ho1 := store_at (es' := es1) (t' := t1) ho hd
    generalize s.heap.update a (Obj.putSet es1 t1) = h1 at sb ho1 ⊢
    have keys1 : ∀ p ∈ L1, KeyAt h1 p.2 p.1 := fun p hp => by
      rcases List.mem_cons.mp (pm.mem_iff.mp hp) with e | hp
      · rw [e]; exact hx.past ho hd sb
      · exact (R.keys p hp).past ho hd sb
    have ld1 : w.params.followText "set-order" = true ∨ t1.led = true := by rw [q5]; exact R.led
    have full_iff : t1.tooFull = true ↔ (L.length + 1) * 5 ≥ t1.mask * 3 := by
      unfold SetTable.tooFull
      rw [decide_eq_true_eq, q9, List.length_map]
    by_cases hf : t1.tooFull = true
    · first
        | (refine wpAny_bind ?_; refine wp_if_pos (by simp [hf]) ?_)
        | (refine wp_if_pos (by simp [hf]) ?_; refine wpAny_bind ?_)
      have hfull := full_iff.mp hf
      rw [hsl]
      have hsz1 : t1.place.size = es1.size := by
        have h := q3.sz
        rw [List.length_map, hlen] at h
        rw [h, hes]
      have twice : (t.mask = 7 ∧ L.length = 4) ∨ (t.mask = 31 ∧ L.length = 18) := by
        rcases R.tab.mok with e | e | e <;> rw [q4, e] at hfull <;> rw [e] at hroom
        · exact .inl ⟨e, by omega⟩
        · exact .inr ⟨e, by omega⟩
        · omega
      have go : ∀ M, SetTable.sizeAbove (SetTable.grown (L.length + 1)) - 1 = M → MaskOk M → SetTable.sizeAbove (SetTable.grown (L.length + 1)) ≤ 128 → (L.length + 1) * 5 < M * 3 →
          wpAny (model P w) A (setRelay a (SetTable.grown (L.length + 1))) (fun _ s' => wpAny (model P w) A (pure true) Q E s') E { s with heap := h1 } := fun M h1' h2' h3' h4' => by
        refine laid_anew (s := { s with heap := h1 }) ho1 ⟨hex.1, hex.2.1, hex.2.2⟩ rfl hin hsz1 q3.dm (by rw [hes, q4]; rcases twice with ⟨e, e2⟩ | ⟨e, e2⟩ <;> omega) nd1 keys1 hp1 ld1 (by rw [hlen]; exact hfew) h1' h2' h3' (by rw [hlen]; exact h4') ?_
        intro h2 L2 es2 ep2 t2 sb2 R2 pm2
        exact wpAny_pure (hQ true h2 L2 es2 ep2 t2 (sb.trans sb2) R2 (fun z => absurd z hm) fun _ => pm2.trans pm)
      rcases twice with ⟨_, e2⟩ | ⟨_, e2⟩
      · exact go 31 (by rw [e2, size_20]) (.inr (.inl rfl)) (by rw [e2, size_20]; decide) (by omega)
      · exact go 127 (by rw [e2, size_76]) (.inr (.inr rfl)) (by rw [e2, size_76]; decide) (by omega)
    · first
        | refine wp_if_neg (by simp [hf]) ?_
        | (refine wpAny_bind ?_; refine wp_if_neg (by simp [hf]) ?_; refine wpAny_pure ?_)
      refine wpAny_pure (hQ true h1 L1 es1 (ep + 1) t1 sb ⟨⟨_, ho1, ⟨hex.1, hex.2.1, hex.2.2⟩, rfl⟩, hin, q3, nd1, keys1, hp1, ld1, ?_, by rw [hlen]; exact hfew⟩ (fun z => absurd z hm) fun _ => pm)
      rw [full_iff] at hf
      rw [hlen]
      omega

/-! ### what the set has of the first i items -/
structure Has (ks : List (Addr × NestedKey)) (i : Nat) (L : List (Addr × NestedKey)) : Prop where
  sub : ∀ p ∈ L, p ∈ ks.take i
  all : ∀ p ∈ ks.take i, p.2 ∈ L.map (·.2)
  len : L.length ≤ i
theorem Has.zero (ks : List (Addr × NestedKey)) : Has ks 0 [] := ⟨fun p h => (by cases h), fun p h => (by simp at h), Nat.le_refl _⟩
theorem Has.next {ks L L' : List (Addr × NestedKey)} {i : Nat} {x : Addr × NestedKey} (g : Has ks i L) (h : ks[i]? = some x) (c1 : x.2 ∈ L.map (·.2) → L' = L) (c2 : x.2 ∉ L.map (·.2) → L'.Perm (x :: L)) : Has ks (i + 1) L' := by
  have et := take_next h
  by_cases hm : x.2 ∈ L.map (·.2)
  · rw [c1 hm]
    refine ⟨fun p hp => by rw [et]; exact List.mem_append_left _ (g.sub p hp), fun p hp => ?_, Nat.le_succ_of_le g.len⟩
    rw [et] at hp
    rcases List.mem_append.mp hp with z | z
    · exact g.all p z
    · rw [List.mem_singleton.mp z]; exact hm
  · have pm := c2 hm
    refine ⟨fun p hp => ?_, fun p hp => ?_, by rw [pm.length_eq, List.length_cons]; exact Nat.succ_le_succ g.len⟩
    · rw [et]
      rcases List.mem_cons.mp (pm.mem_iff.mp hp) with e | z
      · rw [e]; exact List.mem_append_right _ (List.mem_singleton.mpr rfl)
      · exact List.mem_append_left _ (g.sub p z)
    · rw [(pm.map (·.2)).mem_iff, List.map_cons]
      rw [et] at hp
      rcases List.mem_append.mp hp with z | z
      · exact List.mem_cons_of_mem _ (g.all p z)
      · rw [List.mem_singleton.mp z]; exact List.mem_cons_self
theorem KSet.keep {h h' : Heap} {a : Addr} {L : List (Addr × NestedKey)} {es : Array (Int × Value)} {ep : Nat} {t : SetTable} (R : KSet w h a L es ep t) (ha : ∀ o, h.get? a = some o → h'.get? a = some o) (ht : ∀ p ∈ L, KeyAt h' p.2 p.1) : KSet w h' a L es ep t := by
  obtain ⟨o, ho, r⟩ := R.ob
  exact ⟨⟨o, ha o ho, r⟩, R.rows, R.tab, R.nd, ht, R.plain, R.led, R.room, R.few⟩
/-- the empty set as it is made -/
abbrev bareSet (w : World) : Obj := { cls := .type "set", dict := none, data := .set #[] 0 (.fresh 0 0 (!w.params.followText "set-order")) }
theorem kset_fresh {h : Heap} {a : Addr} (ho : h.get? a = some (bareSet w)) : KSet w h a [] #[] 0 (.fresh 0 0 (!w.params.followText "set-order")) where
  ob := ⟨_, ho, ⟨rfl, rfl, rfl⟩, rfl⟩
  rows := rfl
  tab := ⟨List.Pairwise.nil, rfl, rfl, .inl rfl, fun x hx => (by cases hx), fun i h j hi => (by simp at hi)⟩
  nd := List.nodup_nil
  keys := fun p hp => (by cases hp)
  plain := rfl
  led := by
    show _ ∨ (!w.params.followText "set-order") = true
    cases w.params.followText "set-order"
    · exact .inr rfl
    · exact .inl rfl
  room := by
    show 0 * 5 < 7 * 3
    decide
  few := by
    show 0 < 64
    decide

/-- the loop of set.update -/
theorem fills {I : Addr} {fp wr : List Addr} {G : Array GenState → Array GenState → Prop} {n : Nat} {Pv : Nat → Value → Prop} {St : Nat → Shared → Prop} {R : Result → Shared → Prop}
    (W : WalksS P w A.in1 I fp wr G n Pv St) (S : Addr) (hSf : S ∉ fp) (ks : List (Addr × NestedKey)) (hn : n = ks.length) (hfew : ks.length < 64) (hval : ∀ i v, Pv i v → ∃ p, ks[i]? = some p ∧ v = .ref p.1)
    (h0 : Heap) (hk : ∀ p ∈ ks, KeyAt h0 p.2 p.1) (hS0 : h0.get? S = none) (hw0 : ∀ b ∈ wr, h0.get? b = none) (hu : A.in1.units + 8 < cLine) :
    ∀ (k i : Nat) (s : Shared), n - i = k → i ≤ n → St i s → (∀ b o, h0.get? b = some o → s.heap.get? b = some o) → (∃ L es ep t, KSet w s.heap S L es ep t ∧ Has ks i L) →
      (∀ s' L es ep t, Moved (S :: wr) G s s' → KSet w s'.heap S L es ep t → Has ks n L → (∀ b o, h0.get? b = some o → s'.heap.get? b = some o) → R (.ok (.ret .none)) s') →
      codeAny (model P w) A (.builtin "set.update.loop" ⟨[.ref S, .ref I], []⟩) R s := by
  have hSw : S ∉ wr := fun h => hSf (W.sub _ h)
  have hsub : ∀ b ∈ wr, b ∈ S :: wr := fun b hb => List.mem_cons_of_mem _ hb
  have keepM : ∀ {s s' : Shared}, Moved wr G s s' → (∀ b o, h0.get? b = some o → s.heap.get? b = some o) → ∀ b o, h0.get? b = some o → s'.heap.get? b = some o := fun hm hkp b o e =>
    hm.heap b o (fun hb => by rw [hw0 b hb] at e; cases e) (hkp b o e)
  intro k
  induction k with
  | zero =>
    intro i s hk' hi hst hkp ⟨L, es, ep, t, hS, g⟩ hR
    obtain rfl : i = n := by omega
    refine codeAny_builtin F.entry_set_update_loop ?_
    rw [Around.under_plainId F.plain_set_update_loop _]
    show wpAny _ A.in1 (pyNext (.ref I) >>= _) _ _ s
    refine wpAny_bind (W.done s _ _ hst fun s' hm => ?_)
    show wpAny _ A.in1 (ret Value.none) _ _ s'
    have hkp' := keepM hm hkp
    exact wpAny_pure (hR s' L es ep t (hm.mono hsub) (hS.keep (fun o e => hm.heap S o hSw e) fun p hp => (hk p (List.mem_of_mem_take (g.sub p hp))).keep hkp') g hkp')
  | succ k ih =>
    intro i s hk' hi hst hkp ⟨L, es, ep, t, hS, g⟩ hR
    have hlt : i < n := by omega
    refine codeAny_builtin F.entry_set_update_loop ?_
    rw [Around.under_plainId F.plain_set_update_loop _]
    show wpAny _ A.in1 (pyNext (.ref I) >>= _) _ _ s
    refine wpAny_bind (W.item i s _ _ hlt hst fun v s' hP hst' hm => ?_)
    obtain ⟨p, hp, rfl⟩ := hval i v hP
    have hkp' := keepM hm hkp
    have hS' : KSet w s'.heap S L es ep t := hS.keep (fun o e => hm.heap S o hSw e) fun q hq => (hk q (List.mem_of_mem_take (g.sub q hq))).keep hkp'
    have hx : KeyAt s'.heap p.2 p.1 := (hk p (List.mem_of_getElem? hp)).keep hkp'
    show wpAny _ A.in1 (holding [Value.ref p.1] (setAdd S (.ref p.1)) >>= _) _ _ s'
    refine wpAny_bind (wpAny_holding ?_)
    unfold setAdd
    refine wpAny_holding ?_
    refine wpAny_bind (hx.hashes hu ?_)
    refine adds (s := { s' with toks := s'.toks + p.2.draws }) hS' hx hu (by have := g.len; omega) fun b h' L' es' ep' t' hsb hS2 c1 c2 => ?_
    have hkp2 : ∀ b o, h0.get? b = some o → h'.get? b = some o := fun b o e => (hsb.2 b (fun z => by rw [z, hS0] at e; cases e)).trans (hkp' b o e)
    refine wpAny_pure ⟨plainId_quiet F.plain_set_update_loop _, ih (i + 1) _ (by omega) hlt (W.frame _ s' _ _ hst' (Nat.le_add_right _ _) fun b hb o e => ?_) hkp2 ⟨L', es', ep', t', hS2, g.next hp c1 c2⟩ fun s'' L2 es2 ep2 t2 hm'' hS'' g'' hkp'' => ?_⟩
    · rw [hsb.2 b (fun h : b = S => hSf (by rw [← h]; exact hb))]; exact e
    · refine hR s'' L2 es2 ep2 t2 (Moved.trans W.gtrans ((hm.mono hsub).then_heap (Nat.le_add_right _ _) fun b o hb e => ?_) hm'') hS'' g'' hkp''
      rw [hsb.2 b (fun h : b = S => hb (by rw [h]; exact List.mem_cons_self))]; exact e
end
end Nl
end

section
set_option Elab.async false
set_option linter.all false
set_option maxRecDepth 100000
namespace Nl
open PySem PySem.Spec PyProof.Rows L2
section
variable {P : Program} {w : World} {A : Around} {E : Value → Shared → Prop} {s : Shared}
set_option maxRecDepth 100000 in
set_option maxHeartbeats 3200000 in
/-- set(xs), xs a list of keys -/
theorem makes_set {l : Addr} {items : Array Value} (ks : List (Addr × NestedKey)) {Q : Value → Shared → Prop} (hh : A.handled = none) (hl : s.heap.IsList l items) (hit : items.toList = ks.map fun p => Value.ref p.1)
    (hk : ∀ p ∈ ks, KeyAt s.heap p.2 p.1) (hfew : ks.length < 64) (hu : A.units + 64 < cLine)
    (h : ∀ (h' : Heap) (tk : Nat) L es ep t, KSet w h' s.heap.objs.size L es ep t → Has ks ks.length L → (∀ b o, s.heap.get? b = some o → h'.get? b = some o) → Q (.ref s.heap.objs.size) { s with heap := h', toks := tk }) :
    wpAny (model P w) A (call (.type "set") [.ref l]) Q E s := by
  have hisz : items.size = ks.length := by
    have q := congrArg List.length hit
    rwa [Array.length_toList, List.length_map] at q
  obtain ⟨c, tl, hmro⟩ := F.called_set.mro
  have hmade := F.called_set.made
  have hsub := F.called_set.sub
  refine wpAny_call (codeAny_of_tree ?_)
  show wpAny _ _ (callAny (.type "set") _) _ _ _
  refine wpAny_pure ⟨Code.quiet_builtin _ (by decide +kernel), codeAny_builtin F.entry_type_call ?_⟩
  rw [Around.under_plain (weight_type_call_type "set" [.ref l] []) rfl]
  have h1 := F.called_set.notType
  have h2 := F.called_set.canCreate
  have hct := F.typeCall_set_1 (.ref l)
  repeat (any_goals (first | assumption | wp_step))

  refine codeAny_mono (code_set_led1 (.ref l) (E := E) (Q₁ := fun obj s₁ => obj = .ref s.heap.objs.size ∧ s₁ = { s with heap := s.heap.push (bareSet w) }) ⟨rfl, rfl⟩) fun r s₁ hr => ?_
  cases r with
  | error e => exact hr
  | ok fl =>
    cases fl with
    | ret obj =>
      obtain ⟨rfl, rfl⟩ := hr
      have hS : (s.heap.push (bareSet w)).get? s.heap.objs.size = some (bareSet w) := Heap.get?_push_size _ rfl
      have hT : Shared.TypeIs { s with heap := s.heap.push (bareSet w) } (.ref s.heap.objs.size) "set" := ⟨_, hS, rfl⟩
      have hli := F.called_set.init.lookup
      have hbi := F.called_set.init.bind (.ref s.heap.objs.size)
      repeat (any_goals (first | assumption | wp_step))

      refine codeAny_mono (codeAny_call_builtin (R := wants (fun r s₂ => r = .none ∧ ∃ h' tk L es ep t, s₂ = { s with heap := h', toks := tk } ∧ KSet w h' s.heap.objs.size L es ep t ∧ Has ks ks.length L ∧
          (∀ b o, s.heap.get? b = some o → h'.get? b = some o)) E) F.called_set.init.plain F.entry_set_init (check_set_init_1 hT ?_)) fun r₂ s₂ hr₂ => ?_
      · obtain ⟨⟨ocls, odict, odata, oslots⟩, hol, hcl, nl, hdl⟩ := hl
        simp only at hcl hdl
        subst hcl; subst hdl
        have hol' : (s.heap.push (bareSet w)).get? l = some { cls := .type "list", dict := odict, data := .seq items nl, slots := oslots } := Heap.get?_push_of_some _ hol
        have hsls := F.sub_list_set
        have hslf := F.sub_list_frozenset
        have hne : (Value.type "list" == Value.type "dict") = false := by decide
        have hl1 : (s.heap.push (bareSet w)).IsList l items := ⟨_, hol', rfl, nl, rfl⟩
        unfold Builtin.«set.__init__» noKeywords Builtin.Frozenset.updateFrom
        generalize hPI : pyIter = PI
        wp_walk
        subst hPI

        refine wpAny_pyIter_list hl1 ?_
        refine wpAny_bind (wpAny_runValue ?_)
        have hlS : l < s.heap.objs.size := Heap.lt_size hol
        have hz : (s.heap.push (bareSet w)).objs.size = s.heap.objs.size + 1 := Heap.size_push ..
        have hh3 : A.in1.in1.in1.handled = none := by simp [hh]
        have hneI : l ≠ (s.heap.push (bareSet w)).objs.size := by rw [hz]; exact Nat.ne_of_lt (Nat.lt_succ_of_lt hlS)
        have hSf : s.heap.objs.size ∉ [(s.heap.push (bareSet w)).objs.size, l] := by
          rw [hz]; simp only [List.mem_cons, List.mem_singleton, List.not_mem_nil, or_false, not_or]
          exact ⟨Nat.ne_of_lt (Nat.lt_succ_self _), Nat.ne_of_gt hlS⟩
        have hval : ∀ (i : Nat) (v : Value), items[i]? = some v → ∃ p, ks[i]? = some p ∧ v = .ref p.1 := fun i v hv => by
          have q : items.toList[i]? = some v := by rw [Array.getElem?_toList]; exact hv
          rw [hit, List.getElem?_map, Option.map_eq_some_iff] at q
          obtain ⟨p, h1, h2⟩ := q
          exact ⟨p, h1, h2.symm⟩
        have none_of : ∀ b, s.heap.objs.size ≤ b → s.heap.get? b = none := fun b hb => by
          cases q : s.heap.get? b with
          | none => rfl
          | some o => exact absurd (Nat.lt_of_lt_of_le (Heap.lt_size q) hb) (Nat.lt_irrefl _)
        refine fills ((Walks.list hh3 _ l hneI items).toS) s.heap.objs.size
          hSf ks hisz hfew hval s.heap hk (none_of _ (Nat.le_refl _)) (fun b hb => none_of b (by
            rw [List.mem_singleton.mp hb, hz]
            exact Nat.le_succ _)) (by simp only [Around.in1_units]; omega) (items.size - 0) 0 _ (by omega) (Nat.zero_le _)
          ⟨⟨_, Heap.get?_push_size _ rfl, rfl, rfl⟩, (hl1.push _)⟩ (fun b o e => Heap.get?_push_of_some _ (Heap.get?_push_of_some _ e)) ?hS0 ?hR
        case hS0 =>
          have hget : ((s.heap.push (bareSet w)).push { cls := .type "list_iterator", data := .fields #[.ref l, .int 0 0] }).get? s.heap.objs.size = some (bareSet w) := Heap.get?_push_of_some _ hS
          exact ⟨[], #[], 0, _, kset_fresh hget, Has.zero ks⟩
        case hR =>
          intro s' L es ep t hm hS' g' hkp
          obtain ⟨h', g2, d', tk', os'⟩ := s'
          have eg : g2 = s.gens := hm.gens
          have ed : d' = s.drawn := hm.drawn
          have eo : os' = s.os := hm.os
          subst eg; subst ed; subst eo
          show wpAny _ _ _ _ _ _
          refine wpAny_pure ?_
          show wpAny _ _ (ret Value.none) _ _ _
          rw [hisz] at g'
          exact wpAny_pure ⟨rfl, h', tk', L, es, ep, t, rfl, hS', g', hkp⟩

      · cases r₂ with
        | error e => exact hr₂
        | ok fl₂ =>
          cases fl₂ with
          | ret r =>
            obtain ⟨rfl, h', tk, L, es, ep, t, rfl, hS', g', hk'⟩ := hr₂
            repeat (any_goals (first | assumption | wp_step))
            exact h _ _ _ _ _ _ hS' g' hk'
          | _ => exact hr₂.elim
    | _ => exact hr.elim

/-! ### sorted of it -/
theorem each_refs {L : List (Addr × NestedKey)} {R : Value → Addr × NestedKey → Prop} (h : ∀ q ∈ L, R (.ref q.1) q) : PySem.W.EachIs R (L.map fun q => Value.ref q.1) L := by
  induction L with
  | nil => exact .nil
  | cons q L ih => exact .cons (h q List.mem_cons_self) (ih fun r hr => h r (List.mem_cons_of_mem _ hr))
theorem refs_each : ∀ {out : List Value} {L : List (Addr × NestedKey)}, PySem.W.EachIs (fun v (q : Addr × NestedKey) => v = Value.ref q.1) out L → out = L.map fun q => Value.ref q.1
  | _, _, .nil => rfl
  | _, _, .cons h t => by rw [h, refs_each t]; rfl
abbrev keyLe : Addr × NestedKey → Addr × NestedKey → Bool := PySem.W.dataLe false fun q => q.2.data
theorem sorts_set {a : Addr} {L : List (Addr × NestedKey)} {es : Array (Int × Value)} {ep : Nat} {t : SetTable} {Q : Value → Shared → Prop} (R : KSet w s.heap a L es ep t) (hh : A.handled = none) (hu : A.units + 64 < cLine)
    (hrd : ∀ q ∈ L, Reads s.heap (.ref q.1) q.2.data []) (hal : ∀ q ∈ L, ∀ r ∈ L, PySem.W.alike q.2.data r.2.data = true) (htp : ∀ q ∈ L, ∃ x r, q.2.data = .tuple (x :: r)) (hdep : ∀ q ∈ L, q.2.data.depth ≤ 8)
    (hQ : ∀ s' p (c : Nat) (L1 : List (Addr × NestedKey)), (∀ b o, s.heap.get? b = some o → s'.heap.get? b = some o) → s'.gens = s.gens → s'.os = s.os → s.heap.objs.size ≤ p → L1.Perm L →
      s'.heap.get? p = some (seqObj "list" ((L1.mergeSort keyLe).map fun q => Value.ref q.1).toArray c) → Q (.ref p) s') :
    wpAny (model P w) A (call (.builtin "sorted") [.ref a]) Q E s := by
  obtain ⟨o, ho, hex, hd⟩ := R.ob
  have hsz := R.size
  have hfew := R.few
  refine Calls.call_function_entry kind_sorted plain_sorted entry_sorted (args_sorted1 _) ?_
  unfold Builtin.«sorted»
  refine wpAny_bind (m := checkCount "sorted" 1 1 _) (wpAny_pure ?_)
  refine wpAny_bind (collect_set (A := A.in1) hh ⟨o, ho, hex.1, hd⟩ R.fits (by unfold scanBound; omega) R.tab.ris R.led fun s1 vs k1 hz g1 o1 pm => ?_)
  have hes : es.toList.map (·.2) = L.map fun q => Value.ref q.1 := by
    rw [R.rows]; simp [kRows]
  rw [hes] at pm
  obtain ⟨L1, pL, rfl⟩ : ∃ L1 : List (Addr × NestedKey), L1.Perm L ∧ vs = L1.map fun q => Value.ref q.1 := by
    have one : ∀ q ∈ L, ∀ r ∈ L, q.1 = r.1 → q = r := fun q hq r hr e => by
      have a1 := R.keys q hq
      rw [e] at a1
      exact Prod.ext e (a1.inj (R.keys r hr))
    have ord : ∀ vs : List Value, (∀ v ∈ vs, ∃ q ∈ L, v = Value.ref q.1) → ∃ L1 : List (Addr × NestedKey), vs = L1.map (fun q => Value.ref q.1) ∧ ∀ q ∈ L1, q ∈ L := by
      intro vs
      induction vs with
      | nil => exact fun _ => ⟨[], rfl, fun q hq => (by cases hq)⟩
      | cons v vs ih =>
        intro hv
        obtain ⟨q, hq, e⟩ := hv v List.mem_cons_self
        obtain ⟨L1, e1, hs⟩ := ih fun u hu => hv u (List.mem_cons_of_mem _ hu)
        refine ⟨q :: L1, by rw [List.map_cons, e, e1], fun r hr => ?_⟩
        rcases List.mem_cons.mp hr with z | z
        · rw [z]; exact hq
        · exact hs r z
    obtain ⟨L1, e1, hs⟩ := ord vs fun v hv => by
      obtain ⟨q, hq, e⟩ := List.mem_map.mp (pm.mem_iff.mp hv)
      exact ⟨q, hq, e.symm⟩
    subst e1
    refine ⟨L1, ?_, rfl⟩
    have nL : L.Nodup := nodup_of_map R.nd
    have nref : (L.map fun q => Value.ref q.1).Nodup := by
      refine List.pairwise_map.mpr (List.Pairwise.imp_of_mem (fun {q r} hq hr hne e => ?_) nL)
      injection e with e
      exact hne (one q hq r hr e)
    refine (List.perm_ext_iff_of_nodup (nodup_of_map (pm.nodup_iff.mpr nref)) nL).mpr fun q => ⟨hs q, fun hq => ?_⟩
    obtain ⟨r, hr, e⟩ := List.mem_map.mp (pm.mem_iff.mpr (List.mem_map.mpr ⟨q, hq, rfl⟩))
    injection e with e
    rw [← one r (hs r hr) q hq e]
    exact hr
  have hl1 : L1.length < 64 := by rw [pL.length_eq]; exact hfew
  refine wpAny_bind (wpAny_newList ?_ (by rw [List.length_map, sizeLine_eq]; omega))
  have hoL : (s1.heap.push (seqObj "list" (L1.map fun q => Value.ref q.1).toArray 0)).get? s1.heap.objs.size = some (seqObj "list" (L1.map fun q => Value.ref q.1).toArray 0) := Heap.get?_push_size _ rfl
  have rd : ∀ q ∈ L1, Reads (s1.heap.push (seqObj "list" (L1.map fun q => Value.ref q.1).toArray 0)) (.ref q.1) q.2.data [] := fun q hq =>
    PyProof.Rows.Reads.keeps (fun b u e => Heap.get?_push_of_some _ (k1 b u e)) (hrd q (pL.mem_iff.mp hq))
  refine wpAny_bind (wpAny_holding (PySem.W.list_sort_data (s := { s1 with heap := s1.heap.push (seqObj "list" (L1.map fun q => Value.ref q.1).toArray 0) }) (bs := L1) (enc := fun q => q.2.data) (R := fun v q => v = Value.ref q.1) hoL
    (each_refs fun q _ => rfl) (each_refs fun q hq => ⟨[], rd q hq, List.not_mem_nil⟩) (fun d hd d' hd' => ?_) (.inl fun d hd => ?_) (by rw [sizeLine_eq]; omega) (fun q hq => ?_) fun out hlen eo => ?_))
  · obtain ⟨q, hq, rfl⟩ := List.mem_map.mp hd
    obtain ⟨r, hr, rfl⟩ := List.mem_map.mp hd'
    exact hal q (pL.mem_iff.mp hq) r (pL.mem_iff.mp hr)
  · obtain ⟨q, hq, rfl⟩ := List.mem_map.mp hd
    exact htp q (pL.mem_iff.mp hq)
  · have := hdep q (pL.mem_iff.mp hq)
    simp only [Around.in1_units]
    omega
  · rw [refs_each eo]
    obtain ⟨c, hc⟩ := sortedHeap_at (vs := L1.map fun q => Value.ref q.1) (out := ((L1.mergeSort keyLe).map fun q => Value.ref q.1).toArray) hoL
    refine wpAny_pure ⟨_, rfl, hQ _ s1.heap.objs.size c L1 (fun b u e => ?_) g1 o1 hz pL hc⟩
    have q := k1 b u e
    have hlt := Heap.lt_size q
    show (sortedHeap (s1.heap.push _) s1.heap.objs.size _ _).get? b = some u
    rw [sortedHeap_old (Nat.ne_of_lt hlt) (by rw [size_push']; exact Nat.lt_succ_of_lt hlt)]
    exact Heap.get?_push_of_some _ q
end
end Nl
end

section
set_option Elab.async false
set_option linter.all false
set_option maxRecDepth 100000
namespace Nl
open PySem PySem.Spec PyProof.Rows L2
/-! ### data of tuples and whole numbers in the abstract heap -/
mutual
inductive KD (H : Hp) : NestedKey → V → Prop
  | non : KD H .none .non
  | num (i : Int) : KD H (.num i) (.int i)
  | tup {a : Addr} {xs : List V} {ks : List NestedKey} : Rd H a (.tup xs) → KDs H ks xs → KD H (.tup ks) (.ref a)
inductive KDs (H : Hp) : List NestedKey → List V → Prop
  | nil : KDs H [] []
  | cons {k : NestedKey} {v : V} {ks : List NestedKey} {vs : List V} : KD H k v → KDs H ks vs → KDs H (k :: ks) (v :: vs)
end
/-- the tuples stand -/
def Tups (H H' : Hp) : Prop := ∀ b xs, Rd H b (.tup xs) → Rd H' b (.tup xs)
theorem Tups.refl (H : Hp) : Tups H H := fun _ _ h => h
theorem Tups.trans {H H1 H2 : Hp} (a : Tups H H1) (b : Tups H1 H2) : Tups H H2 := fun c xs h => b c xs (a c xs h)
theorem rd_same {H H' : Hp} (h : Same H H') {b : Addr} {u : HO} (r : Rd H b u) : Rd H' b u := r.elim (fun e => .inl (h b _ e)) fun ⟨o, e⟩ => .inr ⟨o, h b _ e⟩
theorem tups_same {H H' : Hp} (h : Same H H') : Tups H H' := fun b xs e => rd_same h e
mutual
theorem KD.tups {H H' : Hp} (t : Tups H H') : ∀ {k : NestedKey} {v : V}, KD H k v → KD H' k v
  | _, _, .non => .non
  | _, _, .num i => .num i
  | _, _, .tup h1 h2 => .tup (t _ _ h1) (KDs.tups t h2)
theorem KDs.tups {H H' : Hp} (t : Tups H H') : ∀ {k : List NestedKey} {v : List V}, KDs H k v → KDs H' k v
  | _, _, .nil => .nil
  | _, _, .cons h1 h2 => .cons (KD.tups t h1) (KDs.tups t h2)
end
theorem KDs.length {H : Hp} : ∀ {ks : List NestedKey} {vs : List V}, KDs H ks vs → vs.length = ks.length
  | _, _, .nil => rfl
  | _, _, .cons _ h => congrArg (· + 1) (KDs.length h)
theorem KDs.get {H : Hp} : ∀ {ks : List NestedKey} {vs : List V} {i : Nat} {k : NestedKey}, KDs H ks vs → ks[i]? = some k → ∃ v, vs[i]? = some v ∧ KD H k v
  | _, _, i, k, .nil, e => by simp at e
  | _, _, 0, k, .cons h _, e => by
    obtain rfl := Option.some.inj e
    exact ⟨_, rfl, h⟩
  | _, _, i + 1, k, .cons _ h, e => by
    obtain ⟨v, h1, h2⟩ := KDs.get (i := i) h e
    exact ⟨v, h1, h2⟩
theorem KDs.get' {H : Hp} : ∀ {ks : List NestedKey} {vs : List V} {i : Nat} {v : V}, KDs H ks vs → vs[i]? = some v → ∃ k, ks[i]? = some k ∧ KD H k v
  | _, _, i, k, .nil, e => by simp at e
  | _, _, 0, k, .cons h _, e => by
    obtain rfl := Option.some.inj e
    exact ⟨_, rfl, h⟩
  | _, _, i + 1, k, .cons _ h, e => by
    obtain ⟨v, h1, h2⟩ := KDs.get' (i := i) h e
    exact ⟨v, h1, h2⟩
theorem KDs.app {H : Hp} : ∀ {ks ks' : List NestedKey} {vs vs' : List V}, KDs H ks vs → KDs H ks' vs' → KDs H (ks ++ ks') (vs ++ vs')
  | _, _, _, _, .nil, h => h
  | _, _, _, _, .cons a b, h => .cons a (KDs.app b h)
theorem KDs.snoc {H : Hp} {ks : List NestedKey} {vs : List V} {k : NestedKey} {v : V} (h : KDs H ks vs) (h' : KD H k v) : KDs H (ks ++ [k]) (vs ++ [v]) := h.app (.cons h' .nil)
theorem KDs.set {H : Hp} {k : NestedKey} {v : V} (h' : KD H k v) : ∀ {ks : List NestedKey} {vs : List V} (i : Nat), KDs H ks vs → KDs H (ks.set i k) (vs.set i v)
  | _, _, _, .nil => .nil
  | _, _, 0, .cons _ b => .cons h' b
  | _, _, i + 1, .cons a b => .cons a (KDs.set h' i b)
theorem KDs.erase {H : Hp} : ∀ {ks : List NestedKey} {vs : List V} (i : Nat), KDs H ks vs → KDs H (ks.eraseIdx i) (vs.eraseIdx i)
  | _, _, _, .nil => .nil
  | _, _, 0, .cons _ b => b
  | _, _, i + 1, .cons a b => .cons a (KDs.erase i b)
theorem KDs.take {H : Hp} : ∀ {ks : List NestedKey} {vs : List V} (i : Nat), KDs H ks vs → KDs H (ks.take i) (vs.take i)
  | _, _, _, .nil => by simp; exact .nil
  | _, _, 0, .cons _ b => .nil
  | _, _, i + 1, .cons a b => .cons a (KDs.take i b)
theorem KDs.drop {H : Hp} : ∀ {ks : List NestedKey} {vs : List V} (i : Nat), KDs H ks vs → KDs H (ks.drop i) (vs.drop i)
  | _, _, _, .nil => by simp; exact .nil
  | _, _, 0, .cons a b => .cons a b
  | _, _, i + 1, .cons _ b => KDs.drop i b
theorem KDs.map {α : Type} {H : Hp} {f : α → NestedKey} {g : α → V} : ∀ {l : List α}, (∀ x ∈ l, KD H (f x) (g x)) → KDs H (l.map f) (l.map g)
  | [], _ => .nil
  | x :: l, h => .cons (h x List.mem_cons_self) (KDs.map fun y hy => h y (List.mem_cons_of_mem _ hy))
theorem KD.ref {H : Hp} {ks : List NestedKey} {v : V} (h : KD H (.tup ks) v) : ∃ a xs, v = .ref a ∧ Rd H a (.tup xs) ∧ KDs H ks xs := by
  cases h with
  | tup h1 h2 => exact ⟨_, _, rfl, h1, h2⟩
theorem KD.int {H : Hp} {i : Int} {v : V} (h : KD H (.num i) v) : v = .int i := by
  cases h
  rfl
theorem KDs.ints {H : Hp} (l : List Int) : KDs H (l.map .num) (l.map .int) := KDs.map fun x _ => .num x

mutual
theorem KD.dp {K : PySem.W.Frag} {H : Hp} : ∀ {k : NestedKey} {v : V}, KD H k v → Dp K H v k.data
  | _, _, .non => .non
  | _, _, .num i => .int i
  | _, _, .tup h1 h2 => .tup (.inl h1) (KDs.dp h2)
theorem KDs.dp {K : PySem.W.Frag} {H : Hp} : ∀ {k : List NestedKey} {v : List V}, KDs H k v → DpAll K H v (NestedKey.datas k)
  | _, _, .nil => .nil
  | _, _, .cons h1 h2 => .cons (KD.dp h1) (KDs.dp h2)
end
section
variable {P : Program} {w : World} {H : Hp} {h : Heap}
mutual
theorem KD.is (ok : HOk P w H h) : ∀ (k : NestedKey) (v : V) (u : Value), KD H k v → RelV v u → NestedIs h k u
  | .none, _, _, .non, r => by
    obtain rfl := r
    exact .none
  | .num i, _, _, .num _, r => by
    obtain ⟨t, rfl⟩ := r
    exact .int i t
  | .tup ks, _, _, .tup (xs := xs) h1 h2, r => by
    obtain rfl := r
    obtain ⟨_, its, rv, o, ho, hc, n, hd⟩ := h1.ok ok
    exact .tup ho hc hd (by simpa using KDs.is ok ks xs its h2 rv)
theorem KDs.is (ok : HOk P w H h) : ∀ (ks : List NestedKey) (vs : List V) (us : List Value), KDs H ks vs → Vals vs us → NestedAll h ks us
  | [], _, _, .nil, .nil => .nil
  | k :: ks, _, _, .cons h1 h2, .cons r rs => .cons (KD.is ok k _ _ h1 r) (KDs.is ok ks _ _ h2 rs)
end
mutual
theorem KD.reads (ok : HOk P w H h) : ∀ (k : NestedKey) (v : V) (u : Value), KD H k v → RelV v u → Reads h u k.data []
  | .none, _, _, .non, r => by
    obtain rfl := r
    exact .none
  | .num i, _, _, .num _, r => by
    obtain ⟨t, rfl⟩ := r
    exact .int i t
  | .tup ks, _, _, .tup (xs := xs) h1 h2, r => by
    obtain rfl := r
    obtain ⟨_, its, rv, o, ho, hc, n, hd⟩ := h1.ok ok
    exact .tuple ho hc hd (by simpa using KDs.reads ok ks xs its h2 rv)
theorem KDs.reads (ok : HOk P w H h) : ∀ (ks : List NestedKey) (vs : List V) (us : List Value), KDs H ks vs → Vals vs us → ReadsAll h us (NestedKey.datas ks) []
  | [], _, _, .nil, .nil => .nil
  | k :: ks, _, _, .cons h1 h2, .cons r rs => .cons (as := []) (bs := []) (KD.reads ok k _ _ h1 r) (KDs.reads ok ks _ _ h2 rs)
end
mutual
theorem KD.pure_ {H : Hp} : ∀ {k : NestedKey} {v : V}, KD H k v → pureK k = true
  | _, _, .non => rfl
  | _, _, .num i => rfl
  | _, _, .tup h1 h2 => by rw [pureK]; exact KDs.pure_ h2
theorem KDs.pure_ {H : Hp} : ∀ {k : List NestedKey} {v : List V}, KDs H k v → pureKs k = true
  | _, _, .nil => rfl
  | _, _, .cons h1 h2 => by rw [pureKs, KD.pure_ h1, KDs.pure_ h2]; rfl
end
end
mutual
theorem data_depth : ∀ k : NestedKey, k.data.depth ≤ k.depth
  | .none => by simp [NestedKey.data, PyData.depth]
  | .num _ => by simp [NestedKey.data, PyData.depth]
  | .text _ => by simp [NestedKey.data, PyData.depth]
  | .tup ks => by
    have := datas_depth ks
    simp only [NestedKey.data, PyData.depth, NestedKey.depth]
    omega
theorem datas_depth : ∀ ks : List NestedKey, PyData.depthAll (NestedKey.datas ks) ≤ NestedKey.depthAll ks
  | [] => by simp [NestedKey.datas, PyData.depthAll]
  | k :: ks => by
    have h1 := data_depth k
    have h2 := datas_depth ks
    simp only [NestedKey.datas, PyData.depthAll, NestedKey.depthAll]
    omega
end

/-! ### sorted(set(keys)) -/
section
variable {X : Cx}
structure KeysOk (ks : List NestedKey) : Prop where
  few : ks.length < 64
  tup : ∀ k ∈ ks, ∃ x r, k = .tup (x :: r)
  dep : ∀ k ∈ ks, k.depth ≤ 8
  alike : ∀ k ∈ ks, ∀ k' ∈ ks, PySem.W.alike k.data k'.data = true
def tSortSet (ta : TE) : TE := fun σ H Q => ta σ H fun x H1 => ∃ (l : Addr) (vs : List V) (ks : List NestedKey), x = .ref l ∧ H1 l = some (.lst vs) ∧ KDs H1 ks vs ∧ KeysOk ks ∧
  ∀ (S : List NestedKey) (ys : List V) (p : Addr), Sorted nlt ks S → KDs H1 S ys → H1 p = none → Q (.ref p) (upd H1 p (.lst ys))
theorem pair_up {H : Hp} : ∀ {ks : List NestedKey} {vs : List V}, KDs H ks vs → (∀ k ∈ ks, ∃ x r, k = .tup (x :: r)) → ∃ L : List (Addr × NestedKey), vs = L.map (fun q => V.ref q.1) ∧ ks = L.map (·.2) ∧ ∀ q ∈ L, KD H q.2 (.ref q.1)
  | _, _, .nil, _ => ⟨[], rfl, rfl, fun q h => by cases h⟩
  | _, _, .cons (k := k) (v := v) h1 h2, ht => by
    obtain ⟨L, e1, e2, e3⟩ := pair_up h2 fun k hk => ht k (List.mem_cons_of_mem _ hk)
    obtain ⟨x, r, rfl⟩ := ht k List.mem_cons_self
    obtain ⟨a, xs, rfl, _, _⟩ := h1.ref
    refine ⟨(a, .tup (x :: r)) :: L, by rw [e1]; rfl, by rw [e2]; rfl, fun q hq => ?_⟩
    rcases List.mem_cons.mp hq with rfl | hq
    · exact h1
    · exact e3 q hq
theorem refs_vals : ∀ {L : List (Addr × NestedKey)} {us : List Value}, Vals (L.map fun q => V.ref q.1) us → us = L.map fun q => Value.ref q.1
  | [], _, .nil => rfl
  | q :: L, _, .cons r t => by
    obtain rfl := r
    rw [refs_vals t]; rfl
theorem vals_refs : ∀ (L : List (Addr × NestedKey)), Vals (L.map fun q => V.ref q.1) (L.map fun q => Value.ref q.1)
  | [] => .nil
  | q :: L => .cons rfl (vals_refs L)
theorem pe_sortSet {a : Expr} {ta : TE} {p p2 q pos : Pos} (hc : X.calm = true) (hg : Gl X "sorted") (hm : X.mg "sorted" = none) (hg2 : Gl X "set") (hm2 : X.mg "set" = none) (hu : X.A.units + 70 < cLine) (ha : PE X a ta)
    (na : starEach [a] X.env = (false, eval a X.env) :: starEach [] X.env := by rfl) : PE X (.Call (.Name "sorted" p) [.Call (.Name "set" p2) [a] [] q] [] pos) (tSortSet ta) := by
  refine ⟨fun pins s σ H Q I h => ?_⟩
  refine Call_ (ld_blt I hg hm (by decide +kernel : bootBuiltins "sorted" = some (.builtin "sorted")) ?_)
  refine PyProof.Rows.callWith_builtin1 (PyProof.Rows.args_cons ?_ rfl) rfl rfl
  refine Call_ (ld_blt I hg2 hm2 PyProof.Rows.boot_set ?_)
  refine PyProof.Rows.callWith_type1 (PyProof.Rows.args_cons (thn (ha.run pins s σ H _ I h) fun v s1 ⟨x, H1, I1, r1, q1⟩ => PyProof.Rows.args_nil ?_) na) na rfl
  obtain ⟨l, vs, ks, rfl, hl, hks, ok, q1⟩ := q1
  obtain rfl := r1
  obtain ⟨L, rfl, rfl, hL⟩ := pair_up hks ok.tup
  obtain ⟨its, r, pl, hz⟩ := I1.list (.inl (.inl hl))
  have hk : ∀ p ∈ L, KeyAt s1.heap p.2 p.1 := fun p hp => ⟨KD.is I1.hok p.2 _ _ (hL p hp) rfl, ok.dep _ (List.mem_map.mpr ⟨p, hp, rfl⟩), (hL p hp).pure_⟩
  have hfew : L.length < 64 := by have := ok.few; rwa [List.length_map] at this
  refine makes_set (P := X.prog) (w := X.w) L (I1.ok.hd hc) pl.isList (by simpa using refs_vals r) hk hfew (by omega) fun h' tk L0 es ep t R g k => ?_
  refine PyProof.Rows.args_nil ?_
  have sub0 : ∀ p ∈ L0, p ∈ L := fun p hp => List.mem_of_mem_take (g.sub p hp)
  have mem2 : ∀ p ∈ L, p.2 ∈ L.map (·.2) := fun p hp => List.mem_map.mpr ⟨p, hp, rfl⟩
  refine sorts_set (P := X.prog) (w := X.w) R (I1.ok.hd hc) (by omega) (fun p hp => PyProof.Rows.Reads.keeps k (KD.reads I1.hok p.2 _ _ (hL p (sub0 p hp)) rfl)) (fun p hp p' hp' => ok.alike _ (mem2 p (sub0 p hp)) _ (mem2 p' (sub0 p' hp')))
    (fun p hp => ?_) (fun p hp => Nat.le_trans (data_depth _) (ok.dep _ (mem2 p (sub0 p hp)))) fun s' p c L1 k2 g2 o2 hp pm hget => ?_
  · obtain ⟨x, r, e⟩ := ok.tup _ (mem2 p (sub0 p hp))
    exact ⟨x.data, NestedKey.datas r, by rw [e]; simp [NestedKey.data, NestedKey.datas]⟩
  · have k3 : ∀ b o, s1.heap.get? b = some o → s'.heap.get? b = some o := fun b o e => k2 b o (k b o e)
    have hpn : s1.heap.objs.size ≤ p := by
      obtain ⟨o, ho, _⟩ := R.ob
      exact Nat.le_trans (Nat.le_of_lt (Heap.lt_size ho)) hp
    have hn : H1 p = none := I1.hok.fresh hpn
    have pm2 : (L1.mergeSort keyLe).Perm L0 := (List.mergeSort_perm _ _).trans pm
    have hlen : ((L1.mergeSort keyLe).map fun q => V.ref q.1).length ≤ sizeLine := by
      rw [List.length_map, pm2.length_eq, sizeLine_eq]
      have := R.few
      omega
    have J : Inv X pins σ (upd H1 p (.lst ((L1.mergeSort keyLe).map fun q => V.ref q.1))) { s1 with heap := s'.heap, gens := s'.gens, drawn := s'.drawn, toks := s'.toks } :=
      I1.call (ch := []) (Un.laid k3 hpn hn) (I1.hok.laid k3 hpn ⟨hlen, _, c, vals_refs _, hget⟩) (by rw [g2]; exact I1.bare) (fun _ z => nomatch z)
    have e : s' = { s1 with heap := s'.heap, gens := s'.gens, drawn := s'.drawn, toks := s'.toks } := by
      cases s'
      cases s1
      cases o2
      rfl
    rw [e]
    refine ⟨.ref p, _, J, rfl, q1 ((L1.mergeSort keyLe).map (·.2)) _ p ?_ ?_ hn⟩
    · have memS : ∀ q ∈ L1.mergeSort keyLe, q ∈ L := fun q hq => sub0 q (pm2.mem_iff.mp hq)
      refine ⟨fun x => ?_, ?_⟩
      · constructor
        · intro hx
          obtain ⟨q, hq, rfl⟩ := List.mem_map.mp hx
          exact mem2 q (memS q hq)
        · intro hx
          obtain ⟨q, hq, rfl⟩ := List.mem_map.mp hx
          have z := g.all q (by rw [List.take_length]; exact hq)
          exact (pm2.map (·.2)).mem_iff.mpr z
      · have nd : ((L1.mergeSort keyLe).map (·.2)).Nodup := (pm2.map (·.2)).nodup_iff.mpr R.nd
        have so : StrictOn nlt (L.map (·.2)) := strict_alike ok.alike
        have srt := PySem.W.sort_pairwise (PySem.W.sortLe_total (listOrd itemOrd) false (fun q : Addr × NestedKey => PySem.W.keyToks q.2.data)) L1
        rw [List.pairwise_map]
        refine List.Pairwise.imp_of_mem (fun {u v} hu hv h => ?_) (List.Pairwise.and srt (List.pairwise_map.mp nd))
        obtain ⟨h1, h2⟩ := h
        rcases so.tot _ (mem2 u (memS u hu)) _ (mem2 v (memS v hv)) h2 with z | z
        · exact z
        · exfalso
          have h1' : (!nlt v.2 u.2) = true := h1
          rw [z] at h1'
          cases h1'
    · exact KDs.map fun q hq => hL q (sub0 q (pm2.mem_iff.mp hq))
end
end Nl
end

section
set_option Elab.async false
set_option linter.all false
set_option maxRecDepth 100000
/-! enumerate(t), t a tuple -/
namespace Nl
open PySem PySem.Spec PyProof.Rows L2
open Sem (wp)

set_option maxHeartbeats 1000000 in
theorem meets_enumT (l : Addr) (items : Array Value) :
    Meets (Builtin.«enumerate.__new__» ⟨[.type "enumerate", .ref l], []⟩) (fun _ R s => s.heap.IsTuple l items ∧
      R (.ok (.ret (.ref (s.heap.push { cls := .type "tuple_iterator", data := .fields #[.ref l, .int 0 0] }).objs.size)))
        { s with heap := (s.heap.push { cls := .type "tuple_iterator", data := .fields #[.ref l, .int 0 0] }).push { cls := .type "enumerate", data := .fields #[.none, .bool false, .ref s.heap.objs.size, rawInt 0, .none, .none] } }) :=
  .of_wp fun prog w A R s h => by
    obtain ⟨hp, g, d, tk, os⟩ := s
    obtain ⟨hl, h⟩ := h
    have hsub := sub_enumerate
    have q1 : ∀ {A' : Around} {E : Value → Shared → Prop} {Q : Value → Shared → Prop}, Q (.ref hp.objs.size) ⟨hp.push { cls := .type "tuple_iterator", data := .fields #[.ref l, .int 0 0] }, g, d, tk, os⟩ → wpAny (model prog w) A' (pyIter (.ref l)) Q E ⟨hp, g, d, tk, os⟩ :=
      fun q => (begins_tuple l items).iter prog w _ _ ⟨hp, g, d, tk, os⟩ _ hl q
    wp_walk using q1
    refine wpAny_stack_any fun st => wpAny_pure ?_
    split
    · rename_i c _ _ _ _ _
      cases (c == Value.type "enumerate")
      · wp_walk using q1
        exact ⟨_, rfl, h⟩
      · wp_walk using q1
        exact ⟨_, rfl, h⟩
    · wp_walk using q1
      exact ⟨_, rfl, h⟩
section
variable {prog : Program} {w : World} {A : Around} {E : Value → Shared → Prop} {s : Shared}
theorem makes_enumT {l : Addr} {items : Array Value} {Q : Value → Shared → Prop} (hL : s.heap.IsTuple l items)
    (h : ∀ h', IsEnum h' (s.heap.objs.size + 1) s.heap.objs.size 0 .none → h'.IsTupleIter s.heap.objs.size l 0 → h'.objs.size = s.heap.objs.size + 2 →
      (∀ b o, s.heap.get? b = some o → h'.get? b = some o) → Q (.ref (s.heap.objs.size + 1)) { s with heap := h' }) :
    wpAny (model prog w) A (call (.type "enumerate") [.ref l]) Q E s := by
  refine callType_new F.called_enumerate (by decide) (F.typeCall_enumerate_1 _) (F.newCall_enumerate_1 _) (fun obj => F.args_object_init_2 obj _) F.entry_enumerate_new
    (meets_enumT l items) ⟨hL, ?_⟩
  have hz : (s.heap.push { cls := .type "tuple_iterator", data := .fields #[.ref l, .int 0 0] }).objs.size = s.heap.objs.size + 1 := Heap.size_push ..
  show _ ∧ _
  rw [hz]
  have he : IsEnum ((s.heap.push { cls := .type "tuple_iterator", data := .fields #[.ref l, .int 0 0] }).push
      { cls := .type "enumerate", data := .fields #[.none, .bool false, .ref s.heap.objs.size, rawInt 0, .none, .none] }) (s.heap.objs.size + 1) s.heap.objs.size 0 .none := by
    have q := Heap.get?_push_size (s.heap.push { cls := .type "tuple_iterator", data := .fields #[.ref l, .int 0 0] })
      (o := { cls := .type "enumerate", data := .fields #[.none, .bool false, .ref s.heap.objs.size, rawInt 0, .none, .none] }) rfl
    rwa [hz] at q
  exact ⟨⟨_, he, rfl⟩, h _ he ⟨_, Heap.get?_push_of_some _ (Heap.get?_push_size _ rfl), rfl, rfl⟩ (by rw [Heap.size_push, hz]) fun b o y => Heap.get?_push_of_some _ (Heap.get?_push_of_some _ y)⟩
end
/-- the tuple at a, counted -/
def IteT (K : PySem.W.Frag) (a : Addr) : It :=
  ⟨fun i H => ∃ (xs : List V) (x : V), SqT K H a xs ∧ xs[i]? = some x,
   fun i H v H' => ∃ T x, v = .ref T ∧ H T = none ∧ H' = upd H T (.tup [.int (i : Nat), x]) ∧ ∀ xs, SqT K H a xs → xs[i]? = some x,
   fun i H => ∃ xs : List V, SqT K H a xs ∧ xs.length = i⟩
theorem turn_enumT {P : Program} {w : World} {K : PySem.W.Frag} {elts : List Expr} {kk : Nat} {tpos : Pos} (a e it : Addr) (hei : e ≠ it) :
    Turn P w K (.Tuple elts kk tpos) (IteT K a) [e, it] e (fun i h => (∃ old, IsEnum h e it ((i : Nat) : Int) old) ∧ h.IsTupleIter it a i) where
  mem := by simp
  obj := fun i h st b hb => by
    obtain ⟨⟨old, he⟩, ⟨o, ho, hc, hd⟩⟩ := st
    have e' : b = e ∨ b = it := by simpa using hb
    rcases e' with rfl | rfl
    · exact ⟨_, he, fun v q => nomatch q⟩
    · exact ⟨o, ho, fun v q => by rw [hd] at q; cases q⟩
  keep := fun i h h' st k => ⟨st.1.elim fun old he => ⟨old, k e (by simp) _ he⟩, st.2.at fun o q => k it (by simp) o q⟩
  item := by
    rintro X rfl rfl rfl hc i pins s σ H E I hf ⟨⟨old, he⟩, hit⟩ ⟨xs, x, hq, hx⟩
    obtain ⟨its, rv, p, hz⟩ := I.tuple hq
    obtain ⟨u, hu, ru⟩ := rv.get hx
    obtain ⟨o, ho, hcl, m, hd⟩ := p
    have hT : s.heap.IsTuple a its.toArray := ⟨o, ho, hcl, m, hd⟩
    have hai : a ≠ it := by
      rintro rfl
      obtain ⟨o', ho', hc', _⟩ := hit
      rw [ho] at ho'
      cases ho'
      rw [hcl] at hc'
      injection hc' with hc'
      exact absurd hc' (by decide)
    have hae : a ≠ e := by
      rintro rfl
      rw [show s.heap.get? a = some _ from he] at ho
      cases ho
      injection hcl with hcl
      exact absurd hcl (by decide)
    have D := Draws.tuple (prog := X.prog) (w := X.w) (A := X.A.in1) (by simpa using I.ok.hd hc) it a hai its.toArray
    have W := GoesN.enumFrom (elts := elts) (x1 := kk) (pos := tpos) 0 D e hei (by simp [hei]; exact fun z => hae z.symm) (by simp)
    have ez : ∀ j : Nat, (0 : Int) + (j : Int) = (j : Int) := fun j => Int.zero_add _
    have hel : e < s.heap.objs.size := Heap.lt_size he
    have hil : it < s.heap.objs.size := by obtain ⟨_, q, _⟩ := hit; exact Heap.lt_size q
    have hal : a < s.heap.objs.size := Heap.lt_size ho
    have hi : i < its.toArray.size := by
      have := (List.getElem?_eq_some_iff.mp hu).1
      simpa using this
    refine W.goes i s (fun v s2 => ∃ x H', Inv X pins σ H' s2 ∧ RelV x v ∧ (IteT X.K a).yld i H x H' ∧ ((∃ old, IsEnum s2.heap e it (((i + 1 : Nat) : Nat) : Int) old) ∧ s2.heap.IsTupleIter it a (i + 1)) ∧ ∀ b ∈ [e, it], H' b = none) E hi
      ⟨⟨old, by rw [ez]; exact he⟩, hit, hT⟩ fun v h' tk hY st' hk htk => ?_
    obtain ⟨T, t, y, rfl, hTn, hy, hTt⟩ := hY
    obtain ⟨⟨old', he'⟩, hit', _⟩ := st'
    have ey : y = u := by
      have q : its[i]? = some y := by simpa using hy
      rw [hu] at q
      exact (Option.some.inj q).symm
    subst ey
    have new : ObjOk X.prog X.w (upd H T (.tup [.int (i : Nat), x])) h' T (.tup [.int (i : Nat), x]) := by
      obtain ⟨o', ho', hc', m', hd'⟩ := hTt
      exact ⟨by show 2 ≤ sizeLine; decide, [.int (0 + (i : Int)) t, y], .cons ⟨t, by rw [ez]⟩ (.cons ru .nil), ⟨o', ho', hc', m', hd'⟩⟩
    have I1 : Inv X pins σ (upd H T (.tup [.int (i : Nat), x])) { s with heap := h', toks := tk } :=
      I.turnedNew (ch := [e, it]) (fun b ob hb q => hk b ob hb q) hf hTn new
    refine ⟨.ref T, _, I1, rfl, ⟨T, x, rfl, I.hok.fresh hTn, rfl, fun ys hy => by rw [I.tuple_inj hy hq]; exact hx⟩, ⟨⟨old', by rw [← ez]; exact he'⟩, hit'⟩, fun b hb => ?_⟩
    have hb' : b < s.heap.objs.size := by
      have e' : b = e ∨ b = it := by simpa using hb
      rcases e' with rfl | rfl
      · exact hel
      · exact hil
    rw [upd_ne (Nat.ne_of_lt (Nat.lt_of_lt_of_le hb' hTn))]
    exact (hf b hb).1
  done := by
    rintro X rfl rfl rfl hc i pins s σ H E I hf ⟨⟨old, he⟩, hit⟩ ⟨xs, hq, rfl⟩
    obtain ⟨its, rv, p, hz⟩ := I.tuple hq
    obtain ⟨o, ho, hcl, m, hd⟩ := p
    have hT : s.heap.IsTuple a its.toArray := ⟨o, ho, hcl, m, hd⟩
    have hai : a ≠ it := by
      rintro rfl
      obtain ⟨o', ho', hc', _⟩ := hit
      rw [ho] at ho'
      cases ho'
      rw [hcl] at hc'
      injection hc' with hc'
      exact absurd hc' (by decide)
    have hae : a ≠ e := by
      rintro rfl
      rw [show s.heap.get? a = some _ from he] at ho
      cases ho
      injection hcl with hcl
      exact absurd hcl (by decide)
    have D := Draws.tuple (prog := X.prog) (w := X.w) (A := X.A.in1) (by simpa using I.ok.hd hc) it a hai its.toArray
    have W := GoesN.enumFrom (elts := elts) (x1 := kk) (pos := tpos) 0 D e hei (by simp [hei]; exact fun z => hae z.symm) (by simp)
    have en : its.toArray.size = xs.length := by have := rv.length; simp; omega
    rw [en] at W
    exact W.stops s (fun s1 => Inv X pins σ H s1) E ⟨⟨old, by rw [Int.zero_add]; exact he⟩, hit, hT⟩ fun h' tk hk htk => I.turnedL (ch := [e, it]) hk hf
  self := fun A i s Q E st h => let ⟨⟨_, he⟩, _⟩ := st; wpAny_pyIter_enum he h
def iEnumT (K : PySem.W.Frag) (ta : TA) : TI := fun σ H R => ta σ H fun vs H1 => ∃ a xs, vs = [.ref a] ∧ SqT K H1 a xs ∧ R (IteT K a) H1
theorem pi_enumT {X : Cx} {e : Expr} {ta : TA} {p pos tpos : Pos} {elts : List Expr} {kk : Nat} (hg : Gl X "enumerate") (hm : X.mg "enumerate" = none) (ha : PA X [e] ta) (hs : starEach [e] X.env = [(false, eval e X.env)] := by rfl) :
    PI X (.Tuple elts kk tpos) (.Call (.Name "enumerate" p) [e] [] pos) (iEnumT X.K ta) := by
  refine ⟨fun pins s σ H R I h => ?_⟩
  refine Call_ (ld_blt I hg hm boot_enumerate (PyProof.Rows.callWith_type1 (thn (ha.run pos pins s σ H _ I h) fun us s1 ⟨vs, H1, I1, r1, q1⟩ => ?_) hs rfl))
  obtain ⟨a, xs, rfl, hq, q⟩ := q1
  rw [Vals.ref1 r1]
  obtain ⟨its, rv, ⟨o, ho, hcl, m, hd⟩, hz⟩ := I1.tuple hq
  refine makes_enumT ⟨o, ho, hcl, m, hd⟩ fun h' he hit hsz hk => wpAny_pyIter_enum he ?_
  have I2 : Inv X pins σ H1 { s1 with heap := h' } := I1.kept (t' := s1.toks) hk
  refine ⟨s1.heap.objs.size + 1, [s1.heap.objs.size + 1, s1.heap.objs.size], _, _, H1, rfl, I2, turn_enumT a (s1.heap.objs.size + 1) s1.heap.objs.size (Nat.succ_ne_self _), ⟨⟨.none, he⟩, hit⟩, fun b hb => ?_, q⟩
  have hle : s1.heap.objs.size ≤ b := by
    have e' : b = s1.heap.objs.size + 1 ∨ b = s1.heap.objs.size := by simpa using hb
    rcases e' with z | z
    · rw [z]; exact Nat.le_add_right _ _
    · rw [z]; exact Nat.le_refl _
  exact I1.fpOk hle (I1.hok.fresh hle)
theorem walk_enumT {K : PySem.W.Frag} {a : Addr} {xs : List V} : Walk (IteT K a) xs.length (fun H => SqT K H a xs) (YPair (fun i => some (.int (i : Nat))) (fun i => xs[i]?)) := by
  refine ⟨fun i _ hi q => ⟨xs, xs[i], q, by simp [hi]⟩, fun _ q => ⟨xs, q, rfl⟩, fun i H v H' _ q y => ?_⟩
  obtain ⟨T, x, h1, h2, h3, h4⟩ := y
  exact ⟨T, .int (i : Nat), x, h1, h2, h3, rfl, h4 xs q⟩
end Nl
end

section
set_option Elab.async false
set_option linter.all false
set_option maxRecDepth 100000
namespace Nl
open PySem PySem.Spec PyProof.Rows L2
section
variable {X : Cx}
/-- tuple(xs), xs a list: the new object is known -/
theorem call_tupleF (K : PySem.W.Frag) (hK : X.K = K := by rfl) : CallR X (.type "tuple") (fun xs H Q => ∃ p ys, xs = [.ref p] ∧ SqL K H p ys ∧ ∀ l o, H l = none → o.dict = none → o.cls = .type "tuple" → Q (.ref l) (upd H l (.frz o (.tup ys)))) := by
  subst hK
  intro pins s σ H xs us Q I r h
  obtain ⟨p, ys, rfl, hq, q⟩ := h
  obtain ⟨u, rfl, rx⟩ := vals1 r
  cases rx
  obtain ⟨its, r', pl, hz⟩ := I.list hq
  have hlen := r'.length
  refine call_tuple_list pl.isList (fun h' kp => ?_) (by simp only [List.size_toArray]; omega)
  have I1 : Inv X pins σ H { s with heap := h' } := I.kept (t' := s.toks) kp
  have I2 : Inv X pins σ (upd H h'.objs.size (.frz { cls := .type "tuple", data := .seq its.toArray } (.tup ys))) { s with heap := h'.push { cls := .type "tuple", data := .seq its.toArray } } :=
    I1.laid (t' := s.toks) (fun b o e => Heap.get?_push_of_some _ e) (Nat.le_refl _) ⟨Heap.get?_push_size _ rfl, hz, its, r', IsTup.new _ _⟩
  exact ⟨.ref h'.objs.size, _, I2, rfl, q _ _ (I1.hok.fresh (Nat.le_refl _)) rfl rfl⟩

/-- the row of numbers at v, its object known -/
def NumsAt (H : Hp) (c : List Nat) (v : V) : Prop := ∃ a o, v = .ref a ∧ o.dict = none ∧ o.cls = .type "tuple" ∧ H a = some (.frz o (.tup (c.map fun (i : Nat) => V.int i)))
theorem NumsAt.kd {H : Hp} {c : List Nat} {v : V} (h : NumsAt H c v) : KD H (.tup (c.map fun (i : Nat) => .num i)) v := by
  obtain ⟨a, o, rfl, _, _, e⟩ := h
  exact .tup (.inr ⟨o, e⟩) (KDs.map fun i _ => .num i)
theorem NumsAt.same {H H' : Hp} {c : List Nat} {v : V} (h : NumsAt H c v) (s : Same H H') : NumsAt H' c v := by
  obtain ⟨a, o, rfl, h1, h2, e⟩ := h
  exact ⟨a, o, rfl, h1, h2, s _ _ e⟩

/-! ### row.index(number) -/
def tTupIx (to te : TE) : TE := fun σ H Q => to σ H fun x H1 => ∃ c, NumsAt H1 c x ∧ te σ H1 fun y H2 => ∃ i j, y = .int (i : Nat) ∧ NumsAt H2 c x ∧ c[j]? = some i ∧ (∀ m, m < j → c[m]? ≠ some i) ∧ Q (.int (j : Nat)) H2
def isI (i : Int) (v : Value) : Bool := match v with
  | .int k _ => decide (k = i)
  | _ => false
theorem eqAt_ints (A : Around) (s : Shared) {v : Value} {i : Int} {t : Tok} (h : ∃ k u, v = Value.int k u) : SeqAt.EqAt A s v (.int i t) (isI i v) := by
  obtain ⟨k, u, rfl⟩ := h
  exact SeqAt.EqAt.int_int k u i t
theorem pe_tupIx {o e : Expr} {to te : TE} {apos cpos : Pos} (ho : PE X o to) (he : PE X e te)
    (hbase : attributeBase o "index" X.env (eval o X.env) = eval o X.env := by rfl)
    (hfew : ((backTo cpos (starEach [e] X.env)).all (fun x => !x.1) && (backToKw cpos (keywordEach [] X.env)).all (fun x => x.1.isSome)
      && decide ([e].length + ([] : List Keyword).length + (if ([] : List Keyword).isEmpty then 0 else 1) < 30)) = true := by rfl)
    (hline : (apos.endLine == cpos.line) = true := by rfl) (hs : starEach [e] X.env = (false, eval e X.env) :: starEach [] X.env := by rfl) (hplain : (backTo cpos (starEach [] X.env)).any (·.1) = false := by rfl) :
    PE X (.Call (.Attribute o "index" apos) [e] [] cpos) (tTupIx to te) := by
  refine ⟨fun pins s σ H Q I h => ?_⟩
  refine wpAny_Call_method_late hbase hfew hline rfl (thn (ho.run pins s σ H _ I h) fun v s1 ⟨x, H1, I1, r1, c, hx, q1⟩ => ?_)
  obtain ⟨a, ob, rfl, hdn, hcl, hob⟩ := hx
  obtain rfl := r1
  have go : s1.heap.get? a = some ob := (I1.hok a _ hob).1
  refine ⟨"tuple", "tuple.index", PySem.F.plainAttrs_tuple, PySem.F.slot_tuple_index, PySem.F.type_tuple_index, ⟨ob, go, hcl⟩, fun b e => by injection e with e; subst e; exact ⟨ob, go, hdn⟩, ?_⟩
  have hA := (pa_cons he pa_nil hs : PA X [e] _).run cpos pins s1 σ H1 (fun vs H2 => ∃ y, vs = [y] ∧ ∃ i j, y = .int (i : Nat) ∧ NumsAt H2 c (.ref a) ∧ c[j]? = some i ∧ (∀ m, m < j → c[m]? ≠ some i) ∧ Q (.int (j : Nat)) H2) I1
    (by
      show te σ H1 fun y H2 => ∃ y', [y] = [y'] ∧ _
      exact (show te σ H1 (fun y H2 => ∃ y', [y] = [y'] ∧ ∃ i j, y' = .int (i : Nat) ∧ NumsAt H2 c (.ref a) ∧ c[j]? = some i ∧ (∀ m, m < j → c[m]? ≠ some i) ∧ Q (.int (j : Nat)) H2) from by
        have e0 : (fun (y : V) (H2 : Hp) => ∃ y', [y] = [y'] ∧ ∃ i j, y' = .int (i : Nat) ∧ NumsAt H2 c (.ref a) ∧ c[j]? = some i ∧ (∀ m, m < j → c[m]? ≠ some i) ∧ Q (.int (j : Nat)) H2)
            = fun y H2 => ∃ i j, y = .int (i : Nat) ∧ NumsAt H2 c (.ref a) ∧ c[j]? = some i ∧ (∀ m, m < j → c[m]? ≠ some i) ∧ Q (.int (j : Nat)) H2 := by
          funext y H2
          apply propext
          constructor
          · rintro ⟨y', e, h⟩
            rw [List.cons.injEq] at e
            rw [e.1]
            exact h
          · exact fun h => ⟨y, rfl, h⟩
        rw [e0]
        exact q1))
  rw [hs] at hA ⊢
  refine Calls.callWith_builtin (by show (false || (backTo cpos (starEach [] X.env)).any (·.1)) = false; rw [hplain]; rfl) (Calls.evalArgs_plain ?_)
  refine thn hA fun us s2 ⟨vs, H2, I2, r2, q2⟩ => ?_
  obtain ⟨y, rfl, i, j, rfl, hn, hj, hno, q⟩ := q2
  obtain ⟨a', ob', e, hdn', hcl', hob'⟩ := hn
  injection e with e
  subst e
  obtain ⟨u, rfl, t, rfl⟩ := vals1 r2
  have go' : s2.heap.get? a = some ob' := (I2.hok a _ hob').1
  obtain ⟨its, r, pl, hz⟩ := I2.tuple (.inl (.inr ⟨ob', hob'⟩))
  obtain ⟨⟨cls, dd, dt, sl⟩, ho', hc, n, hd⟩ := pl
  simp only at hc hd
  subst hc
  subst hd
  have hl : its.toArray.size = c.length := by rw [List.size_toArray, ← r.length, List.length_map]
  have hjl : j < c.length := (List.getElem?_eq_some_iff.mp hj).1
  have at' : ∀ (m : Nat) (hm : m < its.toArray.size), ∃ k t', c[m]? = some k ∧ its.toArray[m] = Value.int (k : Nat) t' := fun m hm => by
    have hm' : m < c.length := by rw [← hl]; exact hm
    obtain ⟨w, hw, t', hw'⟩ := r.get (i := m) (x := .int (c[m] : Nat)) (by simp [hm'])
    refine ⟨c[m], t', List.getElem?_eq_getElem hm', ?_⟩
    have e := (List.getElem?_eq_some_iff.mp hw).2
    rw [← hw', ← e]
    simp
  refine call_meets PySem.F.slot_tuple_index ⟨_, ho', rfl⟩ PySem.F.entry_tuple_index (PySem.F.args_tuple_index_2 _ _) (TI.tuple_indexAt a its.toArray n dd sl (.int (i : Nat) t) (isI (i : Nat)) j (by rw [hl]; exact hjl) ?_ ?_)
    ⟨ho', fun w hw => eqAt_ints _ _ ?_, ⟨.int (j : Nat), H2, I2.tok _, ⟨_, rfl⟩, q⟩⟩
  · obtain ⟨k, t', h1, h2⟩ := at' j (by rw [hl]; exact hjl)
    rw [hj] at h1
    obtain rfl := Option.some.inj h1
    rw [h2]
    exact decide_eq_true rfl
  · intro m hm hmj
    obtain ⟨k, t', h1, h2⟩ := at' m hm
    rw [h2]
    refine decide_eq_false fun e => ?_
    have e' : k = i := by omega
    exact hno m hmj (e' ▸ h1)
  · obtain ⟨m, hm, e⟩ := Array.getElem_of_mem hw
    obtain ⟨k, t', h1, h2⟩ := at' m hm
    exact ⟨_, t', by rw [← e, h2]⟩

/-! ### max(t), t a tuple of ints -/
def rMaxT (K : PySem.W.Frag) : List V → Hp → VK → Prop := fun vs H Q => ∃ (a : Addr) (ns : List Int), vs = [V.ref a] ∧ SqT K H a (ns.map V.int) ∧ 0 < ns.length ∧ ∀ m, m ∈ ns → (∀ y, y ∈ ns → y ≤ m) → Q (.int m) H
theorem cr_maxT (hc : X.calm = true) : CallR X (.builtin "max") (rMaxT X.K) := by
  intro pins s σ H vs us Q I r h
  obtain ⟨a, ns, rfl, hs, hne, q⟩ := h
  obtain ⟨its, rv, ⟨o, ho, hcl, n, hd⟩, _⟩ := I.tuple hs
  rw [Vals.ref1 r]
  have hlt : a < s.heap.objs.size := Heap.lt_size ho
  have hT : s.heap.IsTuple a its.toArray := ⟨o, ho, hcl, n, hd⟩
  have hl : its.toArray.size = ns.length := by rw [List.size_toArray, ← rv.length, List.length_map]
  have hval : ∀ (i : Nat) (v : Value), its.toArray[i]? = some v → ∃ t, v = .int (ns.getD i 0) t := fun i v hv => by
    have hi : i < its.toArray.size := (Array.getElem?_eq_some_iff.mp hv).1
    have hi' : i < ns.length := by rw [← hl]; exact hi
    obtain ⟨w, hw, t', hw'⟩ := rv.get (i := i) (x := .int ns[i]) (by simp [hi'])
    have e : v = w := by
      have hv' : its[i]? = some v := by simpa using hv
      rw [hw] at hv'
      exact (Option.some.inj hv').symm
    refine ⟨t', ?_⟩
    rw [e, hw', List.getD_eq_getElem?_getD, List.getElem?_eq_getElem hi']
    rfl
  refine call_max_walk (wpAny_pyIter_tuple hT ?_)
  refine ⟨_, _, _, _, _, _, _, rfl, Walks.tuple (A := X.A.in1) (by simpa using I.ok.hd hc) s.heap.objs.size a (Nat.ne_of_lt hlt) its.toArray,
    ⟨⟨_, Heap.get?_push_size _ rfl, rfl, rfl⟩, hT.at fun o e => Heap.get?_push_of_some _ e⟩, fun b hb => ?_, by rw [hl]; exact hne, CmpOf.ints_gt (fun i => ns.getD i 0) hval, fun v h' tk hP hk => ?_⟩
  · show b < (s.heap.push _).objs.size
    rw [Heap.size_push]
    rcases List.mem_cons.mp hb with e | hb
    · rw [e]; exact Nat.lt_succ_self _
    · rw [List.mem_singleton.mp hb]; exact Nat.lt_succ_of_lt hlt
  · obtain ⟨t, rfl⟩ := hval _ v hP
    obtain ⟨b1, b2⟩ := argBest_gt (fun i => ns.getD i 0) (its.toArray.size - 1)
    have hb : argBest (fun i j => decide (ns.getD i 0 > ns.getD j 0)) (its.toArray.size - 1) < ns.length := by omega
    refine ⟨.int _, H, I.kept (t' := tk) fun b u e => hk b u (fun hmem => ?_) (Heap.get?_push_of_some _ e), ⟨t, rfl⟩, q _ ?_ fun y hy => ?_⟩
    · have e1 : b = s.heap.objs.size := List.mem_singleton.mp hmem
      have e2 := Heap.lt_size e
      rw [e1] at e2
      exact absurd e2 (Nat.lt_irrefl _)
    · rw [List.getD_eq_getElem?_getD, List.getElem?_eq_getElem hb]
      exact List.getElem_mem hb
    · obtain ⟨i, hi, e⟩ := List.mem_iff_getElem.mp hy
      have e2 : ns.getD i 0 = y := by rw [List.getD_eq_getElem?_getD, List.getElem?_eq_getElem hi, ← e]; rfl
      rw [← e2]
      exact b2 i (by omega)

/-! ### rules with the written part named -/
theorem ixT (K : PySem.W.Frag) (h : X.K = K := by rfl) : IxR X (rIxT K) := h ▸ ix_tup
theorem ixL (K : PySem.W.Frag) (h : X.K = K := by rfl) : IxR X (rIxL K) := h ▸ ix_list
theorem pe_bmK (K : PySem.W.Frag) {o e : Expr} {es : List Expr} {to : TE} {t : TA} {name : Str} {apos cpos : Pos} {T id : String} {r : V → List V → Hp → VK → Prop}
    (pa : PlainAttrs T) (slot : Slot T name id) (hty : typeOf (.builtin id) = pure (.type "method_descriptor")) (hm : MtR X id r) (ho : PE X o to) (ha : PA X (e :: es) t) (hK : X.K = K := by rfl)
    (hbase : attributeBase o name X.env (eval o X.env) = eval o X.env := by rfl)
    (hfew : ((backTo cpos (starEach (e :: es) X.env)).all (fun x => !x.1) && (backToKw cpos (keywordEach [] X.env)).all (fun x => x.1.isSome)
      && decide ((e :: es).length + ([] : List Keyword).length + (if ([] : List Keyword).isEmpty then 0 else 1) < 30)) = true := by rfl)
    (hline : (apos.endLine == cpos.line) = true := by rfl) (hs : starEach (e :: es) X.env = (false, eval e X.env) :: starEach es X.env := by rfl) (hplain : (backTo cpos (starEach es X.env)).any (·.1) = false := by rfl) :
    PE X (.Call (.Attribute o name apos) (e :: es) [] cpos) (tBM K T r to t) := hK ▸ pe_bm pa slot hty hm ho ha hbase hfew hline hs hplain
theorem mt_indexK (K : PySem.W.Frag) (hu : X.A.units + 65 < cLine) (h : X.K = K := by rfl) : MtR X "list.index" (rIndexD K) := h ▸ mt_indexD hu
end
mutual
theorem keys_canLay : ∀ k : NestedKey, pureK k = true → k.data.canLay0 = true
  | .none, _ => by simp [NestedKey.data, PyData.canLay0]
  | .num _, _ => by simp [NestedKey.data, PyData.canLay0]
  | .text _, h => by simp [pureK] at h
  | .tup ks, h => by
    rw [pureK] at h
    have := keys_canLayAll ks h
    simpa [NestedKey.data, PyData.canLay0] using this
theorem keys_canLayAll : ∀ ks : List NestedKey, pureKs ks = true → PyData.canLayAll0 (NestedKey.datas ks) = true
  | [], _ => by simp [NestedKey.datas, PyData.canLayAll0]
  | k :: ks, h => by
    rw [pureKs, Bool.and_eq_true] at h
    have h1 := keys_canLay k h.1
    have h2 := keys_canLayAll ks h.2
    simp [NestedKey.datas, PyData.canLayAll0, h1, h2]
end
theorem key_shaped {k : NestedKey} (hp : pureK k = true) (hd : k.depth ≤ 64) : SeqAt.shaped k.data = true := by
  unfold SeqAt.shaped
  rw [keys_canLay k hp, Bool.true_and]
  exact decide_eq_true (Nat.le_trans (data_depth k) hd)
theorem keys_shaped {ks : List NestedKey} (hp : pureKs ks = true) (hd : NestedKey.depthAll ks ≤ 63) : SeqAt.shaped (.list (NestedKey.datas ks)) = true := by
  unfold SeqAt.shaped
  rw [show PyData.canLay0 (.list (NestedKey.datas ks)) = PyData.canLayAll0 (NestedKey.datas ks) from rfl, keys_canLayAll ks hp, Bool.true_and]
  refine decide_eq_true ?_
  have := datas_depth ks
  show PyData.depthAll (NestedKey.datas ks) + 1 ≤ 64
  omega
theorem eqv_self (k : NestedKey) (hp : pureK k = true) : PyData.eqv k.data k.data = true := SeqAt.eqv_refl _ (keys_canLay k hp)
theorem eqv_iff {k k' : NestedKey} (hp : pureK k = true) : PyData.eqv k.data k'.data = decide (k = k') := by
  by_cases e : k = k'
  · subst e; rw [eqv_self k hp]; simp
  · cases h : PyData.eqv k.data k'.data with
    | true => exact absurd (eqv_keys k k' h) e
    | false => simp [e]
theorem datas_get : ∀ (ks : List NestedKey) (i : Nat), (NestedKey.datas ks)[i]? = ks[i]?.map NestedKey.data
  | [], i => by simp [NestedKey.datas]
  | k :: ks, 0 => by simp [NestedKey.datas]
  | k :: ks, i + 1 => by simpa [NestedKey.datas] using datas_get ks i
theorem depthAll_le {n : Nat} : ∀ {ks : List NestedKey}, (∀ k ∈ ks, k.depth ≤ n) → NestedKey.depthAll ks ≤ n
  | [], _ => by simp [NestedKey.depthAll]
  | k :: ks, h => by
    have h1 := h k List.mem_cons_self
    have h2 := depthAll_le (ks := ks) fun x hx => h x (List.mem_cons_of_mem _ hx)
    simp only [NestedKey.depthAll]
    omega
end Nl
end

section
set_option Elab.async false
set_option linter.all false
set_option maxRecDepth 100000
namespace Nl
open PySem PySem.Spec PyProof.Rows L2

/-! ### the text -/
def topS (i : Nat) : Stmt := PySem.Challenge.pw_namelesshall_k51_whole_exchanges_step_by.main.body.getD i (.Pass ⟨0, 0, 0, 0⟩)

/-! ### heaps -/
theorem same_upd {H : Hp} {p : Addr} {o : HO} (h : H p = none) : Same H (upd H p o) := fun b x e => by
  rw [upd_ne (ne_of_none e h)]
  exact e
/-- a list that was not there ahead may be written -/
theorem same_over {H H' : Hp} {p : Addr} {o : HO} (h : H p = none) (s : Same H H') : Same H (upd H' p o) := fun b x e => by
  rw [upd_ne (ne_of_none e h)]
  exact s b x e
theorem tups_over {H : Hp} {p : Addr} {o u : HO} (h : H p = some u) (hu : ∀ xs, u ≠ .tup xs) (hf : ∀ q xs, u ≠ .frz q (.tup xs)) : Tups H (upd H p o) := fun b xs e => by
  rcases e with e | ⟨q, e⟩
  · exact .inl (by rw [upd_ne (ne_of e h fun z => hu xs z.symm)]; exact e)
  · exact .inr ⟨q, by rw [upd_ne (ne_of e h fun z => hf q xs z.symm)]; exact e⟩
theorem tups_new {H : Hp} {p : Addr} {o : HO} (h : H p = none) : Tups H (upd H p o) := tups_same (same_upd h)
theorem tups_lst {H : Hp} {p : Addr} {o : HO} {xs : List V} (h : H p = some (.lst xs)) : Tups H (upd H p o) := tups_over h (fun _ e => nomatch e) fun _ _ e => nomatch e

/-! ### what data are made of -/
def kI (i : Nat) : NestedKey := .num (i : Int)
def kPeg (x : Nat × Nat) : NestedKey := .tup [kI x.1, kI x.2]
def kHand (h : Int × List (Nat × Nat)) : NestedKey := .tup [.num h.1, .tup (h.2.map kPeg)]
def kWeb (W : Web) : NestedKey := .tup (W.map kHand)
def kNums (c : List Nat) : NestedKey := .tup (c.map kI)
def kEx (e : Ex) : NestedKey := .tup [kI e.1, kI e.2.1, kI e.2.2]
def kRow (r : List Ex) : NestedKey := .tup (r.map kEx)
theorem KD.mkInt {H : Hp} (i : Nat) : KD H (kI i) (.int (i : Int)) := .num _

abbrev gPair (K : PySem.W.Frag) (i j : Nat) : TG := gTup K 2 (gCons (gName i) (gCons (gName j) gNil))

/-! ### a list made by a comprehension, its items data -/
section
variable {J : It} {n : Nat} {G : Hp → Prop} {Y : Nat → Hp → V → Hp → Prop}
theorem comp_keys (w : Walk J n G Y) (ks : List NestedKey) (hlen : ks.length = n) (hsz : n < sizeLine) {g : TG} {te : TE} {vs : List Nat} {σ : L2.St} {H1 : Hp} {D : Addr} {Qd : Hp → Prop} (hD : H1 D = none)
    (hG : ∀ H', Same H1 H' → G H')
    (hs : ∀ i x H H' k, i < n → ks[i]? = some k → Same H1 H → Y i H x H' → ∀ Qk : V → Hp → Prop, (∀ y H4, Same H H4 → KD H4 k y → Qk y H4) → g x (wipe σ vs) H' fun σ2 H2 => wipe σ2 vs = wipe σ vs ∧ te σ2 H2 Qk)
    (hd : ∀ H' acc, Same H1 H' → H' D = some (.lst acc) → KDs H' ks acc → Qd H') :
    ∃ W : Nat → Nat → Hp → Prop, (∃ m, W 0 m (upd H1 D (.lst []))) ∧ ∀ i m H, W i m H →
      (J.stop i H ∧ Qd H) ∨ (J.go i H ∧ ∃ Nx : Hp → Prop, (∀ H', Nx H' → ∃ m', m' < m ∧ W (i + 1) m' H') ∧ ∀ x H', J.yld i H x H' → g x (wipe σ vs) H' fun σ2 H2 => wipe σ2 vs = wipe σ vs ∧ tYes σ2 H2 fun b H3 =>
        if b = true then te σ2 H3 fun y H4 => ∃ acc, H4 D = some (.lst acc) ∧ acc.length < sizeLine ∧ Nx (upd H4 D (.lst (acc ++ [y]))) else Nx H3) := by
  refine lc_it w (fun i H => Same H1 H ∧ ∃ acc, H D = some (.lst acc) ∧ KDs H (ks.take i) acc) ⟨same_upd hD, [], upd_same, by simp; exact .nil⟩ (fun i H _ h => hG H h.1) (fun i x H H' hi h hy => ?_) fun H h => ?_
  · obtain ⟨sm, acc, hacc, hk⟩ := h
    have hlt : i < ks.length := by omega
    refine hs i x H H' ks[i] hi (List.getElem?_eq_getElem hlt) sm hy _ fun y H4 h4 h5 => ?_
    have a4 := h4 _ _ hacc
    refine ⟨acc, a4, ?_, same_over hD (sm.trans h4), acc ++ [y], upd_same, ?_⟩
    · have := hk.length
      rw [this, List.length_take]
      omega
    · have t4 : Tups H4 (upd H4 D (.lst (acc ++ [y]))) := tups_lst a4
      rw [List.take_succ, List.getElem?_eq_getElem hlt]
      exact ((hk.tups (tups_same h4)).tups t4).snoc (h5.tups t4)
  · obtain ⟨sm, acc, hacc, hk⟩ := h
    rw [← hlen, List.take_length] at hk
    exact hd H acc sm hacc hk
end


theorem room70 {k : Nat} {A : Around} (r : Room k A) : A.units + 70 < cLine := by have := r.un; omega
theorem room65 {k : Nat} {A : Around} (r : Room k A) : A.units + 65 < cLine := by have := r.un; omega
def rLen (K : PySem.W.Frag) : List V → Hp → VK → Prop := fun xs H Q => ∃ p ys, xs = [V.ref p] ∧ (SqL K H p ys ∨ SqT K H p ys) ∧ Q (.int ys.length) H
theorem call_lenK {X : Cx} (K : PySem.W.Frag) (h : X.K = K := by rfl) : CallR X (.builtin "len") (rLen K) := h ▸ call_len_seq
/-! ### what webs keep -/
structure Fit (W : Web) : Prop where
  pos : 0 < W.length
  few : W.length ≤ 9
  plen : ∀ h, (pegs W h).length ≤ 8
  inr : InR W
theorem Fit.exch {W : Web} (F : Fit W) {h p q : Nat} (hp : p < (pegs W h).length) (hq : q < (pegs W h).length) : Fit (Nl.exch W h p q) where
  pos := by rw [exch_len]; exact F.pos
  few := by rw [exch_len]; exact F.few
  plen := fun j => by rw [exch_plen]; exact F.plen j
  inr := exch_inR F.inr hp hq
section
variable {K : PySem.W.Frag}
theorem walk_zipT {a b : Addr} {xs ys : List V} {n : Nat} (hn : n = min xs.length ys.length) : Walk (RZ.ItzT K a b) n (fun H => SqT K H a xs ∧ SqT K H b ys) (YPair (fun i => xs[i]?) (fun i => ys[i]?)) := by
  subst hn
  refine ⟨fun i _ hi q => ?_, fun _ q => ⟨xs, ys, q.1, q.2, by omega⟩, fun i H v H' _ q y => ?_⟩
  · exact ⟨xs, ys, xs[i]'(by omega), ys[i]'(by omega), q.1, q.2, List.getElem?_eq_getElem _, List.getElem?_eq_getElem _⟩
  · obtain ⟨T, x, z, h1, h2, h3, h4, h5⟩ := y
    exact ⟨T, x, z, h1, h2, h3, h4 xs q.1, h5 ys q.2⟩
end
/-- the hand h of a web that stands -/
theorem KD.webAt {H : Hp} {W : Web} {v : V} (h : KD H (kWeb W) v) : ∃ a xs, v = .ref a ∧ Rd H a (.tup xs) ∧ KDs H (W.map kHand) xs ∧ xs.length = W.length := by
  obtain ⟨a, xs, e, h1, h2⟩ := h.ref
  exact ⟨a, xs, e, h1, h2, by have := h2.length; simpa using this⟩
theorem KD.handAt {H : Hp} {m : Int} {ps : List (Nat × Nat)} {v : V} (h : KD H (kHand (m, ps)) v) : ∃ a b ys, v = .ref a ∧ Rd H a (.tup [.int m, .ref b]) ∧ Rd H b (.tup ys) ∧ KDs H (ps.map kPeg) ys ∧ ys.length = ps.length := by
  obtain ⟨a, xs, rfl, h1, h2⟩ := h.ref
  cases h2 with
  | cons x1 x2 =>
    cases x2 with
    | cons x2 x3 =>
      cases x3
      obtain rfl := x1.int
      obtain ⟨b, ys, rfl, hb, hys⟩ := x2.ref
      exact ⟨a, b, ys, rfl, h1, hb, hys, by have := hys.length; simpa using this⟩
theorem KD.pairAt {H : Hp} {i j : Int} {v : V} (h : KD H (.tup [.num i, .num j]) v) : ∃ a, v = .ref a ∧ Rd H a (.tup [.int i, .int j]) := by
  obtain ⟨a, xs, rfl, h1, h2⟩ := h.ref
  cases h2 with
  | cons x1 x2 =>
    cases x2 with
    | cons x2 x3 =>
      cases x3
      obtain rfl := x1.int
      obtain rfl := x2.int
      exact ⟨a, rfl, h1⟩
theorem KDs.web {H : Hp} {W : Web} {xs : List V} (h : KDs H (W.map kHand) xs) {i : Nat} {x : V} (hx : xs[i]? = some x) : i < W.length ∧ KD H (kHand (mk W i, pegs W i)) x := by
  obtain ⟨k, hk, hkx⟩ := h.get' hx
  rw [List.getElem?_map, Option.map_eq_some_iff] at hk
  obtain ⟨z, hz, rfl⟩ := hk
  have hi : i < W.length := (List.getElem?_eq_some_iff.mp hz).1
  rw [web_at hi] at hz
  obtain rfl := Option.some.inj hz
  exact ⟨hi, hkx⟩
theorem KDs.web' {H : Hp} {W : Web} {xs : List V} (h : KDs H (W.map kHand) xs) {i : Nat} (hi : i < W.length) : ∃ x, xs[i]? = some x ∧ KD H (kHand (mk W i, pegs W i)) x := by
  obtain ⟨x, h1, h2⟩ := h.get (i := i) (by rw [List.getElem?_map, web_at hi]; rfl)
  exact ⟨x, h1, h2⟩
theorem KDs.pegs {H : Hp} {ps : List (Nat × Nat)} {xs : List V} (h : KDs H (ps.map kPeg) xs) {i : Nat} {x : V} (hx : xs[i]? = some x) : ∃ z, ps[i]? = some z ∧ KD H (kPeg z) x := by
  obtain ⟨k, hk, hkx⟩ := h.get' hx
  rw [List.getElem?_map, Option.map_eq_some_iff] at hk
  obtain ⟨z, hz, rfl⟩ := hk
  exact ⟨z, hz, hkx⟩
theorem at0_get {c : List Nat} {i : Nat} (h : i < c.length) : c[i]? = some (at0 c i) := by
  unfold at0
  rw [List.getD_eq_getElem?_getD, List.getElem?_eq_getElem h]
  rfl
theorem small100 {n : Nat} (h : n < 100) : n ≤ sizeLine := by rw [sizeLine_eq]; omega
theorem NumsAt.sq {K : PySem.W.Frag} {H : Hp} {c : List Nat} {v : V} (h : NumsAt H c v) : ∃ a, v = .ref a ∧ SqT K H a (c.map fun (i : Nat) => V.int i) := by
  obtain ⟨a, o, rfl, _, _, e⟩ := h
  exact ⟨a, rfl, .inl (.inr ⟨o, e⟩)⟩
end Nl
end

section
set_option Elab.async false
set_option linter.all false
set_option maxRecDepth 100000
namespace Nl
open PySem PySem.Spec PyProof.Rows L2
abbrev sHeard : Stmt := topS 2
abbrev nHeard : List Str := ["hand", "now", "other", "peg"]
theorem scHeard : FnScope nHeard ["hand", "now"] (defScope sHeard) := ⟨rfl, rfl, rfl, by decide +kernel, rfl, by decide +kernel, by decide +kernel⟩
section
variable {P : Program} {w : World} {K : PySem.W.Frag} {mg : Str → Option Value} {base : Heap}
def heardOf (c : List Nat) (ps : List (Nat × Nat)) : NestedKey := .tup (ps.map fun x => .tup [kI x.2, kI (at0 c x.1)])
def spHeard : Sp := fun vs H Q _ => ∃ (m : Int) (ps : List (Nat × Nat)) (c : List Nat) (u v : V), vs = [u, v] ∧ KD H (kHand (m, ps)) u ∧ NumsAt H c v ∧ (∀ x ∈ ps, x.1 < c.length) ∧ ps.length < 1000 ∧
  ∀ H' r, Same H H' → KD H' (heardOf c ps) r → Q r H'
theorem ok_heard {f : Addr} {fd : FuncData} {k : Nat} (F : Fun K "heard_by" "heard_by" sHeard f fd) (mt : mg "tuple" = none) : FnOk P w K mg base CX0 (k + 1) f fd ["hand", "now"] spHeard := by
  refine F.ok scHeard (fun vs H Q E h => ?_) (fun cdv A outer s H vs Q E hr h => ?_)
  · obtain ⟨m, ps, c, u, v, rfl, _⟩ := h
    rfl
  · obtain ⟨m, ps, c, u, v, rfl, hu, hv, hin, hsz, q⟩ := h
    refine ⟨_, pss_one (ps_ret (pe_callTy call_tuple_of (by rfl) mt (by decide +kernel) (pa_cons
      (pe_lc (own := [("other", 2), ("peg", 3)]) (g := gPair K 2 3) (tt := tYes) rfl scHeard.nd (pi_tup (pe_ix ix_tup (pv 0) pe_int (fun _ _ => rfl)))
        (blkOk_by (own := [("other", 2), ("peg", 3)]) (N := nHeard) (sc := defScope sHeard) (by decide +kernel))
        (fun _ _ _ _ _ => pg_tup rfl (pgs_cons (pg_name (i := 2) scHeard.nd rfl (.inl rfl)) (pgs_cons (pg_name (i := 3) scHeard.nd rfl (.inl rfl)) pgs_nil)))
        (fun _ _ _ _ _ => pts_nil)
        (fun _ _ _ _ _ => pe_tup (pa_cons (pv 3) (pa_cons (pe_ix (ixT K) (pv 1) (pv 2) (fun _ _ => rfl)) pa_nil)))) pa_nil))), ?_⟩
    obtain ⟨a, b, ys, rfl, ha, hb, hys, hyl⟩ := hu.handAt
    obtain ⟨cA, rfl, hc⟩ := hv.sq (K := K)
    refine ⟨_, rfl, a, _, 1, _, rfl, rfl, .inl ha, atI_nat (j := 1) rfl, b, rfl, ⟨_, .inl hb⟩, fun D hD => comp_keys (walk_tup (K := K) (a := b) (xs := ys)) (ps.map fun x => .tup [kI x.2, kI (at0 c x.1)]) (by simp [hyl]) (by rw [sizeLine_eq]; omega) hD
      (fun H' s' => .inl (rd_same s' hb)) (fun i x H1 H2 kk hi hk s1 hy Qk hQ => ?_) (fun H' acc s' hD' hacc => ?_)⟩
    · obtain ⟨rfl, hx⟩ := hy
      obtain ⟨z, hz, hkx⟩ := hys.pegs hx
      rw [List.getElem?_map, hz] at hk
      obtain rfl := Option.some.inj hk
      obtain ⟨d, rfl, hd⟩ := hkx.pairAt
      have hzc : z.1 < c.length := hin z (List.mem_of_getElem? hz)
      obtain ⟨cA', e, hc'⟩ := (hv.same s1).sq (K := K)
      cases e
      refine ⟨d, _, rfl, .inl (rd_same s1 hd), rfl, _, _, rfl, _, _, rfl, rfl, rfl, _, rfl, _, rfl, _, rfl, cA, _, _, _, rfl, rfl, hc', atI_nat (v := .int (at0 c z.1 : Nat)) (by rw [List.getElem?_map, at0_get hzc]; rfl), ?_⟩
      exact ⟨by show 2 ≤ sizeLine; decide, fun p np => hQ _ _ (same_upd np) (.tup (.inl upd_same) (.cons (.num _) (.cons (.num _) .nil)))⟩
    · exact ⟨D, acc, rfl, .inl ⟨.inl (.inl hD'), fun l nl => q _ _ (s'.trans (same_upd nl)) (.tup (.inl upd_same) (hacc.tups (tups_new nl)))⟩⟩
end
end Nl
end

section
set_option Elab.async false
set_option linter.all false
set_option maxRecDepth 100000
namespace Nl
open PySem PySem.Spec PyProof.Rows L2
section
variable {P : Program} {w : World} {K : PySem.W.Frag} {mg : Str → Option Value} {base : Heap}
/-! ### places_of -/
abbrev sPlaces : Stmt := topS 1
abbrev nPlaces : List Str := ["keys", "some", "key"]
theorem scPlaces : FnScope nPlaces ["keys"] (defScope sPlaces) := ⟨rfl, rfl, rfl, by decide +kernel, rfl, by decide +kernel, by decide +kernel⟩
def spPlaces : Sp := fun vs H Q _ => ∃ (l : Addr) (xs : List V) (ks : List NestedKey), vs = [.ref l] ∧ H l = some (.lst xs) ∧ KDs H ks xs ∧ KeysOk ks ∧ ∀ H' r, Same H H' → NumsAt H' (places nlt ks) r → Q r H'
theorem comp_done {H : Hp} {ns : List Nat} {acc : List V} (h : KDs H (ns.map kI) acc) : acc = ns.map fun (i : Nat) => V.int i := by
  induction ns generalizing acc with
  | nil => cases h; rfl
  | cons n ns ih =>
    cases h with
    | cons h1 h2 =>
      obtain rfl := h1.int
      rw [ih h2]
      rfl
theorem ok_places {f : Addr} {fd : FuncData} {k : Nat} (F : Fun K "places_of" "places_of" sPlaces f fd) (mt : mg "tuple" = none) (ms : mg "sorted" = none) (me : mg "set" = none) : FnOk P w K mg base CX0 (k + 1) f fd ["keys"] spPlaces := by
  refine F.ok scPlaces (fun vs H Q E h => ?_) (fun cdv A outer s H vs Q E hr h => ?_)
  · obtain ⟨l, xs, ks, rfl, _⟩ := h
    rfl
  · obtain ⟨l, xs, ks, rfl, hl, hxs, ok, q⟩ := h
    refine ⟨_, pss_cons (ps_set (i := 1) scPlaces.nd rfl (.inr rfl) (pe_sortSet rfl (by rfl) ms (by rfl) me (room70 hr) (pv 0)))
      (pss_one (ps_ret (pe_callTy (call_tupleF K) (by rfl) mt (by decide +kernel) (pa_cons
        (pe_lc (own := [("key", 2)]) (g := gName 2) (tt := tYes) (te := tBM K "list" (rIndexD K) (tVar 1) (tCons (tVar 2) tNil)) rfl scPlaces.nd (pi_list (pv 0))
          (blkOk_by (own := [("key", 2)]) (N := nPlaces) (sc := defScope sPlaces) (by decide +kernel))
          (fun _ _ _ _ _ => pg_name (i := 2) scPlaces.nd rfl (.inl rfl)) (fun _ _ _ _ _ => pts_nil)
          (fun _ _ _ _ _ => pe_bmK K PySem.F.plainAttrs_list PySem.F.slot_list_index PySem.F.type_list_index (mt_indexK K (room65 hr)) (pv 1) (pa_cons (pv 2) pa_nil))) pa_nil)))), ?_⟩
    refine ⟨_, rfl, l, xs, ks, rfl, hl, hxs, ok, fun S ys p hS hys np => ?_⟩
    have s1 := same_upd (o := .lst ys) np
    have h1 : SqL K (upd H p (.lst ys)) l xs := .inl (.inl (s1 _ _ hl))
    have so : StrictOn nlt ks := strict_alike ok.alike
    refine ⟨_, rfl, l, rfl, ⟨_, h1⟩, fun D hD => comp_keys (walk_list (K := K) (a := l) (xs := xs)) ((places nlt ks).map kI) (by have := hxs.length; simp [places, this]) (by have := hxs.length; have := ok.few; rw [sizeLine_eq]; omega) hD
      (fun H' s' => s'.seq h1) (fun i x H1 H2 kk hi hk s2 hy Qk hQ => ?_) (fun H' acc s' hD' hacc => ?_)⟩
    · obtain ⟨rfl, hx⟩ := hy
      obtain ⟨key, hkey, hkd⟩ := (hxs.tups (tups_same s1)).get' hx
      rw [List.getElem?_map, places, List.getElem?_map, hkey] at hk
      obtain rfl := Option.some.inj hk
      have hmem : key ∈ ks := List.mem_of_getElem? hkey
      obtain ⟨j, hj⟩ := List.getElem?_of_mem ((hS.mem key).mpr hmem)
      have hrank := rank_at so hS hj
      have hp2 := s2 _ _ (show (upd H p (.lst ys)) p = some (.lst ys) from upd_same)
      have hys2 : KDs _ S ys := (hys.tups (tups_same s1)).tups (tups_same s2)
      have hkd2 := hkd.tups (tups_same s2)
      refine ⟨rfl, _, rfl, .inl ⟨rfl, _, .inl (.inl hp2)⟩, _, rfl, p, _, key.data, NestedKey.datas S, j, key.data, rfl, rfl, .lst (.inl (.inl hp2)) hys2.dp, hkd2.dp,
        keys_shaped hys2.pure_ (Nat.le_trans (depthAll_le fun k hk => ok.dep k ((hS.mem k).mp hk)) (by decide)), key_shaped hkd2.pure_ (Nat.le_trans (ok.dep key hmem) (by decide)), by rw [datas_get, hj]; rfl, eqv_self _ hkd2.pure_, fun m z' hm hz => ?_, ?_⟩
      · rw [datas_get, Option.map_eq_some_iff] at hz
        obtain ⟨k', hk', rfl⟩ := hz
        have hpk' : pureK k' = true := by
          obtain ⟨v', _, hv'⟩ := hys2.get hk'
          exact hv'.pure_
        rw [eqv_iff hpk']
        refine decide_eq_false fun e => ?_
        subst e
        have := rank_at so hS hk'
        omega
      · refine hQ _ _ (Same.refl _) ?_
        rw [hrank]
        exact .num _
    · refine ⟨D, acc, rfl, .inl (.inl hD'), fun l' o nl hdn hcl => q _ _ ((s1.trans s').trans (same_upd nl)) ⟨l', o, rfl, hdn, hcl, ?_⟩⟩
      rw [upd_same, comp_done hacc]
/-! ### begun -/
abbrev sBegun : Stmt := topS 3
abbrev nBegun : List Str := ["web", "mark", "pegs"]
theorem scBegun : FnScope nBegun ["web"] (defScope sBegun) := ⟨rfl, rfl, rfl, by decide +kernel, rfl, by decide +kernel, by decide +kernel⟩
def spBegun : Sp := fun vs H Q _ => ∃ (W : Web) (u : V), vs = [u] ∧ KD H (kWeb W) u ∧ Fit W ∧ ∀ H' r, Same H H' → NumsAt H' (begun W) r → Q r H'
theorem depth_pair (i j : Int) : (NestedKey.tup [.num i, .num j]).depth = 1 := by simp [NestedKey.depth, NestedKey.depthAll]
theorem keysOk0 {W : Web} (F : Fit W) : KeysOk (keys0 W) where
  few := by have := F.few; simp [keys0]; omega
  tup := fun k hk => by
    obtain ⟨h, _, rfl⟩ := List.mem_map.mp hk
    exact ⟨_, _, rfl⟩
  dep := fun k hk => by
    obtain ⟨h, _, rfl⟩ := List.mem_map.mp hk
    rw [key0, depth_pair]; decide
  alike := fun k hk k' hk' => by
    obtain ⟨h, _, rfl⟩ := List.mem_map.mp hk
    obtain ⟨h', _, rfl⟩ := List.mem_map.mp hk'
    exact alike_key0 W h h'
theorem keysOkC {W : Web} (F : Fit W) (c : Nat → Nat) : KeysOk (keysC W c) where
  few := by have := F.few; simp [keysC]; omega
  tup := fun k hk => by
    obtain ⟨h, _, rfl⟩ := List.mem_map.mp hk
    exact ⟨_, _, rfl⟩
  dep := fun k hk => by
    obtain ⟨h, _, rfl⟩ := List.mem_map.mp hk
    have : NestedKey.depthAll ((pegs W h).map fun x => NestedKey.tup [.num x.2, .num (c x.1)]) ≤ 1 := depthAll_le fun k hk => by
      obtain ⟨x, _, rfl⟩ := List.mem_map.mp hk
      rw [depth_pair]; exact Nat.le_refl _
    simp only [keyC, heardK, NestedKey.depth, NestedKey.depthAll]
    omega
  alike := fun k hk k' hk' => by
    obtain ⟨h, _, rfl⟩ := List.mem_map.mp hk
    obtain ⟨h', _, rfl⟩ := List.mem_map.mp hk'
    exact alike_keyC W c h h'
theorem ok_begun {f fP : Addr} {fd fdP : FuncData} {k : Nat} (F : Fun K "begun" "begun" sBegun f fd) (FP : Fun K "places_of" "places_of" sPlaces fP fdP) (bP : Binds K fdP ["keys"] []) (gP : mg "places_of" = some (.ref fP)) (G : FnOk P w K mg base CX0 k fP fdP ["keys"] spPlaces) (ml : mg "len" = none) :
    FnOk P w K mg base CX0 (k + 1) f fd ["web"] spBegun := by
  refine F.ok scBegun (fun vs H Q E h => ?_) (fun cdv A outer s H vs Q E hr h => ?_)
  · obtain ⟨W, u, rfl, _⟩ := h
    rfl
  · obtain ⟨W, u, rfl, hu, ft, q⟩ := h
    refine ⟨_, pss_one (ps_ret (pe_call G hr (by rfl) gP FP.kp bP .nil pass0 (pa_cons
        (pe_lc (own := [("mark", 1), ("pegs", 2)]) (g := gPair K 1 2) (tt := tYes) (te := tTup (tCons (tVar 1) (tCons (tCB (rLen K) (tCons (tVar 2) tNil)) tNil))) rfl scBegun.nd (pi_tup (pv 0))
          (blkOk_by (own := [("mark", 1), ("pegs", 2)]) (N := nBegun) (sc := defScope sBegun) (by decide +kernel))
          (fun _ _ _ _ _ => pg_tup rfl (pgs_cons (pg_name (i := 1) scBegun.nd rfl (.inl rfl)) (pgs_cons (pg_name (i := 2) scBegun.nd rfl (.inl rfl)) pgs_nil))) (fun _ _ _ _ _ => pts_nil)
          (fun _ _ _ _ _ => pe_tup (pa_cons (pv 1) (pa_cons (pe_callB (call_lenK K) (by rfl) ml PySem.boot_len (pa_cons (pv 2) pa_nil)) pa_nil)))) pa_nil))), ?_⟩
    obtain ⟨a, xs, rfl, ha, hxs, hlen⟩ := hu.webAt
    refine ⟨_, rfl, a, rfl, ⟨_, .inl ha⟩, fun D hD => comp_keys (walk_tup (K := K) (a := a) (xs := xs)) (keys0 W) (by simp [keys0, hlen]) (by have := ft.few; rw [sizeLine_eq]; omega) hD
      (fun H' s' => .inl (rd_same s' ha)) (fun i x H1 H2 kk hi hk s1 hy Qk hQ => ?_) (fun H' acc s' hD' hacc => ?_)⟩
    · obtain ⟨rfl, hx⟩ := hy
      obtain ⟨hiW, hkx⟩ := hxs.web hx
      have ek : (keys0 W)[i]? = some (key0 W i) := by simp [keys0, hiW]
      rw [ek] at hk
      obtain rfl := Option.some.inj hk
      obtain ⟨b, d, ys, rfl, hb, hd, hys, hyl⟩ := hkx.handAt
      refine ⟨b, _, rfl, .inl (rd_same s1 hb), rfl, _, _, rfl, _, _, rfl, rfl, rfl, _, rfl, _, rfl, d, ys, rfl, .inr (.inl (rd_same s1 hd)), ?_⟩
      refine ⟨by show 2 ≤ sizeLine; decide, fun p np => hQ _ _ (same_upd np) (.tup (.inl upd_same) (.cons (.num _) (.cons ?_ .nil)))⟩
      rw [hyl]
      exact .num _
    · exact ⟨D, acc, keys0 W, rfl, hD', hacc, keysOk0 ft, fun H2 r s2 hn => q _ _ (s'.trans s2) hn⟩
/-! ### onward -/
abbrev sOnward : Stmt := topS 4
abbrev nOnward : List Str := ["web", "now", "hand", "number"]
theorem scOnward : FnScope nOnward ["web", "now"] (defScope sOnward) := ⟨rfl, rfl, rfl, by decide +kernel, rfl, by decide +kernel, by decide +kernel⟩
def spOnward : Sp := fun vs H Q _ => ∃ (W : Web) (c : List Nat) (u v : V), vs = [u, v] ∧ KD H (kWeb W) u ∧ NumsAt H c v ∧ c.length = W.length ∧ Fit W ∧ ∀ H' r, Same H H' → NumsAt H' (onward W c) r → Q r H'
theorem ok_onward {f fP fH : Addr} {fd fdP fdH : FuncData} {k : Nat} (F : Fun K "onward" "onward" sOnward f fd) (FP : Fun K "places_of" "places_of" sPlaces fP fdP) (bP : Binds K fdP ["keys"] []) (gP : mg "places_of" = some (.ref fP)) (G : FnOk P w K mg base CX0 k fP fdP ["keys"] spPlaces)
    (FH : Fun K "heard_by" "heard_by" sHeard fH fdH) (bH : Binds K fdH ["hand", "now"] []) (gH : mg "heard_by" = some (.ref fH)) (GH : FnOk P w K mg base CX0 k fH fdH ["hand", "now"] spHeard) (mz : mg "zip" = none) :
    FnOk P w K mg base CX0 (k + 1) f fd ["web", "now"] spOnward := by
  refine F.ok scOnward (fun vs H Q E h => ?_) (fun cdv A outer s H vs Q E hr h => ?_)
  · obtain ⟨W, c, u, v, rfl, _⟩ := h
    rfl
  · obtain ⟨W, c, u, v, rfl, hu, hv, hcl, ft, q⟩ := h
    refine ⟨_, pss_one (ps_ret (pe_call G hr (by rfl) gP FP.kp bP .nil pass0 (pa_cons
        (pe_lc (own := [("hand", 2), ("number", 3)]) (g := gPair K 2 3) (tt := tYes) (te := tTup (tCons (tVar 3) (tCons (tCall spHeard [] E0 (tCons (tVar 2) (tCons (tVar 1) tNil))) tNil))) rfl scOnward.nd (RZ.pi_zipA (by rfl) mz (pa_cons (pv 0) (pa_cons (pv 1) pa_nil)))
          (blkOk_by (own := [("hand", 2), ("number", 3)]) (N := nOnward) (sc := defScope sOnward) (by decide +kernel))
          (fun _ _ _ _ _ => pg_tup rfl (pgs_cons (pg_name (i := 2) scOnward.nd rfl (.inl rfl)) (pgs_cons (pg_name (i := 3) scOnward.nd rfl (.inl rfl)) pgs_nil))) (fun _ _ _ _ _ => pts_nil)
          (fun _ _ _ _ _ => pe_tup (pa_cons (pv 3) (pa_cons (pe_call GH hr (by rfl) gH FH.kp bH .nil pass0 (pa_cons (pv 2) (pa_cons (pv 1) pa_nil))) pa_nil)))) pa_nil))), ?_⟩
    obtain ⟨a, xs, rfl, ha, hxs, hlen⟩ := hu.webAt
    obtain ⟨b, rfl, hb⟩ := hv.sq (K := K)
    refine ⟨_, rfl, _, rfl, a, b, xs, _, rfl, .inr ⟨.inl ha, hb, fun D hD => comp_keys (walk_zipT (K := K) (a := a) (b := b) (xs := xs) (ys := c.map fun (i : Nat) => V.int i) (n := W.length) (by simp [hlen, hcl])) (keysC W (at0 c)) (by simp [keysC]) (by have := ft.few; rw [sizeLine_eq]; omega) hD
      (fun H' s' => ?_) (fun i x H1 H2 kk hi hk s1 hy Qk hQ => ?_) (fun H' acc s' hD' hacc => ?_)⟩⟩
    · obtain ⟨b', e, hb'⟩ := (hv.same s').sq (K := K)
      cases e
      exact ⟨.inl (rd_same s' ha), hb'⟩
    · obtain ⟨T, x1, x2, rfl, nT, rfl, hx1, hx2⟩ := hy
      obtain ⟨_, hkx⟩ := hxs.web hx1
      have ek : (keysC W (at0 c))[i]? = some (keyC W (at0 c) i) := by simp [keysC, hi]
      rw [ek] at hk
      obtain rfl := Option.some.inj hk
      dsimp only at hx2
      rw [List.getElem?_map, at0_get (by omega)] at hx2
      obtain rfl := Option.some.inj hx2
      have sT := same_upd (o := .tup [x1, .int (at0 c i : Nat)]) nT
      have s2 := s1.trans sT
      refine ⟨T, _, rfl, .inl (.inl upd_same), rfl, _, _, rfl, _, _, rfl, rfl, rfl, _, rfl, _, rfl, _, rfl, mk W i, pegs W i, c, _, _, rfl, hkx.tups (tups_same s2), hv.same s2, fun z hz => by rw [hcl]; exact (ft.inr i z hz).1, Nat.lt_of_le_of_lt (ft.plen i) (by decide), fun H4 r s4 hr4 => ?_⟩
      exact ⟨by show 2 ≤ sizeLine; decide, fun p np => hQ _ _ ((sT.trans s4).trans (same_upd np)) (.tup (.inl upd_same) (.cons (.num _) (.cons (hr4.tups (tups_new np)) .nil)))⟩
    · exact ⟨D, acc, keysC W (at0 c), rfl, hD', hacc, keysOkC ft _, fun H2 r s2 hn => q _ _ (s'.trans s2) hn⟩
/-! ### numbers_at -/
abbrev sNumAt : Stmt := topS 5
abbrev nNumAt : List Str := ["web", "turn", "now", "k"]
theorem scNumAt : FnScope nNumAt ["web", "turn"] (defScope sNumAt) := ⟨rfl, rfl, rfl, by decide +kernel, rfl, by decide +kernel, by decide +kernel⟩
def spNumAt : Sp := fun vs H Q _ => ∃ (W : Web) (t : Nat) (u : V), vs = [u, .int (t : Nat)] ∧ KD H (kWeb W) u ∧ Fit W ∧ t < 1000 ∧ ∀ H' r, Same H H' → NumsAt H' (col W t) r → Q r H'
theorem ok_numAt {f fB fO : Addr} {fd fdB fdO : FuncData} {k : Nat} (F : Fun K "numbers_at" "numbers_at" sNumAt f fd) (FB : Fun K "begun" "begun" sBegun fB fdB) (bB : Binds K fdB ["web"] []) (gB : mg "begun" = some (.ref fB)) (GB : FnOk P w K mg base CX0 k fB fdB ["web"] spBegun)
    (FO : Fun K "onward" "onward" sOnward fO fdO) (bO : Binds K fdO ["web", "now"] []) (gO : mg "onward" = some (.ref fO)) (GO : FnOk P w K mg base CX0 k fO fdO ["web", "now"] spOnward) (mr : mg "range" = none) :
    FnOk P w K mg base CX0 (k + 1) f fd ["web", "turn"] spNumAt := by
  refine F.ok scNumAt (fun vs H Q E h => ?_) (fun cdv A outer s H vs Q E hr h => ?_)
  · obtain ⟨W, t, u, rfl, _⟩ := h
    rfl
  · obtain ⟨W, t, u, rfl, hu, ft, ht, q⟩ := h
    refine ⟨_, pss_cons (ps_set (i := 2) scNumAt.nd rfl (.inl rfl) (pe_call GB hr (by rfl) gB FB.kp bB .nil pass0 (pa_cons (pv 0) pa_nil)))
      (pss_cons (ps_for PassesOwn.never rfl (pi_range1 (by rfl) mr (pa_cons (pv 1) pa_nil)) (pg_name (i := 3) scNumAt.nd rfl (.inl rfl))
        (pss_one (ps_set (i := 2) scNumAt.nd rfl (.inl rfl) (pe_call GO hr (by rfl) gO FO.kp bO .nil pass0 (pa_cons (pv 0) (pa_cons (pv 2) pa_nil))))))
      (pss_one (ps_ret (pv 2)))), ?_⟩
    refine ⟨_, rfl, W, u, rfl, hu, ft, fun H1 r s1 h1 => ?_⟩
    refine ⟨_, rfl, t, rfl, by omega, by omega, for_range (lo := 0) (n := (t : Int).toNat) (fun i σ H' => ∃ r z, σ = [some u, some (.int (t : Nat)), some r, z] ∧ Same H H' ∧ NumsAt H' (col W i) r) ⟨r, none, rfl, s1, h1⟩ (fun i σ H' hi hp => ?_) (fun σ H' hp => ?_)⟩
    · obtain ⟨r, z, rfl, s2, h2⟩ := hp
      refine ⟨_, rfl, _, rfl, W, col W i, u, r, rfl, hu.tups (tups_same s2), h2, col_len W i, ft, fun H3 r3 s3 h3 => ?_⟩
      exact ⟨r3, _, rfl, s2.trans s3, h3⟩
    · obtain ⟨r, z, rfl, s2, h2⟩ := hp
      have e : (t : Int).toNat = t := by omega
      rw [e] at h2
      exact ⟨_, rfl, q _ _ s2 h2⟩
/-! ### stays_from -/
abbrev sStays : Stmt := topS 6
abbrev nStays : List Str := ["web", "now", "after", "turn"]
theorem scStays : FnScope nStays ["web"] (defScope sStays) := ⟨rfl, rfl, rfl, by decide +kernel, rfl, by decide +kernel, by decide +kernel⟩
def spStays : Sp := fun vs H Q _ => ∃ (W : Web) (u : V), vs = [u] ∧ KD H (kWeb W) u ∧ Fit W ∧ ∀ H' (t : Nat), Same H H' → (∀ s, s < t → col W (s + 1) ≠ col W s) → col W (t + 1) = col W t → Q (.int (t : Nat)) H'
theorem nums_key_eq {c d : List Nat} : (NestedKey.tup (c.map fun (i : Nat) => .num i) = NestedKey.tup (d.map fun (i : Nat) => .num i)) ↔ c = d := by
  constructor
  · intro e
    injection e with e
    have : ∀ {c d : List Nat}, c.map (fun (i : Nat) => NestedKey.num i) = d.map (fun (i : Nat) => NestedKey.num i) → c = d := by
      intro c
      induction c with
      | nil => intro d e; cases d with
        | nil => rfl
        | cons y d => cases e
      | cons x c ih => intro d e; cases d with
        | nil => cases e
        | cons y d =>
          simp only [List.map_cons, List.cons.injEq, NestedKey.num.injEq] at e
          rw [ih e.2, show x = y by omega]
    exact this e
  · rintro rfl; rfl
theorem nums_depth (c : List Nat) : (NestedKey.tup (c.map fun (i : Nat) => .num i)).depth ≤ 64 := by
  have : NestedKey.depthAll (c.map fun (i : Nat) => NestedKey.num i) ≤ 0 := depthAll_le fun k hk => by
    obtain ⟨x, _, rfl⟩ := List.mem_map.mp hk
    simp [NestedKey.depth]
  simp only [NestedKey.depth]
  omega
theorem ok_stays {f fB fO : Addr} {fd fdB fdO : FuncData} {k : Nat} (F : Fun K "stays_from" "stays_from" sStays f fd) (FB : Fun K "begun" "begun" sBegun fB fdB) (bB : Binds K fdB ["web"] []) (gB : mg "begun" = some (.ref fB)) (GB : FnOk P w K mg base CX0 k fB fdB ["web"] spBegun)
    (FO : Fun K "onward" "onward" sOnward fO fdO) (bO : Binds K fdO ["web", "now"] []) (gO : mg "onward" = some (.ref fO)) (GO : FnOk P w K mg base CX0 k fO fdO ["web", "now"] spOnward) :
    FnOk P w K mg base CX0 (k + 1) f fd ["web"] spStays := by
  refine F.ok scStays (fun vs H Q E h => ?_) (fun cdv A outer s H vs Q E hr h => ?_)
  · obtain ⟨W, u, rfl, _⟩ := h
    rfl
  · obtain ⟨W, u, rfl, hu, ft, q⟩ := h
    refine ⟨_, pss_cons (ps_set (i := 1) scStays.nd rfl (.inl rfl) (pe_call GB hr (by rfl) gB FB.kp bB .nil pass0 (pa_cons (pv 0) pa_nil)))
      (pss_cons (ps_set (i := 2) scStays.nd rfl (.inl rfl) (pe_call GO hr (by rfl) gO FO.kp bO .nil pass0 (pa_cons (pv 0) (pa_cons (pv 1) pa_nil))))
      (pss_cons (ps_set (i := 3) scStays.nd rfl (.inl rfl) pe_int)
      (pss_cons (ps_while PassesOwn.never (pt_cmpR (op_neD hr.units) (pv 2) (pv 1) (nomark _))
        (pss_cons (ps_set (i := 1) scStays.nd rfl (.inl rfl) (pv 2))
        (pss_cons (ps_set (i := 2) scStays.nd rfl (.inl rfl) (pe_call GO hr (by rfl) gO FO.kp bO .nil pass0 (pa_cons (pv 0) (pa_cons (pv 1) pa_nil))))
        (pss_one (ps_set (i := 3) scStays.nd rfl (.inl rfl) (pe_op op_add (pv 3) pe_int))))))
      (pss_one (ps_ret (pv 3)))))), ?_⟩
    refine ⟨_, rfl, W, u, rfl, hu, ft, fun H1 r1 s1 h1 => ?_⟩
    refine ⟨_, rfl, _, rfl, W, col W 0, u, r1, rfl, hu.tups (tups_same s1), h1, col_len W 0, ft, fun H2 r2 s2 h2 => ?_⟩
    refine ⟨fun m σ H' => ∃ t a b, m = W.length - t ∧ σ = [some u, some a, some b, some (.int (t : Nat))] ∧ Same H H' ∧ NumsAt H' (col W t) a ∧ NumsAt H' (col W (t + 1)) b ∧ ∀ s, s < t → col W (s + 1) ≠ col W s, ⟨_, 0, r1, r2, rfl, rfl, s1.trans s2, h1.same s2, h2, fun s hs => absurd hs (Nat.not_lt_zero _)⟩, ?_⟩
    rintro m σ H' ⟨t, a, b, rfl, rfl, s3, ha, hb, hs⟩
    have hne : (!PyData.eqv (NestedKey.tup ((col W (t + 1)).map fun (i : Nat) => .num i)).data (NestedKey.tup ((col W t).map fun (i : Nat) => .num i)).data) = decide (col W (t + 1) ≠ col W t) := by
      rw [eqv_iff hb.kd.pure_]
      simp only [nums_key_eq]
      by_cases e : col W (t + 1) = col W t <;> simp [e]
    refine ⟨_, rfl, _, rfl, _, _, hb.kd.dp, ha.kd.dp, key_shaped hb.kd.pure_ (nums_depth _), key_shaped ha.kd.pure_ (nums_depth _), _, rfl, ?_⟩
    rw [hne]
    refine ite2 (fun c => ?_) (fun c => ?_)
    · have hcc := of_decide_eq_true c
      refine ⟨fun σ' H2 => ∃ a b, σ' = [some u, some a, some b, some (.int ((t + 1 : Nat) : Nat))] ∧ Same H H2 ∧ NumsAt H2 (col W (t + 1)) a ∧ NumsAt H2 (col W (t + 2)) b, fun σ' H2 hN => ?_, ?_⟩
      · obtain ⟨a', b', rfl, s4, ha', hb'⟩ := hN
        have hs' : ∀ s, s < t + 1 → col W (s + 1) ≠ col W s := fun s h => by
          rcases Nat.lt_or_ge s t with z | z
          · exact hs s z
          · have e : s = t := by omega
            rw [e]; exact hcc
        have := col_turns ft.pos hs'
        exact ⟨W.length - (t + 1), by omega, t + 1, a', b', rfl, rfl, s4, ha', hb', hs'⟩
      · refine ⟨_, rfl, _, rfl, _, rfl, W, col W (t + 1), u, b, rfl, hu.tups (tups_same s3), hb, col_len W _, ft, fun H3 r3 s4 h3 => ?_⟩
        exact ⟨_, rfl, _, _, rfl, rfl, b, r3, rfl, s3.trans s4, hb.same s4, h3⟩
    · have hcc : col W (t + 1) = col W t := Classical.byContradiction fun e => c (decide_eq_true e)
      exact ⟨_, rfl, q _ _ s3 hs hcc⟩
end
end Nl
end

section
set_option Elab.async false
set_option linter.all false
set_option maxRecDepth 100000
namespace Nl
open PySem PySem.Spec PyProof.Rows L2
section
variable {P : Program} {w : World} {K : PySem.W.Frag} {mg : Str → Option Value} {base : Heap}
/-! ### led_by -/
abbrev sLed : Stmt := topS 8
abbrev nLed : List Str := ["web", "row", "found", "number", "mark", "pegs", "hand", "peg"]
theorem scLed : FnScope nLed ["web", "row"] (defScope sLed) := ⟨rfl, rfl, rfl, by decide +kernel, rfl, by decide +kernel, by decide +kernel⟩
def spLed : Sp := fun vs H Q _ => ∃ (W : Web) (c : List Nat) (u v : V), vs = [u, v] ∧ KD H (kWeb W) u ∧ NumsAt H c v ∧ c.length = W.length ∧ Nums W.length (at0 c) ∧ Fit W ∧
  ∀ H' a xs, Same H H' → H' a = some (.tup xs) → xs.length = top W.length (at0 c) + 1 → Q (.ref a) H'
theorem first_at {c : List Nat} {n v : Nat} (hl : c.length = n) : ∀ {j : Nat}, j < n → at0 c j = v → ∃ j, j < n ∧ c[j]? = some v ∧ ∀ m, m < j → c[m]? ≠ some v := by
  intro j
  induction j using Nat.strongRecOn with
  | ind j ih =>
    intro hj e
    rcases Classical.em (∃ m, m < j ∧ c[m]? = some v) with ⟨m, hm, em⟩ | h
    · refine ih m hm (by omega) ?_
      unfold at0
      rw [List.getD_eq_getElem?_getD, em]
      rfl
    · exact ⟨j, hj, by rw [at0_get (by omega), e], fun m hm em => h ⟨m, hm, em⟩⟩
theorem ok_led {f : Addr} {fd : FuncData} {k : Nat} (F : Fun K "led_by" "led_by" sLed f fd) (mt : mg "tuple" = none) (mm : mg "max" = none) (mr : mg "range" = none) : FnOk P w K mg base CX0 (k + 1) f fd ["web", "row"] spLed := by
  refine F.ok scLed (fun vs H Q E h => ?_) (fun cdv A outer s H vs Q E hr h => ?_)
  · obtain ⟨W, c, u, v, rfl, _⟩ := h
    rfl
  · obtain ⟨W, c, u, v, rfl, hu, hv, hcl, hN, ft, q⟩ := h
    refine ⟨_, pss_cons (ps_set (i := 2) scLed.nd rfl (.inl rfl) (pe_lst pa_nil))
      (pss_cons (ps_for PassesOwn.never rfl (pi_range1 (by rfl) mr (pa_cons (pe_op op_add (pe_callB (cr_maxT rfl) (by rfl) mm (by decide +kernel) (pa_cons (pv 1) pa_nil)) pe_int) pa_nil)) (pg_name (i := 3) scLed.nd rfl (.inl rfl))
        (pss_cons (ps_asg (pe_ix ix_tup (pv 0) (pe_tupIx (pv 1) (pv 3)) (fun _ _ => rfl)) (pg_tup rfl (pgs_cons (pg_name (i := 4) scLed.nd rfl (.inl rfl)) (pgs_cons (pg_name (i := 5) scLed.nd rfl (.inl rfl)) pgs_nil))))
        (pss_one (ps_expr (pe_bm PySem.F.plainAttrs_list PySem.F.slot_list_append PySem.F.type_list_append mt_append (pv 2) (pa_cons (pe_tup (pa_cons (pv 4) (pa_cons
          (pe_callTy call_tuple_of (by rfl) mt (by decide +kernel) (pa_cons (pe_lc (own := [("hand", 6), ("peg", 7)]) (g := gPair K 6 7) (tt := tYes) (te := tTup (tCons (tOp (rIxT K) (tVar 1) (tVar 6)) (tCons (tVar 7) tNil))) rfl scLed.nd (pi_tup (pv 5))
            (blkOk_by (own := [("hand", 6), ("peg", 7)]) (N := nLed) (sc := defScope sLed) (by decide +kernel))
            (fun _ _ _ _ _ => pg_tup rfl (pgs_cons (pg_name (i := 6) scLed.nd rfl (.inl rfl)) (pgs_cons (pg_name (i := 7) scLed.nd rfl (.inl rfl)) pgs_nil))) (fun _ _ _ _ _ => pts_nil)
            (fun _ _ _ _ _ => pe_tup (pa_cons (pe_ix (ixT K) (pv 1) (pv 6) (fun _ _ => rfl)) (pa_cons (pv 7) pa_nil)))) pa_nil)) pa_nil))) pa_nil))))))
      (pss_one (ps_ret (pe_callTy call_tuple_of (by rfl) mt (by decide +kernel) (pa_cons (pv 2) pa_nil))))), ?_⟩
    obtain ⟨a, xs, rfl, ha, hxs, hlen⟩ := hu.webAt
    refine ⟨Nat.zero_le _, fun o no => ?_⟩
    have s1 : Same H (upd H o (.lst [])) := same_upd no
    obtain ⟨b, eb, hb⟩ := (hv.same s1).sq (K := K)
    have hpos : 0 < c.length := by rw [hcl]; exact ft.pos
    refine ⟨v, rfl, b, c.map fun (i : Nat) => (i : Int), by rw [eb], by rw [List.map_map]; exact hb, by rw [List.length_map]; exact hpos, fun m hm hmax => ?_⟩
    have em : m = (top W.length (at0 c) : Nat) := by
      obtain ⟨i, hi, rfl⟩ := List.mem_map.mp hm
      obtain ⟨j, hj⟩ := List.getElem?_of_mem hi
      have hjl : j < c.length := (List.getElem?_eq_some_iff.mp hj).1
      have e1 : at0 c j = i := by rw [at0_get hjl] at hj; exact Option.some.inj hj
      have h1 := le_top (c := at0 c) (n := W.length) (i := j) (by omega)
      obtain ⟨t, ht, et⟩ := top_hit (c := at0 c) (n := W.length) ft.pos
      have h2 := hmax (at0 c t : Nat) (List.mem_map.mpr ⟨_, List.mem_of_getElem? (at0_get (c := c) (i := t) (by omega)), rfl⟩)
      rw [et] at h2
      omega
    subst em
    have htop := hN.top_lt ft.pos
    have hfew := ft.few
    refine ⟨_, _, rfl, rfl, _, rfl, by omega, by omega, for_range (lo := 0) (n := (((top W.length (at0 c) : Nat) : Int) + 1).toNat) (fun i σ H' => ∃ z3 z4 z5 z6 z7 acc, σ = [some (.ref a), some v, some (.ref o), z3, z4, z5, z6, z7] ∧ Same H H' ∧ H' o = some (.lst acc) ∧ acc.length = i)
      ⟨none, none, none, none, none, [], rfl, s1, upd_same, rfl⟩ (fun i σ H' hi hp => ?_) (fun σ H' hp => ?_)⟩
    · obtain ⟨z3, z4, z5, z6, z7, acc, rfl, s2, ho, hal⟩ := hp
      have hi' : i ≤ top W.length (at0 c) := by omega
      obtain ⟨t, ht, et⟩ := top_hit (c := at0 c) (n := W.length) ft.pos
      obtain ⟨j0, hj0, ej0⟩ := hN.hit t ht i (by omega)
      obtain ⟨j, hj, ej, hfirst⟩ := first_at hcl hj0 ej0
      obtain ⟨x, hx, hkx⟩ := hxs.web' hj
      obtain ⟨d, e, ys, rfl, hd, he, hys, hyl⟩ := hkx.handAt
      have hv2 := hv.same s2
      refine ⟨_, rfl, _, rfl, c, hv2, _, rfl, i, j, by rw [Int.zero_add], hv2, ej, hfirst, a, xs, _, _, rfl, rfl, .inl (rd_same s2 ha), atI_nat hx, d, _, rfl, .inl (rd_same s2 hd), rfl, _, _, rfl, _, _, rfl, rfl, ?_⟩
      refine ⟨_, rfl, .inl ⟨rfl, _, .inl (.inl ho)⟩, _, rfl, _, rfl, e, rfl, ⟨_, .inl (rd_same s2 he)⟩, fun D hD => comp_keys (walk_tup (K := K) (a := e) (xs := ys)) ((pegs W j).map fun x => .tup [kI (at0 c x.1), kI x.2]) (by simp [hyl]) (by have := ft.plen j; rw [sizeLine_eq]; omega) hD
        (fun H2 s' => .inl (rd_same (s2.trans s') he)) (fun i2 x H2 H3 kk hi2 hk s3 hy Qk hQ => ?_) (fun H2 acc2 s' hD' hacc2 => ?_)⟩
      · obtain ⟨rfl, hx2⟩ := hy
        obtain ⟨z, hz, hkx2⟩ := hys.pegs hx2
        rw [List.getElem?_map, hz] at hk
        obtain rfl := Option.some.inj hk
        obtain ⟨g, rfl, hg⟩ := hkx2.pairAt
        have s4 := s2.trans s3
        have hzc : z.1 < c.length := by rw [hcl]; exact (ft.inr j z (List.mem_of_getElem? hz)).1
        obtain ⟨b', eb', hb'⟩ := (hv.same s4).sq (K := K)
        refine ⟨g, _, rfl, .inl (rd_same s4 hg), rfl, _, _, rfl, _, _, rfl, rfl, rfl, _, rfl, _, rfl, b', _, _, .int (at0 c z.1 : Nat), eb', rfl, hb', atI_nat (by rw [List.getElem?_map, at0_get hzc]; rfl), _, rfl, ?_⟩
        exact ⟨by show 2 ≤ sizeLine; decide, fun p np => hQ _ _ (same_upd np) (.tup (.inl upd_same) (.cons (.num _) (.cons (.num _) .nil)))⟩
      · refine ⟨D, acc2, rfl, .inl ⟨.inl (.inl hD'), fun l nl => ?_⟩⟩
        refine ⟨by show 2 ≤ sizeLine; decide, fun p np => ?_⟩
        have s5 := (s2.trans s').trans ((same_upd (o := .tup acc2) nl).trans (same_upd (o := .tup [.int (mk W j), .ref l]) np))
        have ho5 : (upd (upd H2 l (.tup acc2)) p (.tup [.int (mk W j), .ref l])) o = some (.lst acc) := (same_upd nl).trans (same_upd np) _ _ (s' _ _ ho)
        refine ⟨o, acc, _, rfl, rfl, ho5, by rw [sizeLine_eq]; omega, ?_⟩
        exact ⟨_, _, _, _, _, _, rfl, same_over no s5, upd_same, by rw [List.length_append, hal]; rfl⟩
    · obtain ⟨z3, z4, z5, z6, z7, acc, rfl, s2, ho, hal⟩ := hp
      refine ⟨_, rfl, o, acc, rfl, .inl ⟨.inl (.inl ho), fun l nl => q _ l acc (s2.trans (same_upd nl)) upd_same (by omega)⟩⟩
/-! ### beneath -/
abbrev sBeneath : Stmt := topS 9
abbrev nBeneath : List Str := ["web", "now"]
theorem scBeneath : FnScope nBeneath ["web"] (defScope sBeneath) := ⟨rfl, rfl, rfl, by decide +kernel, rfl, by decide +kernel, by decide +kernel⟩
def spBeneath : Sp := fun vs H Q _ => ∃ (W : Web) (u : V), vs = [u] ∧ KD H (kWeb W) u ∧ Fit W ∧
  ∀ H' a b xs z, Same H H' → H' a = some (.tup [.ref b, z]) → H' b = some (.tup xs) → xs.length = top W.length (at0 (col W W.length)) + 1 → Q (.ref a) H'
theorem ok_beneath {f fN fS fL : Addr} {fd fdN fdS fdL : FuncData} {k : Nat} (F : Fun K "beneath" "beneath" sBeneath f fd) (FN : Fun K "numbers_at" "numbers_at" sNumAt fN fdN) (bN : Binds K fdN ["web", "turn"] []) (gN : mg "numbers_at" = some (.ref fN)) (GN : FnOk P w K mg base CX0 k fN fdN ["web", "turn"] spNumAt)
    (FS : Fun K "stays_from" "stays_from" sStays fS fdS) (bS : Binds K fdS ["web"] []) (gS : mg "stays_from" = some (.ref fS)) (GS : FnOk P w K mg base CX0 k fS fdS ["web"] spStays)
    (FL : Fun K "led_by" "led_by" sLed fL fdL) (bL : Binds K fdL ["web", "row"] []) (gL : mg "led_by" = some (.ref fL)) (GL : FnOk P w K mg base CX0 k fL fdL ["web", "row"] spLed) :
    FnOk P w K mg base CX0 (k + 1) f fd ["web"] spBeneath := by
  refine F.ok scBeneath (fun vs H Q E h => ?_) (fun cdv A outer s H vs Q E hr h => ?_)
  · obtain ⟨W, u, rfl, _⟩ := h
    rfl
  · obtain ⟨W, u, rfl, hu, ft, q⟩ := h
    refine ⟨_, pss_cons (ps_set (i := 1) scBeneath.nd rfl (.inl rfl) (pe_call GN hr (by rfl) gN FN.kp bN .nil pass0 (pa_cons (pv 0) (pa_cons (pe_call GS hr (by rfl) gS FS.kp bS .nil pass0 (pa_cons (pv 0) pa_nil)) pa_nil))))
      (pss_one (ps_ret (pe_tup (pa_cons (pe_call GL hr (by rfl) gL FL.kp bL .nil pass0 (pa_cons (pv 0) (pa_cons (pv 1) pa_nil))) (pa_cons (pv 1) pa_nil))))), ?_⟩
    refine ⟨_, rfl, _, rfl, W, u, rfl, hu, ft, fun H1 t s1 hs he => ?_⟩
    have htl := col_turns ft.pos hs
    have hfew := ft.few
    refine ⟨W, t, u, rfl, hu.tups (tups_same s1), ft, by omega, fun H2 r s2 hr2 => ?_⟩
    rw [col_first ft.pos hs he] at hr2
    refine ⟨_, rfl, _, rfl, W, _, u, r, rfl, hu.tups (tups_same (s1.trans s2)), hr2, col_len W _, nums_col W _, ft, fun H3 b xs s3 hb hl => ?_⟩
    exact ⟨_, rfl, by show 2 ≤ sizeLine; decide, fun p np => q _ p b xs r (((s1.trans s2).trans s3).trans (same_upd np)) upd_same (same_upd np _ _ hb) hl⟩
/-! ### is_own -/
abbrev sOwn : Stmt := topS 10
theorem scOwn : FnScope ["web"] ["web"] (defScope sOwn) := ⟨rfl, rfl, rfl, by decide +kernel, rfl, by decide +kernel, by decide +kernel⟩
def spOwn : Sp := fun vs H Q _ => ∃ (W : Web) (u : V), vs = [u] ∧ KD H (kWeb W) u ∧ Fit W ∧ ∀ H', Same H H' → Q (.bl (isOwn W)) H'
theorem ok_own {f fB : Addr} {fd fdB : FuncData} {k : Nat} (F : Fun K "is_own" "is_own" sOwn f fd) (FB : Fun K "beneath" "beneath" sBeneath fB fdB) (bB : Binds K fdB ["web"] []) (gB : mg "beneath" = some (.ref fB)) (GB : FnOk P w K mg base CX0 k fB fdB ["web"] spBeneath) (ml : mg "len" = none) :
    FnOk P w K mg base CX0 (k + 1) f fd ["web"] spOwn := by
  refine F.ok scOwn (fun vs H Q E h => ?_) (fun cdv A outer s H vs Q E hr h => ?_)
  · obtain ⟨W, u, rfl, _⟩ := h
    rfl
  · obtain ⟨W, u, rfl, hu, ft, q⟩ := h
    refine ⟨_, pss_one (ps_ret (pe_cmpR op_eq (pe_callB (call_lenK K) (by rfl) ml PySem.boot_len (pa_cons (pe_ix ix_tup (pe_call GB hr (by rfl) gB FB.kp bB .nil pass0 (pa_cons (pv 0) pa_nil)) pe_int (fun _ _ => rfl)) pa_nil))
      (pe_callB (call_lenK K) (by rfl) ml PySem.boot_len (pa_cons (pv 0) pa_nil)) (nomark _))), ?_⟩
    refine ⟨_, rfl, W, u, rfl, hu, ft, fun H1 a b xs z s1 ha hb hl => ?_⟩
    obtain ⟨d, ys, rfl, hd, hys, hlen⟩ := (hu.tups (tups_same s1)).webAt
    refine ⟨a, _, 0, _, rfl, rfl, .inl (.inl ha), atI_nat (j := 0) rfl, b, xs, rfl, .inr (.inl (.inl hb)), _, rfl, d, ys, rfl, .inr (.inl hd), rfl, ?_⟩
    have e : decide (V.int (xs.length : Nat) = V.int (ys.length : Nat)) = isOwn W := by
      rw [hl, hlen]
      unfold isOwn
      by_cases c : top W.length (at0 (col W W.length)) + 1 = W.length
      · rw [c]; simp
      · rw [beq_eq_false_iff_ne.mpr c]
        refine decide_eq_false fun z => c ?_
        injection z with z
        omega
    show Q (.bl (decide (V.int (xs.length : Nat) = V.int (ys.length : Nat)))) _
    rw [e]
    exact q _ s1
end
end Nl
end

section
set_option Elab.async false
set_option linter.all false
set_option maxRecDepth 100000
namespace Nl
open PySem PySem.Spec PyProof.Rows L2
theorem putK_len {κ : Type} [DecidableEq κ] (kvs : List (κ × V)) (k : κ) (v : V) : (putK kvs k v).length ≤ kvs.length + 1 := by
  unfold putK
  split <;> simp
theorem Fit.ren {W : Web} (F : Fit W) {r : List Nat} (h : IsPerm r W.length) : Fit (Nl.ren W r) where
  pos := by rw [ren_len]; exact F.pos
  few := by rw [ren_len]; exact F.few
  plen := ren_plen h F.plen
  inr := (ren_iso F.inr h).inr'
theorem Fit.mkd {W : Web} (F : Fit W) (hd : Nat) (m : Int) : Fit (Nl.mkd W hd m) where
  pos := by rw [mkd_len]; exact F.pos
  few := by rw [mkd_len]; exact F.few
  plen := fun h => by rw [mkd_pegs]; exact F.plen h
  inr := mkd_inR F.inr hd m
section
variable {P : Program} {w : World} {K : PySem.W.Frag} {mg : Str → Option Value} {base : Heap}
/-! ### renamed -/
abbrev sRen : Stmt := topS 12
abbrev nRen : List Str := ["web", "row", "found", "h", "mark", "pegs", "g", "q"]
theorem scRen : FnScope nRen ["web", "row"] (defScope sRen) := ⟨rfl, rfl, rfl, by decide +kernel, rfl, by decide +kernel, by decide +kernel⟩
/-- the slots beyond those of the parameters -/
def spRen : Sp := fun vs H Q _ => ∃ (W : Web) (r : List Nat) (u v : V), vs = [u, v] ∧ KD H (kWeb W) u ∧ KD H (kNums r) v ∧ IsPerm r W.length ∧ Fit W ∧ ∀ H' z, Same H H' → KD H' (kWeb (ren W r)) z → Q z H'
theorem KD.numsAt {H : Hp} {r : List Nat} {v : V} (h : KD H (kNums r) v) : ∃ b, v = .ref b ∧ Rd H b (.tup (r.map fun (i : Nat) => V.int i)) := by
  obtain ⟨b, xs, rfl, h1, h2⟩ := h.ref
  rw [comp_done h2] at h1
  exact ⟨b, rfl, h1⟩
theorem ok_ren {f : Addr} {fd : FuncData} {k : Nat} (F : Fun K "renamed" "renamed" sRen f fd) (mt : mg "tuple" = none) (me : mg "enumerate" = none) (mr : mg "range" = none) (ml : mg "len" = none) : FnOk P w K mg base CX0 (k + 1) f fd ["web", "row"] spRen := by
  refine F.ok scRen (fun vs H Q E h => ?_) (fun cdv A outer s H vs Q E hr h => ?_)
  · obtain ⟨W, r, u, v, rfl, _⟩ := h
    rfl
  · obtain ⟨W, r, u, v, rfl, hu, hv, hp, ft, q⟩ := h
    refine ⟨_, pss_cons (ps_set (i := 2) scRen.nd rfl (.inr rfl) pe_dnewK)
      (pss_cons (ps_for PassesOwn.never rfl (pi_enumT (by rfl) me (pa_cons (pv 0) pa_nil)) (pg_tup rfl (pgs_cons (pg_name (i := 3) scRen.nd rfl (.inl rfl)) (pgs_cons (pg_tup rfl (pgs_cons (pg_name (i := 4) scRen.nd rfl (.inl rfl)) (pgs_cons (pg_name (i := 5) scRen.nd rfl (.inl rfl)) pgs_nil))) pgs_nil)))
        (pss_one (ps_dput (hu_of hr) (pv 2) (pe_ix ix_tup (pv 1) (pv 3) (fun _ _ => rfl)) (pe_tup (pa_cons (pv 4) (pa_cons
          (pe_callTy call_tuple_of (by rfl) mt (by decide +kernel) (pa_cons (pe_lc (own := [("g", 6), ("q", 7)]) (g := gPair K 6 7) (tt := tYes) (te := tTup (tCons (tOp (rIxT K) (tVar 1) (tVar 6)) (tCons (tVar 7) tNil))) rfl scRen.nd (pi_tup (pv 5))
            (blkOk_by (own := [("g", 6), ("q", 7)]) (N := nRen) (sc := defScope sRen) (by decide +kernel))
            (fun _ _ _ _ _ => pg_tup rfl (pgs_cons (pg_name (i := 6) scRen.nd rfl (.inl rfl)) (pgs_cons (pg_name (i := 7) scRen.nd rfl (.inl rfl)) pgs_nil))) (fun _ _ _ _ _ => pts_nil)
            (fun _ _ _ _ _ => pe_tup (pa_cons (pe_ix (ixT K) (pv 1) (pv 6) (fun _ _ => rfl)) (pa_cons (pv 7) pa_nil)))) pa_nil)) pa_nil))) rfl)))
      (pss_one (ps_ret (pe_callTy call_tuple_of (by rfl) mt (by decide +kernel) (pa_cons (pe_lc (own := [("h", 3)]) (g := gName 3) (tt := tYes) (te := tDGet (tVar 2) (tVar 3)) rfl scRen.nd (pi_range1 (by rfl) mr (pa_cons (pe_callB (call_lenK K) (by rfl) ml PySem.boot_len (pa_cons (pv 0) pa_nil)) pa_nil))
            (blkOk_by (own := [("h", 3)]) (N := nRen) (sc := defScope sRen) (by decide +kernel))
            (fun _ _ _ _ _ => pg_name (i := 3) scRen.nd rfl (.inl rfl)) (fun _ _ _ _ _ => pts_nil)
            (fun _ _ _ _ _ => pe_dget (hu_of hr) (pv 2) (pv 3) (fun _ _ => rfl))) pa_nil))))), ?_⟩
    obtain ⟨a, xs, rfl, ha, hxs, hlen⟩ := hu.webAt
    obtain ⟨b, rfl, hb⟩ := hv.numsAt
    have hfew := ft.few
    refine fun d nd => ?_
    have s1 : Same H (upd H d (.dK [])) := same_upd nd
    refine ⟨_, rfl, a, xs, rfl, .inl (rd_same s1 ha), for_it (walk_enumT (K := K) (a := a) (xs := xs)) (fun i σ H' => ∃ z3 z4 z5 z6 z7 kvs, σ = [some (.ref a), some (.ref b), some (.ref d), z3, z4, z5, z6, z7] ∧ Same H H' ∧ H' d = some (.dK kvs) ∧ kvs.length ≤ i ∧
        ∀ j, j < i → ∃ v, valV kvs (Sum.inl ((at0 r j : Nat) : Int)) = some v ∧ KD H' (kHand (mk W j, (pegs W j).map fun x => (at0 r x.1, x.2))) v)
      ⟨none, none, none, none, none, [], rfl, s1, upd_same, Nat.le_refl _, fun j hj => absurd hj (Nat.not_lt_zero _)⟩ (fun i σ H' hi h => ?_) (fun i x σ H1 H2 hi h hy => ?_) (fun σ H' h => ?_)⟩
    · obtain ⟨_, _, _, _, _, _, _, s2, _⟩ := h
      exact .inl (rd_same s2 ha)
    · obtain ⟨z3, z4, z5, z6, z7, kvs, rfl, s2, hd, hkl, hall⟩ := h
      obtain ⟨T, x1, x2, rfl, nT, rfl, e1, hx2⟩ := hy
      obtain rfl := (Option.some.inj e1).symm
      dsimp only at hx2
      have hiW : i < W.length := by omega
      obtain ⟨_, hkx⟩ := hxs.web hx2
      obtain ⟨c, e, ys, rfl, hc, he, hys, hyl⟩ := hkx.handAt
      have sT := same_upd (o := .tup [.int (i : Nat), .ref c]) nT
      have s3 := s2.trans sT
      refine ⟨T, _, rfl, .inl (.inl upd_same), rfl, _, _, rfl, _, _, rfl, ⟨c, _, rfl, .inl (rd_same s3 hc), rfl, _, _, rfl, _, _, rfl, rfl, rfl, ?_⟩⟩
      refine ⟨_, rfl, _, rfl, e, rfl, ⟨_, .inl (rd_same s3 he)⟩, fun D hD => comp_keys (walk_tup (K := K) (a := e) (xs := ys)) (((pegs W i).map fun x => (at0 r x.1, x.2)).map kPeg) (by simp [hyl]) (by have := ft.plen i; rw [sizeLine_eq]; omega) hD
        (fun H2 s' => .inl (rd_same (s3.trans s') he)) (fun i2 x H2 H3 kk hi2 hk s4 hy Qk hQ => ?_) (fun H2 acc s' hD' hacc => ?_)⟩
      · obtain ⟨rfl, hx3⟩ := hy
        obtain ⟨z, hz, hkx2⟩ := hys.pegs hx3
        rw [List.getElem?_map, List.getElem?_map, hz] at hk
        obtain rfl := Option.some.inj hk
        obtain ⟨g, rfl, hg⟩ := hkx2.pairAt
        have s5 := s3.trans s4
        have hzn : z.1 < W.length := (ft.inr i z (List.mem_of_getElem? hz)).1
        refine ⟨g, _, rfl, .inl (rd_same s5 hg), rfl, _, _, rfl, _, _, rfl, rfl, rfl, _, rfl, _, rfl, b, _, _, .int (at0 r z.1 : Nat), rfl, rfl, .inl (rd_same s5 hb), atI_nat (by rw [List.getElem?_map, hp.get hzn]; rfl), _, rfl, ?_⟩
        exact ⟨by show 2 ≤ sizeLine; decide, fun p np => hQ _ _ (same_upd np) (.tup (.inl upd_same) (.cons (.num _) (.cons (.num _) .nil)))⟩
      · refine ⟨D, acc, rfl, .inl ⟨.inl (.inl hD'), fun l nl => ?_⟩⟩
        refine ⟨by show 2 ≤ sizeLine; decide, fun p np => ?_⟩
        have s6 := (same_upd (o := .tup acc) nl).trans (same_upd (o := .tup [.int (mk W i), .ref l]) np)
        have s5 := (s3.trans s').trans s6
        have hd5 : (upd (upd H2 l (.tup acc)) p (.tup [.int (mk W i), .ref l])) d = some (.dK kvs) := (sT.trans s').trans s6 _ _ hd
        refine ⟨_, rfl, _, rfl, _, rfl, b, _, _, .int (at0 r i : Nat), rfl, rfl, .inl (rd_same s5 hb), atI_nat (by rw [List.getElem?_map, hp.get hiW]; rfl), d, _, rfl, DPut.k (k := Sum.inl ((at0 r i : Nat) : Int)) hd5 (by rw [sizeLine_eq]; omega), ?_⟩
        have kl : KD (upd (upd H2 l (.tup acc)) p (.tup [.int (mk W i), .ref l])) (kHand (mk W i, (pegs W i).map fun x => (at0 r x.1, x.2))) (.ref p) :=
          .tup (.inl upd_same) (.cons (.num _) (.cons (.tup (.inl (same_upd np _ _ upd_same)) (hacc.tups (tups_same s6))) .nil))
        refine ⟨_, _, _, _, _, putK kvs (Sum.inl ((at0 r i : Nat) : Int)) (.ref p), rfl, same_over nd s5, upd_same, Nat.le_trans (putK_len _ _ _) (by omega), fun j hj => ?_⟩
        have tp : Tups (upd (upd H2 l (.tup acc)) p (.tup [.int (mk W i), .ref l])) (upd (upd (upd H2 l (.tup acc)) p (.tup [.int (mk W i), .ref l])) d (.dK (putK kvs (Sum.inl ((at0 r i : Nat) : Int)) (.ref p)))) := tups_over hd5 (fun _ e => nomatch e) fun _ _ e => nomatch e
        rw [valV_put]
        by_cases hji : j = i
        · subst hji
          exact ⟨_, if_pos rfl, kl.tups tp⟩
        · have hne : ¬ (Sum.inl ((at0 r j : Nat) : Int) : Key) = Sum.inl ((at0 r i : Nat) : Int) := fun e => by
            injection e with e
            exact hji (hp.inj (by omega) hiW (by omega))
          obtain ⟨v, hv1, hv2⟩ := hall j (by omega)
          exact ⟨v, by rw [if_neg hne]; exact hv1, (hv2.tups (tups_same ((sT.trans s').trans s6))).tups tp⟩
    · obtain ⟨z3, z4, z5, z6, z7, kvs, rfl, s2, hd, hkl, hall⟩ := h
      refine ⟨_, rfl, a, xs, rfl, .inr (.inl (rd_same s2 ha)), (xs.length : Nat), rfl, by omega, by omega, fun D hD => comp_keys (walk_range (lo := 0) (n := ((xs.length : Nat) : Int).toNat)) ((ren W r).map kHand) (by rw [List.length_map, ren_len]; omega) (by rw [sizeLine_eq]; omega) hD
        (fun H2 s' => trivial) (fun i2 x H2 H3 kk hi2 hk s4 hy Qk hQ => ?_) (fun H2 acc s' hD' hacc => ?_)⟩
      · obtain ⟨rfl, rfl⟩ := hy
        have hi2' : i2 < W.length := by omega
        obtain ⟨v, hv1, hv2⟩ := hall (r.idxOf i2) (by have := hp.idx_lt hi2'; omega)
        rw [hp.at_idx hi2'] at hv1
        have ek : ((ren W r).map kHand)[i2]? = some (kHand (mk W (r.idxOf i2), (pegs W (r.idxOf i2)).map fun x => (at0 r x.1, x.2))) := by
          rw [List.getElem?_map]
          unfold ren
          rw [webOf_at hi2']
          rfl
        rw [ek] at hk
        obtain rfl := Option.some.inj hk
        refine ⟨rfl, _, rfl, _, rfl, d, v, rfl, .inl ⟨kvs, Sum.inl (i2 : Int), .inl (s4 _ _ hd), ?_, hv1.symm⟩, hQ _ _ (Same.refl _) (hv2.tups (tups_same s4))⟩
        show V.int (0 + (i2 : Int)) = V.int (i2 : Int)
        rw [Int.zero_add]
      · exact ⟨D, acc, rfl, .inl ⟨.inl (.inl hD'), fun l nl => q _ _ ((s2.trans s').trans (same_upd nl)) (.tup (.inl upd_same) (hacc.tups (tups_new nl)))⟩⟩
end
end Nl
end

section
set_option Elab.async false
set_option linter.all false
set_option maxRecDepth 100000
namespace Nl
open PySem PySem.Spec PyProof.Rows L2
theorem webOf_get {n : Nat} {m : Nat → Int} {ps : Nat → List (Nat × Nat)} {i : Nat} (h : i < n) : ((webOf n m ps).map kHand)[i]? = some (kHand (m i, ps i)) := by
  rw [List.getElem?_map, webOf_at h]
  rfl
/-- a list of hands that grows -/
theorem KDs.next {H H2 H3 : Hp} {W : Web} {i : Nat} {acc : List V} {x : V} {o : Addr} {z : NestedKey} (h : KDs H ((W.map kHand).take i) acc) (e : (W.map kHand)[i]? = some z) (hx : KD H2 z x) (t1 : Tups H H3) (t2 : Tups H2 H3) : KDs H3 ((W.map kHand).take (i + 1)) (acc ++ [x]) := by
  rw [List.take_succ, e]
  exact (h.tups t1).snoc (hx.tups t2)
section
variable {P : Program} {w : World} {K : PySem.W.Frag} {mg : Str → Option Value} {base : Heap}
/-! ### marked -/
abbrev sMarked : Stmt := topS 13
abbrev nMarked : List Str := ["web", "hands", "mark", "found", "h", "own", "pegs"]
theorem scMarked : FnScope nMarked ["web", "hands", "mark"] (defScope sMarked) := ⟨rfl, rfl, rfl, by decide +kernel, rfl, by decide +kernel, by decide +kernel⟩
def spMarked : Sp := fun vs H Q _ => ∃ (W : Web) (hd : Nat) (m : Int) (u : V) (b : Addr), vs = [u, .ref b, .int m] ∧ KD H (kWeb W) u ∧ Rd H b (.tup [.int (hd : Nat)]) ∧ Fit W ∧ ∀ H' z, Same H H' → KD H' (kWeb (mkd W hd m)) z → Q z H'
theorem ok_marked {f : Addr} {fd : FuncData} {k : Nat} (F : Fun K "marked" "marked" sMarked f fd) (mt : mg "tuple" = none) (me : mg "enumerate" = none) : FnOk P w K mg base CX0 (k + 1) f fd ["web", "hands", "mark"] spMarked := by
  refine F.ok scMarked (fun vs H Q E h => ?_) (fun cdv A outer s H vs Q E hr h => ?_)
  · obtain ⟨W, hd, m, u, b, rfl, _⟩ := h
    rfl
  · obtain ⟨W, hd, m, u, b, rfl, hu, hb, ft, q⟩ := h
    refine ⟨_, pss_cons (ps_set (i := 3) scMarked.nd rfl (.inl rfl) (pe_lst pa_nil))
      (pss_cons (ps_for PassesOwn.never rfl (pi_enumT (by rfl) me (pa_cons (pv 0) pa_nil)) (pg_tup rfl (pgs_cons (pg_name (i := 4) scMarked.nd rfl (.inl rfl)) (pgs_cons (pg_tup rfl (pgs_cons (pg_name (i := 5) scMarked.nd rfl (.inl rfl)) (pgs_cons (pg_name (i := 6) scMarked.nd rfl (.inl rfl)) pgs_nil))) pgs_nil)))
        (pss_cons (ps_if (pt_cmpR op_in_seq (pv 4) (pv 1) (by rfl)) (pss_one (ps_set (i := 5) scMarked.nd rfl (.inl rfl) (pv 2))) pss_nil)
        (pss_one (ps_expr (pe_bm PySem.F.plainAttrs_list PySem.F.slot_list_append PySem.F.type_list_append mt_append (pv 3) (pa_cons (pe_tup (pa_cons (pv 5) (pa_cons (pv 6) pa_nil))) pa_nil))))))
      (pss_one (ps_ret (pe_callTy call_tuple_of (by rfl) mt (by decide +kernel) (pa_cons (pv 3) pa_nil))))), ?_⟩
    obtain ⟨a, xs, rfl, ha, hxs, hlen⟩ := hu.webAt
    have hfew := ft.few
    refine ⟨Nat.zero_le _, fun o no => ?_⟩
    have s1 : Same H (upd H o (.lst [])) := same_upd no
    refine ⟨_, rfl, a, xs, rfl, .inl (rd_same s1 ha), for_it (walk_enumT (K := K) (a := a) (xs := xs)) (fun i σ H' => ∃ z4 z5 z6 acc, σ = [some (.ref a), some (.ref b), some (.int m), some (.ref o), z4, z5, z6] ∧ Same H H' ∧ H' o = some (.lst acc) ∧ KDs H' (((mkd W hd m).map kHand).take i) acc)
      ⟨none, none, none, [], rfl, s1, upd_same, by simp; exact .nil⟩ (fun i σ H' hi h => ?_) (fun i x σ H1 H2 hi h hy => ?_) (fun σ H' h => ?_)⟩
    · obtain ⟨_, _, _, _, _, s2, _⟩ := h
      exact .inl (rd_same s2 ha)
    · obtain ⟨z4, z5, z6, acc, rfl, s2, ho, hacc⟩ := h
      obtain ⟨T, x1, x2, rfl, nT, rfl, e1, hx2⟩ := hy
      obtain rfl := (Option.some.inj e1).symm
      dsimp only at hx2
      have hiW : i < W.length := by omega
      obtain ⟨_, hkx⟩ := hxs.web hx2
      obtain ⟨c, e, ys, rfl, hc, he, hys, hyl⟩ := hkx.handAt
      have sT := same_upd (o := .tup [.int (i : Nat), .ref c]) nT
      have s3 := s2.trans sT
      have hget := webOf_get (n := W.length) (m := fun h => if h = hd then m else mk W h) (ps := pegs W) hiW
      have hal := hacc.length
      have hal2 : acc.length ≤ i := by rw [hal, List.length_take]; omega
      refine ⟨T, _, rfl, .inl (.inl upd_same), rfl, _, _, rfl, _, _, rfl, ⟨c, _, rfl, .inl (rd_same s3 hc), rfl, _, _, rfl, _, _, rfl, rfl, rfl, ?_⟩⟩
      -- what stands behind the test
      have fin : ∀ mm : Int, mm = (if i = hd then m else mk W i) → ∀ p, (upd H1 T (.tup [.int (i : Nat), .ref c])) p = none →
          ∃ z4 z5 z6 acc', [some (V.ref a), some (.ref b), some (.int m), some (.ref o), some (.int (i : Nat)), some (.int mm), some (.ref e)] = [some (.ref a), some (.ref b), some (.int m), some (.ref o), z4, z5, z6] ∧
            Same H (upd (upd (upd H1 T (.tup [.int (i : Nat), .ref c])) p (.tup [.int mm, .ref e])) o (.lst (acc ++ [.ref p]))) ∧ (upd (upd (upd H1 T (.tup [.int (i : Nat), .ref c])) p (.tup [.int mm, .ref e])) o (.lst (acc ++ [.ref p]))) o = some (.lst acc') ∧
            KDs (upd (upd (upd H1 T (.tup [.int (i : Nat), .ref c])) p (.tup [.int mm, .ref e])) o (.lst (acc ++ [.ref p]))) (((mkd W hd m).map kHand).take (i + 1)) acc' := fun mm em p np => by
        have sp := same_upd (o := .tup [.int mm, .ref e]) np
        have ho2 := (sT.trans sp) _ _ ho
        have tl : Tups _ (upd (upd (upd H1 T (.tup [.int (i : Nat), .ref c])) p (.tup [.int mm, .ref e])) o (.lst (acc ++ [.ref p]))) := tups_lst ho2
        refine ⟨_, _, _, _, rfl, same_over no (s3.trans sp), upd_same, hacc.next (o := o) hget ?_ ((tups_same (sT.trans sp)).trans tl) tl⟩
        rw [← em]
        exact .tup (.inl upd_same) (.cons (.num _) (.cons (.tup (rd_same (s3.trans sp) he) (hys.tups (tups_same (s3.trans sp)))) .nil))
      refine ⟨_, rfl, _, rfl, b, _, rfl, .inr (.inl (rd_same s3 hb)), rfl, rfl, _, rfl, ?_⟩
      have ein : inV (.int (i : Nat)) [V.int (hd : Nat)] = decide (i = hd) := by
        show (decide ((hd : Int) = (i : Int)) || false) = _
        rw [Bool.or_false]
        exact decide_eq_decide.mpr (by omega)
      show if (inV (.int (i : Nat)) [V.int (hd : Nat)]) = true then _ else _
      rw [ein]
      refine ite2 (fun c1 => ?_) (fun c1 => ?_)
      · have c2 := of_decide_eq_true c1
        refine ⟨_, rfl, _, rfl, .inl ⟨rfl, _, .inl (.inl (sT _ _ ho))⟩, _, rfl, _, rfl, by show 2 ≤ sizeLine; decide, fun p np => ?_⟩
        exact ⟨o, acc, _, rfl, rfl, same_upd np _ _ (sT _ _ ho), by rw [sizeLine_eq]; omega, fin m (by rw [if_pos c2]) p np⟩
      · have c2 : ¬ i = hd := fun z => c1 (decide_eq_true z)
        refine ⟨_, rfl, .inl ⟨rfl, _, .inl (.inl (sT _ _ ho))⟩, _, rfl, _, rfl, by show 2 ≤ sizeLine; decide, fun p np => ?_⟩
        exact ⟨o, acc, _, rfl, rfl, same_upd np _ _ (sT _ _ ho), by rw [sizeLine_eq]; omega, fin (mk W i) (by rw [if_neg c2]) p np⟩
    · obtain ⟨z4, z5, z6, acc, rfl, s2, ho, hacc⟩ := h
      rw [hlen, ← mkd_len W hd m, ← List.length_map (f := kHand), List.take_length] at hacc
      exact ⟨_, rfl, o, acc, rfl, .inl ⟨.inl (.inl ho), fun l nl => q _ _ (s2.trans (same_upd nl)) (.tup (.inl upd_same) (hacc.tups (tups_new nl)))⟩⟩
/-! ### turned_peg -/
abbrev sTurned : Stmt := topS 14
abbrev nTurned : List Str := ["place", "hand", "p", "q"]
theorem scTurned : FnScope nTurned ["place", "hand", "p", "q"] (defScope sTurned) := ⟨rfl, rfl, rfl, by decide +kernel, rfl, by decide +kernel, by decide +kernel⟩
def spTurned : Sp := fun vs H Q _ => ∃ (x : Nat × Nat) (h p q : Nat) (u : V), vs = [u, .int (h : Nat), .int (p : Nat), .int (q : Nat)] ∧ KD H (kPeg x) u ∧ ∀ H' z, Same H H' → KD H' (kPeg (turnPeg h p q x)) z → Q z H'
theorem kPeg_eq {x y : Nat × Nat} : kPeg x = kPeg y ↔ x = y := by
  obtain ⟨a, b⟩ := x
  obtain ⟨c, d⟩ := y
  unfold kPeg kI
  simp only [NestedKey.tup.injEq, List.cons.injEq, NestedKey.num.injEq, and_true, Prod.mk.injEq]
  constructor <;> rintro ⟨h1, h2⟩ <;> exact ⟨by omega, by omega⟩
theorem kPeg_depth (x : Nat × Nat) : (kPeg x).depth ≤ 64 := by unfold kPeg kI; rw [depth_pair]; decide
theorem kPeg_new {H : Hp} {p : Addr} {i j : Nat} : KD (upd H p (.tup [.int (i : Nat), .int (j : Nat)])) (kPeg (i, j)) (.ref p) := .tup (.inl upd_same) (.cons (.num _) (.cons (.num _) .nil))
theorem ok_turned {f : Addr} {fd : FuncData} {k : Nat} (F : Fun K "turned_peg" "turned_peg" sTurned f fd) : FnOk P w K mg base CX0 (k + 1) f fd ["place", "hand", "p", "q"] spTurned := by
  refine F.ok scTurned (fun vs H Q E h => ?_) (fun cdv A outer s H vs Q E hr h => ?_)
  · obtain ⟨x, h, p, q, u, rfl, _⟩ := h
    rfl
  · obtain ⟨x, h, p, q, u, rfl, hu, qq⟩ := h
    refine ⟨_, pss_cons (ps_if (pt_cmpR (op_eqD hr.units) (pv 0) (pe_tup (pa_cons (pv 1) (pa_cons (pv 2) pa_nil))) (nomark _)) (pss_one (ps_ret (pe_tup (pa_cons (pv 1) (pa_cons (pv 3) pa_nil))))) pss_nil)
      (pss_cons (ps_if (pt_cmpR (op_eqD hr.units) (pv 0) (pe_tup (pa_cons (pv 1) (pa_cons (pv 3) pa_nil))) (nomark _)) (pss_one (ps_ret (pe_tup (pa_cons (pv 1) (pa_cons (pv 2) pa_nil))))) pss_nil)
      (pss_one (ps_ret (pv 0)))), ?_⟩
    have l2 : (2 : Nat) ≤ sizeLine := by decide
    refine ⟨_, rfl, _, rfl, _, rfl, l2, fun t nt => ?_⟩
    have s1 := same_upd (o := .tup [.int (h : Nat), .int (p : Nat)]) nt
    have k1 : KD (upd H t (.tup [.int (h : Nat), .int (p : Nat)])) (kPeg (h, p)) (.ref t) := kPeg_new
    have hu1 := hu.tups (tups_same s1)
    refine ⟨_, _, hu1.dp, k1.dp, key_shaped hu1.pure_ (kPeg_depth _), key_shaped k1.pure_ (kPeg_depth _), _, rfl, ?_⟩
    rw [eqv_iff hu1.pure_]
    refine ite2 (fun c1 => ?_) (fun c1 => ?_)
    · have e1 := kPeg_eq.mp (of_decide_eq_true c1)
      refine ⟨_, rfl, _, rfl, l2, fun y ny => qq _ _ (s1.trans (same_upd ny)) ?_⟩
      unfold turnPeg
      rw [if_pos e1]
      exact kPeg_new
    · have e1 : ¬ x = (h, p) := fun z => c1 (decide_eq_true (kPeg_eq.mpr z))
      refine ⟨_, rfl, _, rfl, _, rfl, l2, fun t2 nt2 => ?_⟩
      have s2 := s1.trans (same_upd (o := .tup [.int (h : Nat), .int (q : Nat)]) nt2)
      have k2 : KD (upd (upd H t (.tup [.int (h : Nat), .int (p : Nat)])) t2 (.tup [.int (h : Nat), .int (q : Nat)])) (kPeg (h, q)) (.ref t2) := kPeg_new
      have hu2 := hu.tups (tups_same s2)
      refine ⟨_, _, hu2.dp, k2.dp, key_shaped hu2.pure_ (kPeg_depth _), key_shaped k2.pure_ (kPeg_depth _), _, rfl, ?_⟩
      rw [eqv_iff hu2.pure_]
      refine ite2 (fun c2 => ?_) (fun c2 => ?_)
      · have e2 := kPeg_eq.mp (of_decide_eq_true c2)
        refine ⟨_, rfl, _, rfl, l2, fun y ny => qq _ _ (s2.trans (same_upd ny)) ?_⟩
        unfold turnPeg
        rw [if_neg e1, if_pos e2]
        exact kPeg_new
      · have e2 : ¬ x = (h, q) := fun z => c2 (decide_eq_true (kPeg_eq.mpr z))
        refine ⟨_, rfl, qq _ _ s2 ?_⟩
        unfold turnPeg
        rw [if_neg e1, if_neg e2]
        exact hu2
/-! ### exchanged -/
abbrev sExch : Stmt := topS 15
abbrev nExch : List Str := ["web", "hand", "p", "q", "found", "h", "mark", "pegs", "some", "k", "from_hand", "from_peg"]
theorem scExch : FnScope nExch ["web", "hand", "p", "q"] (defScope sExch) := ⟨rfl, rfl, rfl, by decide +kernel, rfl, by decide +kernel, by decide +kernel⟩
def spExch : Sp := fun vs H Q _ => ∃ (W : Web) (h p q : Nat) (u : V), vs = [u, .int (h : Nat), .int (p : Nat), .int (q : Nat)] ∧ KD H (kWeb W) u ∧ Fit W ∧ p < (pegs W h).length ∧ q < (pegs W h).length ∧ ∀ H' z, Same H H' → KD H' (kWeb (exch W h p q)) z → Q z H'
theorem ok_exch {f fT : Addr} {fd fdT : FuncData} {k : Nat} (F : Fun K "exchanged" "exchanged" sExch f fd) (FT : Fun K "turned_peg" "turned_peg" sTurned fT fdT) (bT : Binds K fdT ["place", "hand", "p", "q"] []) (gT : mg "turned_peg" = some (.ref fT)) (GT : FnOk P w K mg base CX0 k fT fdT ["place", "hand", "p", "q"] spTurned)
    (mt : mg "tuple" = none) (me : mg "enumerate" = none) (mr : mg "range" = none) (ml : mg "len" = none) : FnOk P w K mg base CX0 (k + 1) f fd ["web", "hand", "p", "q"] spExch := by
  refine F.ok scExch (fun vs H Q E h => ?_) (fun cdv A outer s H vs Q E hr h => ?_)
  · obtain ⟨W, h, p, q, u, rfl, _⟩ := h
    rfl
  · obtain ⟨W, h, p, q, u, rfl, hu, ft, hp, hq, qq⟩ := h
    refine ⟨_, pss_cons (ps_set (i := 4) scExch.nd rfl (.inl rfl) (pe_lst pa_nil))
      (pss_cons (ps_for PassesOwn.never rfl (pi_enumT (by rfl) me (pa_cons (pv 0) pa_nil)) (pg_tup rfl (pgs_cons (pg_name (i := 5) scExch.nd rfl (.inl rfl)) (pgs_cons (pg_tup rfl (pgs_cons (pg_name (i := 6) scExch.nd rfl (.inl rfl)) (pgs_cons (pg_name (i := 7) scExch.nd rfl (.inl rfl)) pgs_nil))) pgs_nil)))
        (pss_cons (ps_set (i := 8) scExch.nd rfl (.inl rfl) (pe_lst pa_nil))
        (pss_cons (ps_for PassesOwn.never rfl (pi_range1 (by rfl) mr (pa_cons (pe_callB (call_lenK K) (by rfl) ml PySem.boot_len (pa_cons (pv 7) pa_nil)) pa_nil)) (pg_name (i := 9) scExch.nd rfl (.inl rfl))
          (pss_cons (ps_asg (pe_call GT hr (by rfl) gT FT.kp bT .nil pass0 (pa_cons (pe_tup (pa_cons (pv 5) (pa_cons (pv 9) pa_nil))) (pa_cons (pv 1) (pa_cons (pv 2) (pa_cons (pv 3) pa_nil))))) (pg_tup rfl (pgs_cons (pg_name (i := 10) scExch.nd rfl (.inl rfl)) (pgs_cons (pg_name (i := 11) scExch.nd rfl (.inl rfl)) pgs_nil))))
          (pss_one (ps_expr (pe_bm PySem.F.plainAttrs_list PySem.F.slot_list_append PySem.F.type_list_append mt_append (pv 8) (pa_cons
            (pe_call GT hr (by rfl) gT FT.kp bT .nil pass0 (pa_cons (pe_ix ix_tup (pe_ix ix_tup (pe_ix ix_tup (pv 0) (pv 10) (fun _ _ => rfl)) pe_int (fun _ _ => rfl)) (pv 11) (fun _ _ => rfl)) (pa_cons (pv 1) (pa_cons (pv 2) (pa_cons (pv 3) pa_nil))))) pa_nil))))))
        (pss_one (ps_expr (pe_bm PySem.F.plainAttrs_list PySem.F.slot_list_append PySem.F.type_list_append mt_append (pv 4) (pa_cons (pe_tup (pa_cons (pv 6) (pa_cons (pe_callTy call_tuple_of (by rfl) mt (by decide +kernel) (pa_cons (pv 8) pa_nil)) pa_nil))) pa_nil)))))))
      (pss_one (ps_ret (pe_callTy call_tuple_of (by rfl) mt (by decide +kernel) (pa_cons (pv 4) pa_nil))))), ?_⟩
    obtain ⟨a, xs, rfl, ha, hxs, hlen⟩ := hu.webAt
    have hfew := ft.few
    have l2 : (2 : Nat) ≤ sizeLine := by decide
    refine ⟨Nat.zero_le _, fun o no => ?_⟩
    have s1 : Same H (upd H o (.lst [])) := same_upd no
    refine ⟨_, rfl, a, xs, rfl, .inl (rd_same s1 ha), for_it (walk_enumT (K := K) (a := a) (xs := xs)) (fun i σ H' => ∃ z5 z6 z7 z8 z9 z10 z11 acc, σ = [some (.ref a), some (.int (h : Nat)), some (.int (p : Nat)), some (.int (q : Nat)), some (.ref o), z5, z6, z7, z8, z9, z10, z11] ∧ Same H H' ∧ H' o = some (.lst acc) ∧ KDs H' (((exch W h p q).map kHand).take i) acc)
      ⟨none, none, none, none, none, none, none, [], rfl, s1, upd_same, by simp; exact .nil⟩ (fun i σ H' hi hh => ?_) (fun i x σ H1 H2 hi hh hy => ?_) (fun σ H' hh => ?_)⟩
    · obtain ⟨_, _, _, _, _, _, _, _, _, s2, _⟩ := hh
      exact .inl (rd_same s2 ha)
    · obtain ⟨z5, z6, z7, z8, z9, z10, z11, acc, rfl, s2, ho, hacc⟩ := hh
      obtain ⟨T, x1, x2, rfl, nT, rfl, e1, hx2⟩ := hy
      obtain rfl := (Option.some.inj e1).symm
      dsimp only at hx2
      have hiW : i < W.length := by omega
      obtain ⟨_, hkx⟩ := hxs.web hx2
      obtain ⟨c, e, ys, rfl, hc, he, hys, hyl⟩ := hkx.handAt
      have sT := same_upd (o := .tup [.int (i : Nat), .ref c]) nT
      have s3 := s2.trans sT
      have hget := webOf_get (n := W.length) (m := mk W) (ps := exPegs W h p q) hiW
      have hal := hacc.length
      have hal2 : acc.length ≤ i := by rw [hal, List.length_take]; omega
      have hpl := ft.plen i
      refine ⟨T, _, rfl, .inl (.inl upd_same), rfl, _, _, rfl, _, _, rfl, ⟨c, _, rfl, .inl (rd_same s3 hc), rfl, _, _, rfl, _, _, rfl, rfl, rfl, ?_⟩⟩
      refine ⟨Nat.zero_le _, fun o2 no2 => ?_⟩
      have s4 := same_upd (o := .lst []) no2
      have s5 := s3.trans s4
      refine ⟨_, rfl, e, ys, rfl, .inr (.inl (rd_same s5 he)), (ys.length : Nat), rfl, by omega, by omega, ?_⟩
      refine for_range (lo := 0) (n := ((ys.length : Nat) : Int).toNat) (fun j σ H' => ∃ z9 z10 z11 acc2, σ = [some (.ref a), some (.int (h : Nat)), some (.int (p : Nat)), some (.int (q : Nat)), some (.ref o), some (.int (i : Nat)), some (.int (mk W i)), some (.ref e), some (.ref o2), z9, z10, z11] ∧ Same (upd H1 T (.tup [.int (i : Nat), .ref c])) H' ∧ H' o2 = some (.lst acc2) ∧ KDs H' (((exPegs W h p q i).map kPeg).take j) acc2)
        ⟨_, _, _, [], rfl, s4, upd_same, by simp; exact .nil⟩ (fun j σ H' hj hh => ?_) (fun σ H' hh => ?_)
      · obtain ⟨z9, z10, z11, acc2, rfl, s6, ho2, hacc2⟩ := hh
        have hj' : j < (pegs W i).length := by omega
        have t1 := turn_in (W := W) hp hq (x := (i, j)) hj'
        refine ⟨_, rfl, _, rfl, l2, fun t nt => ⟨_, rfl, _, rfl, _, rfl, (i, j), h, p, q, .ref t, rfl, by rw [Int.zero_add]; exact kPeg_new, fun H3 z s7 hz => ?_⟩⟩
        obtain ⟨g, rfl, hg⟩ := hz.pairAt
        have s8 := (s6.trans (same_upd nt)).trans s7
        have s9 := s3.trans s8
        have hw := t1.1
        have hfh : (turnPeg h p q (i, j)).1 < W.length := by rw [t1.2]; exact hiW
        obtain ⟨y, hy, hky⟩ := hxs.web' hfh
        obtain ⟨c2, e2, ys2, rfl, hc2, he2, hys2, hyl2⟩ := hky.handAt
        obtain ⟨pv, hpv, hkpv⟩ := hys2.get (i := (turnPeg h p q (i, j)).2) (by rw [List.getElem?_map, peg_get hw]; rfl)
        refine ⟨g, _, rfl, .inl hg, rfl, _, _, rfl, _, _, rfl, rfl, ?_⟩
        refine ⟨_, rfl, .inl ⟨rfl, _, .inl (.inl (s7 _ _ (same_upd nt _ _ ho2)))⟩, _, rfl, _, rfl, a, xs, _, _, rfl, rfl, .inl (rd_same s9 ha), atI_nat hy, c2, _, 1, _, rfl, rfl, .inl (rd_same s9 hc2), atI_nat (j := 1) rfl, _, rfl, e2, _, _, _, rfl, rfl, .inl (rd_same s9 he2), atI_nat hpv, _, rfl, _, rfl, _, rfl, ?_⟩
        refine ⟨peg W (turnPeg h p q (i, j)), h, p, q, pv, rfl, hkpv.tups (tups_same s9), fun H4 z2 s10 hz2 => ?_⟩
        have ho4 := s10 _ _ (s7 _ _ (same_upd nt _ _ ho2))
        have hl2 := hacc2.length
        refine ⟨o2, acc2, _, rfl, rfl, ho4, by rw [hl2, List.length_take, sizeLine_eq]; omega, ?_⟩
        have tl : Tups H4 (upd H4 o2 (.lst (acc2 ++ [z2]))) := tups_lst ho4
        refine ⟨_, _, _, _, rfl, same_over no2 (s8.trans s10), upd_same, ?_⟩
        have eg : ((exPegs W h p q i).map kPeg)[j]? = some (kPeg (turnPeg h p q (peg W (turnPeg h p q (i, j))))) := by
          unfold exPegs
          rw [List.getElem?_map, List.getElem?_map, List.getElem?_range hj']
          rfl
        rw [List.take_succ, eg]
        exact ((hacc2.tups (tups_same (((same_upd nt).trans s7).trans s10))).tups tl).snoc (hz2.tups tl)
      · obtain ⟨z9, z10, z11, acc2, rfl, s6, ho2, hacc2⟩ := hh
        have el : ((ys.length : Nat) : Int).toNat = ((exPegs W h p q i).map kPeg).length := by simp [exPegs, hyl]
        rw [el, List.take_length] at hacc2
        have s7 := s3.trans s6
        have ho7 := (sT.trans s6) _ _ ho
        refine ⟨_, rfl, .inl ⟨rfl, _, .inl (.inl ho7)⟩, _, rfl, _, rfl, o2, acc2, rfl, .inl ⟨.inl (.inl ho2), fun l nl => ?_⟩⟩
        refine ⟨l2, fun pp npp => ?_⟩
        have s8 := (same_upd (o := .tup acc2) nl).trans (same_upd (o := .tup [.int (mk W i), .ref l]) npp)
        refine ⟨o, acc, _, rfl, rfl, s8 _ _ ho7, by rw [sizeLine_eq]; omega, ?_⟩
        have tl : Tups (upd (upd H' l (.tup acc2)) pp (.tup [.int (mk W i), .ref l])) (upd (upd (upd H' l (.tup acc2)) pp (.tup [.int (mk W i), .ref l])) o (.lst (acc ++ [.ref pp]))) := tups_lst (s8 _ _ ho7)
        refine ⟨_, _, _, _, _, _, _, _, rfl, same_over no (s7.trans s8), upd_same, hacc.next (o := o) hget ?_ ((tups_same ((sT.trans s6).trans s8)).trans tl) tl⟩
        exact .tup (.inl upd_same) (.cons (.num _) (.cons (.tup (.inl (same_upd npp _ _ upd_same)) (hacc2.tups (tups_same s8))) .nil))
    · obtain ⟨z5, z6, z7, z8, z9, z10, z11, acc, rfl, s2, ho, hacc⟩ := hh
      rw [hlen, ← exch_len W h p q, ← List.length_map (f := kHand), List.take_length] at hacc
      exact ⟨_, rfl, o, acc, rfl, .inl ⟨.inl (.inl ho), fun l nl => qq _ _ (s2.trans (same_upd nl)) (.tup (.inl upd_same) (hacc.tups (tups_new nl)))⟩⟩
end
end Nl
end

section
set_option Elab.async false
set_option linter.all false
set_option maxRecDepth 100000
namespace Nl
open PySem PySem.Spec PyProof.Rows L2
theorem flatMap_len {α β : Type} {f : α → List β} {b : Nat} : ∀ {l : List α}, (∀ x ∈ l, (f x).length ≤ b) → (l.flatMap f).length ≤ l.length * b
  | [], _ => by simp
  | x :: l, h => by
    have h1 := h x List.mem_cons_self
    have h2 := flatMap_len (l := l) fun y hy => h y (List.mem_cons_of_mem _ hy)
    rw [List.flatMap_cons, List.length_append, List.length_cons, Nat.add_mul]
    omega
/-- the exchanges at peg p of hand h, at hand h -/
def atPeg (W : Web) (h p : Nat) : List Ex := (List.range' (p + 1) ((pegs W h).length - (p + 1))).map fun q => (h, p, q)
def atHand (W : Web) (h : Nat) (n : Nat) : List Ex := (List.range n).flatMap (atPeg W h)
theorem singles_eq (W : Web) : singles W = (List.range W.length).flatMap fun h => atHand W h (pegs W h).length := rfl
theorem atPeg_len {W : Web} (F : Fit W) (h p : Nat) : (atPeg W h p).length ≤ 8 := by
  have := F.plen h
  simp [atPeg]
  omega
theorem atHand_len {W : Web} (F : Fit W) (h n : Nat) (hn : n ≤ 8) : (atHand W h n).length ≤ 64 := by
  have := flatMap_len (f := atPeg W h) (b := 8) (l := List.range n) fun p _ => atPeg_len F h p
  rw [List.length_range] at this
  unfold atHand
  omega
theorem hands_len {W : Web} (F : Fit W) (n : Nat) (hn : n ≤ 9) : ((List.range n).flatMap fun h => atHand W h (pegs W h).length).length ≤ 576 := by
  have := flatMap_len (f := fun h => atHand W h (pegs W h).length) (b := 64) (l := List.range n) fun h _ => atHand_len F h _ (F.plen h)
  rw [List.length_range] at this
  omega
theorem singles_len {W : Web} (F : Fit W) : (singles W).length ≤ 576 := hands_len F _ F.few
theorem rowsN_len {W : Web} (F : Fit W) : (rowsN W 0).length ≤ 1 ∧ (rowsN W 1).length ≤ 576 ∧ (rowsN W 2).length ≤ 331776 := by
  have h := singles_len F
  refine ⟨Nat.le_refl 1, by rw [rows1, List.length_map]; exact h, ?_⟩
  rw [rows2]
  have := flatMap_len (f := fun a => (singles W).map fun b => [a, b]) (b := 576) (l := singles W) fun a _ => by rw [List.length_map]; exact h
  have h2 : (singles W).length * 576 ≤ 576 * 576 := Nat.mul_le_mul_right _ h
  omega
theorem rowsN_le {W : Web} (F : Fit W) {k : Nat} (hk : k ≤ 2) : (rowsN W k).length ≤ 331776 := by
  obtain ⟨h0, h1, h2⟩ := rowsN_len F
  have : k = 0 ∨ k = 1 ∨ k = 2 := by omega
  rcases this with rfl | rfl | rfl <;> omega
theorem row_len {W : Web} {k : Nat} {row : List Ex} (h : row ∈ rowsN W k) : row.length = k := (mem_rowsN.mp h).1
section
variable {P : Program} {w : World} {K : PySem.W.Frag} {mg : Str → Option Value} {base : Heap}
/-! ### single_ones (the law's own is the same with other names) -/
def spSingles : Sp := fun vs H Q _ => ∃ (W : Web) (u : V), vs = [u] ∧ KD H (kWeb W) u ∧ Fit W ∧ ∀ H' l xs, Same H H' → H' l = some (.lst xs) → KDs H' ((singles W).map kEx) xs → Q (.ref l) H'
theorem kEx_new {H : Hp} {t : Addr} {h p q : Nat} : KD (upd H t (.tup [.int (h : Nat), .int (p : Nat), .int (q : Nat)])) (kEx (h, p, q)) (.ref t) := .tup (.inl upd_same) (.cons (.num _) (.cons (.num _) (.cons (.num _) .nil)))
abbrev sSing : Stmt := topS 18
abbrev nSing : List Str := ["web", "found", "hand", "mark", "pegs", "p", "q"]
theorem scSing : FnScope nSing ["web"] (defScope sSing) := ⟨rfl, rfl, rfl, by decide +kernel, rfl, by decide +kernel, by decide +kernel⟩
theorem ok_sing {f : Addr} {fd : FuncData} {k : Nat} (F : Fun K "single_ones" "single_ones" sSing f fd) (me : mg "enumerate" = none) (mr : mg "range" = none) (ml : mg "len" = none) : FnOk P w K mg base CX0 (k + 1) f fd ["web"] spSingles := by
  refine F.ok scSing (fun vs H Q E h => ?_) (fun cdv A outer s H vs Q E hr h => ?_)
  · obtain ⟨W, u, rfl, _⟩ := h
    rfl
  · obtain ⟨W, u, rfl, hu, ft, qq⟩ := h
    refine ⟨_, pss_cons (ps_set (i := 1) scSing.nd rfl (.inl rfl) (pe_lst pa_nil))
      (pss_cons (ps_for PassesOwn.never rfl (pi_enumT (by rfl) me (pa_cons (pv 0) pa_nil)) (pg_tup rfl (pgs_cons (pg_name (i := 2) scSing.nd rfl (.inr rfl)) (pgs_cons (pg_tup rfl (pgs_cons (pg_name (i := 3) scSing.nd rfl (.inl rfl)) (pgs_cons (pg_name (i := 4) scSing.nd rfl (.inl rfl)) pgs_nil))) pgs_nil)))
        (pss_one (ps_for PassesOwn.never rfl (pi_range1 (by rfl) mr (pa_cons (pe_callB (call_lenK K) (by rfl) ml PySem.boot_len (pa_cons (pv 4) pa_nil)) pa_nil)) (pg_name (i := 5) scSing.nd rfl (.inr rfl))
          (pss_one (ps_expr (pe_bm PySem.F.plainAttrs_list PySem.F.slot_list_extend PySem.F.type_list_extend mt_extend (pv 1) (pa_cons
            (pe_lc (own := [("q", 6)]) (g := gName 6) (tt := tYes) (te := tTup (tCons (tVar 2) (tCons (tVar 5) (tCons (tVar 6) tNil)))) rfl scSing.nd (pi_range2 (by rfl) mr (pa_cons (pe_op op_add (pv 5) pe_int) (pa_cons (pe_callB (call_lenK K) (by rfl) ml PySem.boot_len (pa_cons (pv 4) pa_nil)) pa_nil)))
              (blkOk_by (own := [("q", 6)]) (N := nSing) (sc := defScope sSing) (by decide +kernel))
              (fun _ _ _ _ _ => pg_name (i := 6) scSing.nd rfl (.inl rfl)) (fun _ _ _ _ _ => pts_nil)
              (fun _ _ _ _ _ => pe_tup (pa_cons (pv 2) (pa_cons (pv 5) (pa_cons (pv 6) pa_nil))))) pa_nil)))))))
      (pss_one (ps_ret (pv 1)))), ?_⟩
    obtain ⟨a, xs, rfl, ha, hxs, hlen⟩ := hu.webAt
    have hfew := ft.few
    refine ⟨Nat.zero_le _, fun o no => ?_⟩
    have s1 : Same H (upd H o (.lst [])) := same_upd no
    refine ⟨_, rfl, a, xs, rfl, .inl (rd_same s1 ha), for_it (walk_enumT (K := K) (a := a) (xs := xs)) (fun i σ H' => ∃ z2 z3 z4 z5 z6 acc, σ = [some (.ref a), some (.ref o), z2, z3, z4, z5, z6] ∧ Same H H' ∧ H' o = some (.lst acc) ∧ KDs H' (((List.range i).flatMap fun h => atHand W h (pegs W h).length).map kEx) acc)
      ⟨none, none, none, none, none, [], rfl, s1, upd_same, .nil⟩ (fun i σ H' hi hh => ?_) (fun i x σ H1 H2 hi hh hy => ?_) (fun σ H' hh => ?_)⟩
    · obtain ⟨_, _, _, _, _, _, _, s2, _⟩ := hh
      exact .inl (rd_same s2 ha)
    · obtain ⟨z2, z3, z4, z5, z6, acc, rfl, s2, ho, hacc⟩ := hh
      obtain ⟨T, x1, x2, rfl, nT, rfl, e1, hx2⟩ := hy
      obtain rfl := (Option.some.inj e1).symm
      dsimp only at hx2
      have hiW : i < W.length := by omega
      obtain ⟨_, hkx⟩ := hxs.web hx2
      obtain ⟨c, e, ys, rfl, hc, he, hys, hyl⟩ := hkx.handAt
      have sT := same_upd (o := .tup [.int (i : Nat), .ref c]) nT
      have s3 := s2.trans sT
      have hpl := ft.plen i
      refine ⟨T, _, rfl, .inl (.inl upd_same), rfl, _, _, rfl, _, _, rfl, ⟨c, _, rfl, .inl (rd_same s3 hc), rfl, _, _, rfl, _, _, rfl, rfl, rfl, ?_⟩⟩
      refine ⟨_, rfl, e, ys, rfl, .inr (.inl (rd_same s3 he)), (ys.length : Nat), rfl, by omega, by omega, ?_⟩
      refine for_range (lo := 0) (n := ((ys.length : Nat) : Int).toNat) (fun j σ H' => ∃ z5 z6 acc, σ = [some (.ref a), some (.ref o), some (.int (i : Nat)), some (.int (mk W i)), some (.ref e), z5, z6] ∧ Same H H' ∧ H' o = some (.lst acc) ∧ KDs H' ((((List.range i).flatMap fun h => atHand W h (pegs W h).length) ++ atHand W i j).map kEx) acc)
        ⟨_, _, acc, rfl, s3, sT _ _ ho, by simpa [atHand] using hacc.tups (tups_same sT)⟩ (fun j σ H' hj hh => ?_) (fun σ H' hh => ?_)
      · obtain ⟨z5, z6, acc2, rfl, s6, ho2, hacc2⟩ := hh
        have hj' : j < (pegs W i).length := by omega
        refine ⟨_, rfl, .inl ⟨rfl, _, .inl (.inl ho2)⟩, _, rfl, _, _, rfl, rfl, _, rfl, e, ys, rfl, .inr (.inl (rd_same s6 he)), _, _, rfl, ⟨by omega, by omega, by omega, by omega⟩, fun D hD => comp_keys (walk_range (lo := 0 + (j : Int) + 1) (n := ((ys.length : Nat) - (0 + (j : Int) + 1) : Int).toNat)) ((atPeg W i j).map kEx) (by simp [atPeg]; omega) (by rw [sizeLine_eq]; omega) hD
          (fun H2 s' => trivial) (fun i2 x H2 H3 kk hi2 hk s4 hy Qk hQ => ?_) (fun H2 acc3 s' hD' hacc3 => ?_)⟩
        · obtain ⟨rfl, rfl⟩ := hy
          have ek : ((atPeg W i j).map kEx)[i2]? = some (kEx (i, j, j + 1 + i2)) := by
            unfold atPeg
            rw [List.getElem?_map, List.getElem?_map, List.getElem?_range' (by omega)]
            simp
          rw [ek] at hk
          obtain rfl := Option.some.inj hk
          refine ⟨rfl, _, rfl, _, rfl, _, rfl, by show 3 ≤ sizeLine; decide, fun p np => hQ _ _ (same_upd np) ?_⟩
          dsimp only
          rw [show (0 + (j : Int) + 1 + (i2 : Int)) = ((j + 1 + i2 : Nat) : Int) by omega, show (0 + (j : Int)) = ((j : Nat) : Int) by omega]
          exact kEx_new
        · have hl2 := hacc2.length
          have hl3 := hacc3.length
          rw [List.length_map] at hl2 hl3
          have b1 := hands_len ft i (by omega)
          have b2 := atHand_len ft i j (by omega)
          have b3 := atPeg_len ft i j
          rw [List.length_append] at hl2
          refine ⟨o, D, acc2, acc3, rfl, rfl, s' _ _ ho2, hD', by rw [sizeLine_eq]; omega, ?_⟩
          have tl : Tups H2 (upd H2 o (.lst (acc2 ++ acc3))) := tups_lst (s' _ _ ho2)
          refine ⟨_, _, _, rfl, same_over no (s6.trans s'), upd_same, ?_⟩
          have el : atHand W i (j + 1) = atHand W i j ++ atPeg W i j := by
            unfold atHand
            rw [List.range_succ, List.flatMap_append]
            simp
          rw [el, ← List.append_assoc, List.map_append]
          exact ((hacc2.tups (tups_same s')).tups tl).app (hacc3.tups tl)
      · obtain ⟨z5, z6, acc2, rfl, s6, ho2, hacc2⟩ := hh
        refine ⟨_, _, _, _, _, acc2, rfl, s6, ho2, ?_⟩
        have en : ((ys.length : Nat) : Int).toNat = (pegs W i).length := by omega
        rw [en] at hacc2
        rw [List.range_succ, List.flatMap_append]
        simpa using hacc2
    · obtain ⟨z2, z3, z4, z5, z6, acc, rfl, s2, ho, hacc⟩ := hh
      rw [hlen] at hacc
      exact ⟨_, rfl, qq _ _ _ s2 ho hacc⟩
/-! ### rows_of -/
theorem catA (K : PySem.W.Frag) {X : Cx} (h : X.K = K := by rfl) : OpR X (binaryOp .Add) (rCatA K) := h ▸ op_catA
abbrev sRows : Stmt := topS 19
abbrev nRows : List Str := ["web", "many", "found", "turn", "longer", "row", "one"]
theorem scRows : FnScope nRows ["web", "many"] (defScope sRows) := ⟨rfl, rfl, rfl, by decide +kernel, rfl, by decide +kernel, by decide +kernel⟩
def spRows : Sp := fun vs H Q _ => ∃ (W : Web) (m : Nat) (u : V), vs = [u, .int (m : Nat)] ∧ KD H (kWeb W) u ∧ Fit W ∧ m ≤ 2 ∧ ∀ H' l xs, Same H H' → H' l = some (.lst xs) → KDs H' ((rowsN W m).map kRow) xs → Q (.ref l) H'
theorem rows_part (W : Web) (i j : Nat) (row : List Ex) (h : (rowsN W i)[j]? = some row) : ((rowsN W i).take (j + 1)).flatMap (fun row => (singles W).map fun one => row ++ [one]) = ((rowsN W i).take j).flatMap (fun row => (singles W).map fun one => row ++ [one]) ++ (singles W).map fun one => row ++ [one] := by
  rw [List.take_succ, h, List.flatMap_append]
  simp
theorem part_len (W : Web) (F : Fit W) (i j : Nat) (hi : i ≤ 1) : (((rowsN W i).take j).flatMap (fun row => (singles W).map fun one => row ++ [one])).length ≤ 331776 := by
  have h := singles_len F
  have h1 := flatMap_len (f := fun row : List Ex => (singles W).map fun one => row ++ [one]) (b := 576) (l := (rowsN W i).take j) fun r _ => by rw [List.length_map]; exact h
  have h2 : ((rowsN W i).take j).length ≤ 576 := by
    obtain ⟨a0, a1, _⟩ := rowsN_len F
    rw [List.length_take]
    have : i = 0 ∨ i = 1 := by omega
    rcases this with rfl | rfl <;> omega
  have h3 : ((rowsN W i).take j).length * 576 ≤ 576 * 576 := Nat.mul_le_mul_right _ h2
  omega
theorem ok_rows {f fS : Addr} {fd fdS : FuncData} {k : Nat} (F : Fun K "rows_of" "rows_of" sRows f fd) (FS : Fun K "single_ones" "single_ones" sSing fS fdS) (bS : Binds K fdS ["web"] []) (gS : mg "single_ones" = some (.ref fS)) (GS : FnOk P w K mg base CX0 k fS fdS ["web"] spSingles) (mr : mg "range" = none) :
    FnOk P w K mg base CX0 (k + 1) f fd ["web", "many"] spRows := by
  refine F.ok scRows (fun vs H Q E h => ?_) (fun cdv A outer s H vs Q E hr h => ?_)
  · obtain ⟨W, m, u, rfl, _⟩ := h
    rfl
  · obtain ⟨W, m, u, rfl, hu, ft, hm, qq⟩ := h
    refine ⟨_, pss_cons (ps_set (i := 2) scRows.nd rfl (.inl rfl) (pe_lst (pa_cons (pe_tup pa_nil) pa_nil)))
      (pss_cons (ps_for PassesOwn.never rfl (pi_range1 (by rfl) mr (pa_cons (pv 1) pa_nil)) (pg_name (i := 3) scRows.nd rfl (.inl rfl))
        (pss_cons (ps_set (i := 4) scRows.nd rfl (.inl rfl) (pe_lst pa_nil))
        (pss_cons (ps_for PassesOwn.never rfl (pi_list (pv 2)) (pg_name (i := 5) scRows.nd rfl (.inr rfl))
          (pss_one (ps_expr (pe_bm PySem.F.plainAttrs_list PySem.F.slot_list_extend PySem.F.type_list_extend mt_extend (pv 4) (pa_cons
            (pe_lc (own := [("one", 6)]) (g := gName 6) (tt := tYes) (te := tOp (rCatA K) (tVar 5) (tTup (tCons (tVar 6) tNil))) rfl scRows.nd (pi_list (pe_call GS hr (by rfl) gS FS.kp bS .nil pass0 (pa_cons (pv 0) pa_nil)))
              (blkOk_by (own := [("one", 6)]) (N := nRows) (sc := defScope sRows) (by decide +kernel))
              (fun _ _ _ _ _ => pg_name (i := 6) scRows.nd rfl (.inl rfl)) (fun _ _ _ _ _ => pts_nil)
              (fun _ _ _ _ _ => pe_op (catA K) (pv 5) (pe_tup (pa_cons (pv 6) pa_nil)))) pa_nil)))))
        (pss_one (ps_set (i := 2) scRows.nd rfl (.inl rfl) (pv 4))))))
      (pss_one (ps_ret (pv 2)))), ?_⟩
    have hfew := ft.few
    refine ⟨by show 0 ≤ sizeLine; decide, fun t nt => ⟨by show 1 ≤ sizeLine; decide, fun o no => ?_⟩⟩
    have s1 := (same_upd (o := .tup []) nt).trans (same_upd (o := .lst [.ref t]) no)
    refine ⟨_, rfl, (m : Nat), rfl, by omega, by omega, for_range (lo := 0) (n := ((m : Nat) : Int).toNat) (fun i σ H' => ∃ z3 z4 z5 z6 l xs, σ = [some u, some (.int (m : Nat)), some (.ref l), z3, z4, z5, z6] ∧ Same H H' ∧ H' l = some (.lst xs) ∧ KDs H' ((rowsN W i).map kRow) xs)
      ⟨none, none, none, none, o, [.ref t], rfl, s1, upd_same, .cons (.tup (.inl (same_upd no _ _ upd_same)) .nil) .nil⟩ (fun i σ H' hi hh => ?_) (fun σ H' hh => ?_)⟩
    · obtain ⟨z3, z4, z5, z6, l, xs, rfl, s2, hl, hxs⟩ := hh
      have hi1 : i ≤ 1 := by omega
      refine ⟨Nat.zero_le _, fun o2 no2 => ?_⟩
      have s3 := same_upd (o := .lst []) no2
      have hll := hxs.length
      rw [List.length_map] at hll
      refine ⟨_, rfl, l, rfl, ⟨xs, .inl (.inl (s3 _ _ hl))⟩, for_it (walk_list (K := K) (a := l) (xs := xs)) (fun j σ H2 => ∃ z5 z6 acc, σ = [some u, some (.int (m : Nat)), some (.ref l), some (.int (0 + (i : Int))), some (.ref o2), z5, z6] ∧ Same H' H2 ∧ H2 o2 = some (.lst acc) ∧ KDs H2 ((((rowsN W i).take j).flatMap (fun row => (singles W).map fun one => row ++ [one])).map kRow) acc)
        ⟨_, _, [], rfl, s3, upd_same, .nil⟩ (fun j σ H2 hj hh => ?_) (fun j x σ H2 H3 hj hh hy => ?_) (fun σ H2 hh => ?_)⟩
      · obtain ⟨_, _, _, _, s4, _⟩ := hh
        exact .inl (.inl (s4 _ _ hl))
      · obtain ⟨z5, z6, acc, rfl, s4, ho2, hacc⟩ := hh
        obtain ⟨rfl, hx⟩ := hy
        obtain ⟨kr, hkr, hkx⟩ := (hxs.tups (tups_same s4)).get' hx
        rw [List.getElem?_map, Option.map_eq_some_iff] at hkr
        obtain ⟨row, hrow, rfl⟩ := hkr
        have hrl := row_len (List.mem_of_getElem? hrow)
        refine ⟨_, rfl, .inl ⟨rfl, _, .inl (.inl ho2)⟩, _, rfl, W, u, rfl, hu.tups (tups_same (s2.trans s4)), ft, fun H4 sl ss s5 hsl hss => ?_⟩
        have hsll := hss.length
        rw [List.length_map] at hsll
        have hsb := singles_len ft
        refine ⟨sl, rfl, ⟨ss, .inl (.inl hsl)⟩, fun D hD => comp_keys (walk_list (K := K) (a := sl) (xs := ss)) (((singles W).map fun one => row ++ [one]).map kRow) (by simp [hsll]) (by rw [sizeLine_eq]; omega) hD
          (fun H5 s' => .inl (.inl (s' _ _ hsl))) (fun i2 x2 H5 H6 kk hi2 hk s6 hy Qk hQ => ?_) (fun H5 acc3 s' hD' hacc3 => ?_)⟩
        · obtain ⟨rfl, hx2⟩ := hy
          obtain ⟨ke, hke, hkx2⟩ := hss.get' hx2
          rw [List.getElem?_map, Option.map_eq_some_iff] at hke
          obtain ⟨ex, hex, rfl⟩ := hke
          rw [List.getElem?_map, List.getElem?_map, hex] at hk
          obtain rfl := Option.some.inj hk
          obtain ⟨ra, rs, rfl, hra, hrs⟩ := (hkx.tups (tups_same (s5.trans s6))).ref
          have hrsl := hrs.length
          rw [List.length_map, hrl] at hrsl
          refine ⟨rfl, _, rfl, _, rfl, by show 1 ≤ sizeLine; decide, fun t2 nt2 => ?_⟩
          have s7 := same_upd (o := .tup [x2]) nt2
          have hkx3 := (hkx2.tups (tups_same s6)).tups (tups_same s7)
          refine ⟨ra, t2, rs, [x2], rfl, rfl, .inl (rd_same s7 hra), .inl (.inl upd_same), by rw [sizeLine_eq, List.length_singleton]; omega, fun e => ?_, (fun _ e => nomatch e), fun _ _ p np => ?_⟩
          · have er : row = [] := by
              cases row with
              | nil => rfl
              | cons _ _ => rw [e] at hrs; cases hrs
            subst er
            exact hQ _ _ s7 (.tup (.inl upd_same) (.cons hkx3 .nil))
          · refine hQ _ _ (s7.trans (same_upd np)) (.tup (.inl upd_same) ?_)
            rw [List.map_append]
            exact ((hrs.tups (tups_same s7)).app (.cons hkx3 .nil)).tups (tups_new np)
        · have hl2 := hacc.length
          have hl3 := hacc3.length
          rw [List.length_map] at hl2 hl3
          rw [List.length_map] at hl3
          have b1 := part_len W ft i j hi1
          have ho5 := (s5.trans s') _ _ ho2
          refine ⟨o2, D, acc, acc3, rfl, rfl, ho5, hD', by rw [sizeLine_eq]; omega, ?_⟩
          have tl : Tups H5 (upd H5 o2 (.lst (acc ++ acc3))) := tups_lst ho5
          refine ⟨_, _, _, rfl, same_over no2 ((s4.trans s5).trans s'), upd_same, ?_⟩
          rw [rows_part W i j row hrow, List.map_append]
          exact ((hacc.tups (tups_same (s5.trans s'))).tups tl).app (hacc3.tups tl)
      · obtain ⟨z5, z6, acc, rfl, s4, ho2, hacc⟩ := hh
        rw [hll, List.take_length] at hacc
        exact ⟨_, rfl, _, _, _, _, o2, acc, rfl, s2.trans s4, ho2, hacc⟩
    · obtain ⟨z3, z4, z5, z6, l, xs, rfl, s2, hl, hxs⟩ := hh
      have e : ((m : Nat) : Int).toNat = m := by omega
      rw [e] at hxs
      exact ⟨_, rfl, qq _ _ _ s2 hl hxs⟩
/-! ### exchanged_by -/
theorem KD.exAt {H : Hp} {e : Ex} {v : V} (h : KD H (kEx e) v) : ∃ a, v = .ref a ∧ Rd H a (.tup [.int (e.1 : Nat), .int (e.2.1 : Nat), .int (e.2.2 : Nat)]) := by
  obtain ⟨a, xs, rfl, h1, h2⟩ := h.ref
  cases h2 with
  | cons x1 x2 =>
    cases x2 with
    | cons x2 x3 =>
      cases x3 with
      | cons x3 x4 =>
        cases x4
        obtain rfl := x1.int
        obtain rfl := x2.int
        obtain rfl := x3.int
        exact ⟨a, rfl, h1⟩
theorem Fit.exAll {W : Web} : ∀ {row : List Ex}, Fit W → (∀ e ∈ row, IsEx W e) → Fit (Nl.exAll W row) := by
  intro row
  induction row generalizing W with
  | nil => exact fun F _ => F
  | cons a r ih =>
    intro F h
    have ha := h a List.mem_cons_self
    exact ih (F.exch (Nat.lt_trans ha.1 ha.2) ha.2) fun e he => isEx_exch.mpr (h e (List.mem_cons_of_mem _ he))
theorem exAll_snoc (W : Web) (r : List Ex) (e : Ex) : exAll W (r ++ [e]) = exch (exAll W r) e.1 e.2.1 e.2.2 := by
  induction r generalizing W with
  | nil => rfl
  | cons a r ih => exact ih _
def spExAll : Sp := fun vs H Q _ => ∃ (W : Web) (row : List Ex) (u v : V), vs = [u, v] ∧ KD H (kWeb W) u ∧ KD H (kRow row) v ∧ Fit W ∧ (∀ e ∈ row, IsEx W e) ∧ ∀ H' z, Same H H' → KD H' (kWeb (exAll W row)) z → Q z H'
abbrev sExBy : Stmt := topS 20
abbrev nExBy : List Str := ["web", "row", "hand", "p", "q"]
theorem scExBy : FnScope nExBy ["web", "row"] (defScope sExBy) := ⟨rfl, rfl, rfl, by decide +kernel, rfl, by decide +kernel, by decide +kernel⟩
theorem ok_exBy {f fX : Addr} {fd fdX : FuncData} {k : Nat} (F : Fun K "exchanged_by" "exchanged_by" sExBy f fd) (FX : Fun K "exchanged" "exchanged" sExch fX fdX) (bX : Binds K fdX ["web", "hand", "p", "q"] []) (gX : mg "exchanged" = some (.ref fX)) (GX : FnOk P w K mg base CX0 k fX fdX ["web", "hand", "p", "q"] spExch) :
    FnOk P w K mg base CX0 (k + 1) f fd ["web", "row"] spExAll := by
  refine F.ok scExBy (fun vs H Q E h => ?_) (fun cdv A outer s H vs Q E hr h => ?_)
  · obtain ⟨W, row, u, v, rfl, _⟩ := h
    rfl
  · obtain ⟨W, row, u, v, rfl, hu, hv, ft, hrow, qq⟩ := h
    refine ⟨_, pss_cons (ps_for PassesOwn.never rfl (pi_tup (pv 1)) (pg_tup rfl (pgs_cons (pg_name (i := 2) scExBy.nd rfl (.inl rfl)) (pgs_cons (pg_name (i := 3) scExBy.nd rfl (.inl rfl)) (pgs_cons (pg_name (i := 4) scExBy.nd rfl (.inl rfl)) pgs_nil))))
        (pss_one (ps_set (i := 0) scExBy.nd rfl (.inl rfl) (pe_call GX hr (by rfl) gX FX.kp bX .nil pass0 (pa_cons (pv 0) (pa_cons (pv 2) (pa_cons (pv 3) (pa_cons (pv 4) pa_nil))))))))
      (pss_one (ps_ret (pv 0))), ?_⟩
    obtain ⟨b, xs, rfl, hb, hxs⟩ := hv.ref
    have hl := hxs.length
    rw [List.length_map] at hl
    refine ⟨_, rfl, b, rfl, ⟨xs, .inl hb⟩, for_it (walk_tup (K := K) (a := b) (xs := xs)) (fun i σ H' => ∃ z z2 z3 z4, σ = [some z, some (.ref b), z2, z3, z4] ∧ Same H H' ∧ KD H' (kWeb (exAll W (row.take i))) z)
      ⟨u, none, none, none, rfl, Same.refl _, hu⟩ (fun i σ H' hi hh => ?_) (fun i x σ H1 H2 hi hh hy => ?_) (fun σ H' hh => ?_)⟩
    · obtain ⟨_, _, _, _, _, s2, _⟩ := hh
      exact .inl (rd_same s2 hb)
    · obtain ⟨z, z2, z3, z4, rfl, s2, hz⟩ := hh
      obtain ⟨rfl, hx⟩ := hy
      obtain ⟨ke, hke, hkx⟩ := (hxs.tups (tups_same s2)).get' hx
      rw [List.getElem?_map, Option.map_eq_some_iff] at hke
      obtain ⟨e, he, rfl⟩ := hke
      obtain ⟨c, rfl, hc⟩ := hkx.exAt
      have hie := hrow e (List.mem_of_getElem? he)
      have hpre : ∀ e ∈ row.take i, IsEx W e := fun e h => hrow e (List.mem_of_mem_take h)
      have hie2 : IsEx (exAll W (row.take i)) e := isEx_exAll.mpr hie
      refine ⟨c, _, rfl, .inl hc, rfl, _, _, rfl, _, _, rfl, _, _, rfl, rfl, _, rfl, _, rfl, _, rfl, _, rfl, exAll W (row.take i), e.1, e.2.1, e.2.2, z, rfl, hz, ft.exAll hpre, Nat.lt_trans hie2.1 hie2.2, hie2.2, fun H3 z' s3 hz' => ?_⟩
      refine ⟨z', _, _, _, rfl, s2.trans s3, ?_⟩
      rw [List.take_succ, he]
      show KD H3 (kWeb (exAll W (row.take i ++ [e]))) z'
      rw [exAll_snoc]
      exact hz'
    · obtain ⟨z, z2, z3, z4, rfl, s2, hz⟩ := hh
      rw [hl, List.take_length] at hz
      exact ⟨_, rfl, qq _ _ s2 hz⟩
end
end Nl
end

section
set_option Elab.async false
set_option linter.all false
set_option maxRecDepth 100000
namespace Nl
open PySem PySem.Spec PyProof.Rows L2
theorem find_at {α : Type} {p : α → Bool} : ∀ {l : List α} {i : Nat} {x : α}, l[i]? = some x → p x = true → (∀ j y, j < i → l[j]? = some y → p y = false) → l.find? p = some x
  | [], i, x, h, _, _ => by simp at h
  | a :: l, 0, x, h, hp, _ => by
    obtain rfl := Option.some.inj h
    rw [List.find?_cons, hp]
  | a :: l, i + 1, x, h, hp, hn => by
    rw [List.find?_cons, hn 0 a (Nat.succ_pos i) rfl]
    exact find_at (l := l) (i := i) h hp fun j y hj hy => hn (j + 1) y (Nat.succ_lt_succ hj) hy
theorem find_none {α : Type} {p : α → Bool} {l : List α} (h : ∀ x ∈ l, p x = false) : l.find? p = none := by
  rw [List.find?_eq_none]
  intro x hx
  rw [h x hx]
  exact Bool.false_ne_true
theorem few_hit {own : Web → Bool} {W : Web} {m i : Nat} {r : List Ex} (hm : m ≤ 2) (h1 : ∀ j, j < m → ∀ r ∈ rowsN W j, own (exAll W r) = false) (h2 : ∀ j y, j < i → (rowsN W m)[j]? = some y → own (exAll W y) = false) (hr : (rowsN W m)[i]? = some r) (ho : own (exAll W r) = true) : few own W = some r := by
  have e := find_at (p := fun row => own (exAll W row)) hr ho h2
  unfold few allRows
  have : m = 0 ∨ m = 1 ∨ m = 2 := by omega
  rcases this with rfl | rfl | rfl
  · rw [List.find?_append, e]; rfl
  · rw [List.find?_append, find_none (h1 0 (by omega)), List.find?_append, e]; rfl
  · rw [List.find?_append, find_none (h1 0 (by omega)), List.find?_append, find_none (h1 1 (by omega)), e]; rfl
theorem few_none {own : Web → Bool} {W : Web} (h1 : ∀ j, j < 3 → ∀ r ∈ rowsN W j, own (exAll W r) = false) : few own W = none := by
  unfold few allRows
  rw [List.find?_append, find_none (h1 0 (by omega)), List.find?_append, find_none (h1 1 (by omega)), find_none (h1 2 (by omega))]
  rfl
def kOpt : Option (List Ex) → NestedKey
  | none => .none
  | some r => kRow r
section
variable {P : Program} {w : World} {K : PySem.W.Frag} {mg : Str → Option Value} {base : Heap}
abbrev sFew : Stmt := topS 21
abbrev nFew : List Str := ["web", "many", "row"]
theorem scFew : FnScope nFew ["web"] (defScope sFew) := ⟨rfl, rfl, rfl, by decide +kernel, rfl, by decide +kernel, by decide +kernel⟩
def spFew : Sp := fun vs H Q _ => ∃ (W : Web) (u : V), vs = [u] ∧ KD H (kWeb W) u ∧ Fit W ∧ ∀ H' z, Same H H' → KD H' (kOpt (few isOwn W)) z → Q z H'
theorem ok_few {f fR fO fX : Addr} {fd fdR fdO fdX : FuncData} {k : Nat} {tM : Tok} (F : Fun K "fewest" "fewest" sFew f fd) (FR : Fun K "rows_of" "rows_of" sRows fR fdR) (bR : Binds K fdR ["web", "many"] []) (gR : mg "rows_of" = some (.ref fR)) (GR : FnOk P w K mg base CX0 k fR fdR ["web", "many"] spRows)
    (FO : Fun K "is_own" "is_own" sOwn fO fdO) (bO : Binds K fdO ["web"] []) (gO : mg "is_own" = some (.ref fO)) (GO : FnOk P w K mg base CX0 k fO fdO ["web"] spOwn)
    (FX : Fun K "exchanged_by" "exchanged_by" sExBy fX fdX) (bX : Binds K fdX ["web", "row"] []) (gX : mg "exchanged_by" = some (.ref fX)) (GX : FnOk P w K mg base CX0 k fX fdX ["web", "row"] spExAll)
    (mr : mg "range" = none) (gM : mg "MOST" = some (.int 2 tM)) : FnOk P w K mg base CX0 (k + 1) f fd ["web"] spFew := by
  refine F.ok scFew (fun vs H Q E h => ?_) (fun cdv A outer s H vs Q E hr h => ?_)
  · obtain ⟨W, u, rfl, _⟩ := h
    rfl
  · obtain ⟨W, u, rfl, hu, ft, qq⟩ := h
    refine ⟨_, pss_cons (ps_for PassesOwn.never rfl (pi_range1 (by rfl) mr (pa_cons (pe_op op_add (pe_glob (v := .int 2) (by rfl) gM ⟨_, rfl⟩) pe_int) pa_nil)) (pg_name (i := 1) scFew.nd rfl (.inl rfl))
        (pss_one (ps_for PassesOwn.never rfl (pi_list (pe_call GR hr (by rfl) gR FR.kp bR .nil pass0 (pa_cons (pv 0) (pa_cons (pv 1) pa_nil)))) (pg_name (i := 2) scFew.nd rfl (.inl rfl))
          (pss_one (ps_if (pt_val (pe_call GO hr (by rfl) gO FO.kp bO .nil pass0 (pa_cons (pe_call GX hr (by rfl) gX FX.kp bX .nil pass0 (pa_cons (pv 0) (pa_cons (pv 2) pa_nil))) pa_nil))) (pss_one (ps_ret (pv 2))) pss_nil)))))
      (pss_one (ps_ret pe_non)), ?_⟩
    refine ⟨2, 1, rfl, rfl, _, rfl, by omega, by omega, for_range (lo := 0) (n := ((2 : Int) + 1).toNat) (fun i σ H' => ∃ z1 z2, σ = [some u, z1, z2] ∧ Same H H' ∧ ∀ j, j < i → ∀ r ∈ rowsN W j, isOwn (exAll W r) = false)
      ⟨none, none, rfl, Same.refl _, fun j hj => absurd hj (Nat.not_lt_zero _)⟩ (fun i σ H' hi hh => ?_) (fun σ H' hh => ?_)⟩
    · obtain ⟨z1, z2, rfl, s2, hall⟩ := hh
      have hi2 : i ≤ 2 := by
        have : i < 3 := hi
        omega
      refine ⟨_, rfl, _, rfl, W, i, u, by rw [Int.zero_add]; rfl, hu.tups (tups_same s2), ft, hi2, fun H1 l xs s3 hl hxs => ?_⟩
      have hll := hxs.length
      rw [List.length_map] at hll
      refine ⟨l, rfl, ⟨xs, .inl (.inl hl)⟩, for_it (walk_list (K := K) (a := l) (xs := xs)) (fun j σ H2 => ∃ z2, σ = [some u, some (.int (0 + (i : Int))), z2] ∧ Same H1 H2 ∧ ∀ j', j' < j → ∀ y, (rowsN W i)[j']? = some y → isOwn (exAll W y) = false)
        ⟨_, rfl, Same.refl _, fun j' hj => absurd hj (Nat.not_lt_zero _)⟩ (fun j σ H2 hj hh => ?_) (fun j x σ H2 H3 hj hh hy => ?_) (fun σ H2 hh => ?_)⟩
      · obtain ⟨_, _, s4, _⟩ := hh
        exact .inl (.inl (s4 _ _ hl))
      · obtain ⟨z2, rfl, s4, hpre⟩ := hh
        obtain ⟨rfl, hx⟩ := hy
        obtain ⟨kr, hkr, hkx⟩ := (hxs.tups (tups_same s4)).get' hx
        rw [List.getElem?_map, Option.map_eq_some_iff] at hkr
        obtain ⟨row, hrow, rfl⟩ := hkr
        have hmem := List.mem_of_getElem? hrow
        have hvalid := (mem_rowsN.mp hmem).2
        refine ⟨_, rfl, _, rfl, W, row, u, x, rfl, hu.tups (tups_same ((s2.trans s3).trans s4)), hkx, ft, hvalid, fun H4 z s5 hz => ?_⟩
        refine ⟨exAll W row, z, rfl, hz, ft.exAll hvalid, fun H5 s6 => ⟨_, rfl, ?_⟩⟩
        refine ite2 (fun c => ?_) (fun c => ?_)
        · refine ⟨_, rfl, qq _ _ ((((s2.trans s3).trans s4).trans s5).trans s6) ?_⟩
          rw [few_hit hi2 hall (fun j' y h1 h2 => hpre j' h1 y h2) hrow c]
          exact hkx.tups (tups_same (s5.trans s6))
        · refine ⟨_, rfl, (s4.trans s5).trans s6, fun j' hj' y hy => ?_⟩
          rcases Nat.lt_or_ge j' j with q | q
          · exact hpre j' q y hy
          · have e : j' = j := by omega
            rw [e, hrow] at hy
            obtain rfl := Option.some.inj hy
            exact Bool.eq_false_iff.mpr c
      · obtain ⟨z2, rfl, s4, hpre⟩ := hh
        refine ⟨_, _, rfl, (s2.trans s3).trans s4, fun j hj r hr' => ?_⟩
        rcases Nat.lt_or_ge j i with q | q
        · exact hall j q r hr'
        · have e : j = i := by omega
          subst e
          obtain ⟨n, hn⟩ := List.getElem?_of_mem hr'
          exact hpre n (by have := (List.getElem?_eq_some_iff.mp hn).1; omega) r hn
    · obtain ⟨z1, z2, rfl, s2, hall⟩ := hh
      refine qq _ _ s2 ?_
      rw [few_none fun j hj => hall j hj]
      exact .non
end
end Nl
end

section
set_option Elab.async false
set_option linter.all false
set_option maxRecDepth 100000
namespace Nl
open PySem PySem.Spec PyProof.Rows L2
/-- the box, two whole numbers -/
def BoxAt (H : Hp) (b : Addr) : Prop := ∃ c s : Int, H b = some (.lst [.int c, .int s])
/-- all but the box is kept -/
structure Bx (b : Addr) (H H' : Hp) : Prop where
  keep : ∀ a o, a ≠ b → H a = some o → H' a = some o
  box : BoxAt H' b
theorem Bx.refl {b : Addr} {H : Hp} (h : BoxAt H b) : Bx b H H := ⟨fun _ _ _ e => e, h⟩
theorem Bx.trans {b : Addr} {H H1 H2 : Hp} (x : Bx b H H1) (y : Bx b H1 H2) : Bx b H H2 := ⟨fun a o n e => y.keep a o n (x.keep a o n e), y.box⟩
theorem Bx.same {b : Addr} {H H1 H2 : Hp} (x : Bx b H H1) (y : Same H1 H2) : Bx b H H2 := ⟨fun a o n e => y _ _ (x.keep a o n e), let ⟨c, s, e⟩ := x.box; ⟨c, s, y _ _ e⟩⟩
theorem Bx.of {b : Addr} {H H1 : Hp} (h : BoxAt H b) (y : Same H H1) : Bx b H H1 := (Bx.refl h).same y
theorem Bx.tups {b : Addr} {H H1 : Hp} (x : Bx b H H1) (h : BoxAt H b) : Tups H H1 := fun a xs r => by
  obtain ⟨c, s, e⟩ := h
  rcases r with r | ⟨o, r⟩
  · exact .inl (x.keep _ _ (fun z => by rw [z, e] at r; cases r) r)
  · exact .inr ⟨o, x.keep _ _ (fun z => by rw [z, e] at r; cases r) r⟩
theorem Bx.free {b : Addr} {H H1 : Hp} (x : Bx b H H1) {a : Addr} (h : H1 a = none) : H a = none := by
  by_cases e : a = b
  · obtain ⟨c, s, h'⟩ := x.box
    rw [e, h'] at h
    cases h
  · cases q : H a with
    | none => rfl
    | some o =>
      rw [x.keep a o e q] at h
      cases h
/-- a new object may be written -/
theorem Bx.over {b : Addr} {H H1 : Hp} {p : Addr} {o : HO} (x : Bx b H H1) (hp : H p = none) (hb : p ≠ b) : Bx b H (upd H1 p o) := by
  obtain ⟨c, s, e⟩ := x.box
  exact ⟨fun a u n h => by rw [upd_ne (ne_of_none h hp)]; exact x.keep a u n h, c, s, by rw [upd_ne hb.symm]; exact e⟩
theorem BoxAt.ne {H : Hp} {b p : Addr} (h : BoxAt H b) (hp : H p = none) : p ≠ b := by
  obtain ⟨c, s, e⟩ := h
  exact fun z => by rw [z, e] at hp; cases hp
section
variable {P : Program} {w : World} {K : PySem.W.Frag} {mg : Str → Option Value} {base : Heap}
/-! ### _law_box -/
abbrev sBox : Stmt := topS 23
abbrev nBox : List Str := ["_law_script", "_law_k", "_law_cell", "_law_seed"]
theorem scBox : FnScope nBox ["_law_script", "_law_k"] (defScope sBox) := ⟨rfl, rfl, rfl, by decide +kernel, rfl, by decide +kernel, by decide +kernel⟩
def spBox (K : PySem.W.Frag) : Sp := fun vs H Q _ => ∃ (a : Addr) (ns : List Int), vs = [.ref a, .int 0] ∧ SqL K H a (ns.map V.int) ∧ ns.length ≤ 63 ∧ ∀ H' b, Same H H' → BoxAt H' b → H b = none → Q (.ref b) H'
theorem ok_box {f : Addr} {fd : FuncData} {k : Nat} (F : Fun K "_law_box" "_law_box" sBox f fd) (ml : mg "len" = none) (mi : mg "int" = none) : FnOk P w K mg base CX0 (k + 1) f fd ["_law_script", "_law_k"] (spBox K) := by
  refine F.ok scBox (fun vs H Q E h => ?_) (fun cdv A outer s H vs Q E hr h => ?_)
  · obtain ⟨a, ns, rfl, _⟩ := h
    rfl
  · obtain ⟨a, ns, rfl, hS, hlen, q⟩ := h
    refine ⟨_, pss_cons (ps_set (i := 2) scBox.nd rfl (.inl rfl) (pe_op op_mod (pe_op op_pow (pe_op op_add (pe_op op_mul pe_int (pv 1)) pe_int) pe_int) pe_int))
      (C8.pss_cut (ps_if (pt_cmpR op_lt (pv 1) (pe_callB (call_lenK K) (by rfl) ml PySem.boot_len (pa_cons (pv 0) pa_nil)) (nomark _))
        (pss_one (ps_set (i := 2) scBox.nd rfl (.inl rfl) (pe_ix ix_list (pv 0) (pv 1) (fun _ _ => rfl))))
        (pss_one (ps_if (pt_cmpR op_gt (pe_callB (call_lenK K) (by rfl) ml PySem.boot_len (pa_cons (pv 0) pa_nil)) pe_int (nomark _))
          (pss_one (ps_set (i := 2) scBox.nd rfl (.inl rfl) (pe_op op_add (pv 2) (pe_op op_mul (pe_op op_mod (pe_ix ix_list (pv 0) (pe_op op_mod (pv 1) (pe_callB (call_lenK K) (by rfl) ml PySem.boot_len (pa_cons (pv 0) pa_nil))) (fun _ _ => rfl)) pe_int) pe_int)))) pss_nil)))
      (pss_cons (ps_set (i := 3) scBox.nd rfl (.inl rfl) (pe_op op_add (pe_op op_mod (pe_op op_pow (pe_op op_add (pe_op op_add (pe_op op_mod (pv 2) pe_int) (pe_op op_mul pe_int (pv 1))) pe_int) pe_int) pe_int) pe_int))
      (pss_one (ps_ret (pe_lst (pa_cons (pe_ix ix_list (pe_lst (pa_cons pe_int (pa_cons (pv 2) pa_nil))) (pe_callTy call_int1 (by rfl) mi (by decide +kernel) (pa_cons (pe_cmpR op_ge (pv 2) (pe_op op_pow pe_int pe_int) (nomark _)) pa_nil)) (fun _ _ => rfl)) (pa_cons (pv 3) pa_nil))))))), ?_⟩
    refine ⟨_, rfl, _, _, rfl, rfl, .inl ⟨by decide, by decide⟩, _, _, rfl, rfl, _, _, rfl, rfl, ⟨by decide, by decide, by decide⟩, _, _, rfl, rfl, by decide, ?_⟩
    refine ⟨fun σ H' => ∃ c : Int, σ = [some (.ref a), some (.int 0), some (.int c), none] ∧ H' = H, ?_, ?_⟩
    · refine ⟨_, rfl, _, rfl, a, _, rfl, .inl hS, _, _, rfl, rfl, _, rfl, ?_⟩
      refine ite2 (fun c1 => ?_) (fun c1 => ?_)
      · have h1 : (0 : Int) < ((ns.map V.int).length : Nat) := of_decide_eq_true c1
        rw [List.length_map] at h1
        have h2 : 0 < ns.length := by omega
        exact ⟨_, rfl, _, rfl, a, _, 0, .int ns[0], rfl, rfl, hS, atI_nat (j := 0) (by rw [List.getElem?_map, List.getElem?_eq_getElem h2]; rfl), _, rfl, rfl⟩
      · refine ⟨_, rfl, a, _, rfl, .inl hS, _, _, rfl, rfl, _, rfl, ?_⟩
        refine ite2 (fun c2 => ?_) (fun c2 => ?_)
        · exfalso
          have h1 : ¬ ((0 : Int) < ((ns.map V.int).length : Nat)) := fun z => c1 (decide_eq_true z)
          exact h1 (of_decide_eq_true c2)
        · exact ⟨_, rfl, rfl⟩
    · rintro σ H' ⟨c, rfl, rfl⟩
      refine ⟨_, rfl, _, _, rfl, rfl, (by show (0 : Int) < 2147483629; decide), _, rfl, _, _, rfl, rfl, .inl ⟨by decide, by decide⟩, _, _, rfl, rfl, _, _, rfl, rfl, _, _, rfl, rfl, ⟨by decide, by decide, by omega⟩, _, _, rfl, rfl, (by show (0 : Int) < 2147483647; decide), _, _, rfl, rfl, ?_⟩
      refine ⟨_, rfl, by show 2 ≤ sizeLine; decide, fun p np => ?_⟩
      refine ⟨_, rfl, _, _, rfl, rfl, ⟨by decide, by decide, by decide⟩, _, _, rfl, rfl, .inr ⟨_, rfl, ?_⟩⟩
      have at' : ∀ kk : Bool, atI [V.int 0, V.int c] (if kk = true then 1 else 0) = some (.int (if kk = true then c else 0)) := fun kk => by cases kk <;> rfl
      refine ⟨p, _, _, _, rfl, rfl, .inl (.inl upd_same), at' _, _, rfl, by show 2 ≤ sizeLine; decide, fun b nb => q _ b ((same_upd np).trans (same_upd nb)) ⟨_, _, upd_same⟩ ((same_upd np).free nb)⟩
/-! ### _law_take -/
abbrev sTake : Stmt := topS 24
abbrev nTake : List Str := ["_law_box_here", "_law_wide", "_law_digit", "_law_one"]
theorem scTake : FnScope nTake ["_law_box_here", "_law_wide"] (defScope sTake) := ⟨rfl, rfl, rfl, by decide +kernel, rfl, by decide +kernel, by decide +kernel⟩
def spTake : Sp := fun vs H Q _ => ∃ (b : Addr) (n : Nat), vs = [.ref b, .int (n : Nat)] ∧ BoxAt H b ∧ 0 < n ∧ n < 1000 ∧ ∀ H' (d : Nat), Bx b H H' → d < n → Q (.int (d : Nat)) H'
theorem ok_take {f : Addr} {fd : FuncData} {k : Nat} (F : Fun K "_law_take" "_law_take" sTake f fd) : FnOk P w K mg base CX0 (k + 1) f fd ["_law_box_here", "_law_wide"] spTake := by
  refine F.ok scTake (fun vs H Q E h => ?_) (fun cdv A outer s H vs Q E hr h => ?_)
  · obtain ⟨b, n, rfl, _⟩ := h
    rfl
  · obtain ⟨b, n, rfl, hb, h0, h1, q⟩ := h
    refine ⟨_, pss_cons (ps_if (pt_cmpR op_gt (pe_ix ix_list (pv 0) pe_int (fun _ _ => rfl)) pe_int (nomark _))
        (pss_cons (ps_set (i := 2) scTake.nd rfl (.inl rfl) (pe_op op_mod (pe_ix ix_list (pv 0) pe_int (fun _ _ => rfl)) (pv 1)))
        (pss_cons (ps_asg (pe_op op_fdiv (pe_ix ix_list (pv 0) pe_int (fun _ _ => rfl)) (pv 1)) (pg_sub (pv 0) pe_int set_list))
        (pss_one (ps_ret (pv 2))))) pss_nil)
      (pss_cons (ps_set (i := 3) scTake.nd rfl (.inl rfl) (pe_op op_mod (pe_op op_mul (pe_ix ix_list (pv 0) pe_int (fun _ _ => rfl)) pe_int) pe_int))
      (pss_cons (ps_asg (pe_op op_add (pe_op op_mod (pe_op op_add (pe_op op_mul (pv 3) pe_int) pe_int) pe_int) pe_int) (pg_sub (pv 0) pe_int set_list))
      (pss_one (ps_ret (pe_op op_mod (pe_op op_fdiv (pe_op op_add (pe_op op_mul (pv 3) pe_int) (pe_ix ix_list (pv 0) pe_int (fun _ _ => rfl))) pe_int) (pv 1)))))), ?_⟩
    obtain ⟨c, s0, hb⟩ := hb
    have bx : ∀ c' s' : Int, Bx b H (upd H b (.lst [.int c', .int s'])) := fun c' s' => ⟨fun a o ne e => by rw [upd_ne ne]; exact e, c', s', upd_same⟩
    have fin : ∀ (x : Int) (H' : Hp), Bx b H H' → Q (.int (x % (n : Nat))) H' := fun x H' hx => by
      have e1 := Int.emod_nonneg x (show ((n : Nat) : Int) ≠ 0 by omega)
      have e2 := Int.emod_lt_of_pos x (show (0 : Int) < ((n : Nat) : Int) by omega)
      have e3 : x % ((n : Nat) : Int) = (((x % ((n : Nat) : Int)).toNat : Nat) : Int) := by omega
      rw [e3]
      exact q _ _ hx (by omega)
    have sq : SqL K H b [.int c, .int s0] := .inl (.inl hb)
    refine ⟨_, rfl, b, _, 0, _, rfl, rfl, sq, atI_nat (j := 0) rfl, _, _, rfl, rfl, _, rfl, ?_⟩
    refine ite2 (fun c1 => ?_) (fun c1 => ?_)
    · refine ⟨_, rfl, b, _, 0, _, rfl, rfl, sq, atI_nat (j := 0) rfl, _, rfl, _, _, rfl, rfl, by omega, ?_⟩
      refine ⟨_, rfl, b, _, 0, _, rfl, rfl, sq, atI_nat (j := 0) rfl, _, rfl, _, _, rfl, rfl, ⟨by omega, by omega⟩, ?_⟩
      exact ⟨_, rfl, b, _, 0, 0, rfl, rfl, hb, rfl, _, rfl, fin _ _ (bx _ _)⟩
    · refine ⟨_, rfl, b, _, 1, _, rfl, rfl, sq, atI_nat (j := 1) rfl, _, _, rfl, rfl, .inr ⟨by decide, by decide⟩, _, _, rfl, rfl, (by show (0 : Int) < 2147483647; decide), ?_⟩
      refine ⟨_, rfl, _, _, rfl, rfl, .inr ⟨by decide, by decide⟩, _, _, rfl, rfl, _, _, rfl, rfl, (by show (0 : Int) < 2147483629; decide), _, _, rfl, rfl, ?_⟩
      refine ⟨_, rfl, b, _, 1, 1, rfl, rfl, hb, rfl, ?_⟩
      exact ⟨_, rfl, _, _, rfl, rfl, .inr ⟨by decide, by decide⟩, _, rfl, b, _, 1, _, rfl, rfl, .inl (.inl upd_same), atI_nat (j := 1) rfl, _, _, rfl, rfl, _, _, rfl, rfl, ⟨by decide, by decide⟩, _, rfl, _, _, rfl, rfl, by omega, fin _ _ (bx _ _)⟩
end
end Nl
end

section
set_option Elab.async false
set_option linter.all false
set_option maxRecDepth 100000
namespace Nl
open PySem PySem.Spec PyProof.Rows L2
theorem ixN_nat {n j : Nat} (h : j < n) : ixN n (j : Int) = some j := by
  unfold ixN
  rw [if_pos (by omega), if_pos (by omega)]
  simp
theorem map_erase {α β : Type} (f : α → β) : ∀ (l : List α) (i : Nat), (l.map f).eraseIdx i = (l.eraseIdx i).map f
  | [], _ => rfl
  | _ :: _, 0 => rfl
  | a :: l, i + 1 => by simp [map_erase f l i]
theorem erase_perm {α : Type} : ∀ (l : List α) (i : Nat) (h : i < l.length), (l[i] :: l.eraseIdx i).Perm l
  | [], _, h => absurd h (Nat.not_lt_zero _)
  | _ :: _, 0, _ => List.Perm.refl _
  | a :: l, i + 1, h => by
    have ih := erase_perm l i (by simpa using h)
    simp only [List.getElem_cons_succ, List.eraseIdx_cons_succ]
    exact (List.Perm.swap _ _ _).trans (ih.cons a)
section
variable {P : Program} {w : World} {K : PySem.W.Frag} {mg : Str → Option Value} {base : Heap}
/-! ### _law_shuffled -/
abbrev sShuf : Stmt := topS 25
abbrev nShuf : List Str := ["_law_box_here", "_law_many", "_law_left", "_law_k"]
theorem scShuf : FnScope nShuf ["_law_box_here", "_law_many"] (defScope sShuf) := ⟨rfl, rfl, rfl, by decide +kernel, rfl, by decide +kernel, by decide +kernel⟩
def vNums (r : List Nat) : List V := r.map fun (i : Nat) => V.int i
def spShuf : Sp := fun vs H Q _ => ∃ (b : Addr) (n : Nat), vs = [.ref b, .int (n : Nat)] ∧ BoxAt H b ∧ n < 1000 ∧ ∀ H' l r, Bx b H H' → H' l = some (.lst (vNums r)) → IsPerm r n → H l = none → Q (.ref l) H'
theorem rgV_nums (n : Nat) : rgV 0 ((n : Nat) : Int) = vNums (List.range n) := by
  unfold rgV vNums
  rw [show (((n : Nat) : Int) - 0).toNat = n by omega]
  refine List.map_congr_left fun i _ => ?_
  rw [Int.zero_add]
theorem perm_isPerm {r : List Nat} {n : Nat} (h : r.Perm (List.range n)) : IsPerm r n := ⟨by rw [h.length_eq, List.length_range], h.nodup_iff.mpr List.nodup_range, fun x hx => List.mem_range.mp (h.mem_iff.mp hx)⟩
theorem ok_shuf {f fT : Addr} {fd fdT : FuncData} {k : Nat} (F : Fun K "_law_shuffled" "_law_shuffled" sShuf f fd) (FT : Fun K "_law_take" "_law_take" sTake fT fdT) (bT : Binds K fdT ["_law_box_here", "_law_wide"] []) (gT : mg "_law_take" = some (.ref fT)) (GT : FnOk P w K mg base CX0 k fT fdT ["_law_box_here", "_law_wide"] spTake) (mli : mg "list" = none) (mr : mg "range" = none) :
    FnOk P w K mg base CX0 (k + 1) f fd ["_law_box_here", "_law_many"] spShuf := by
  refine F.ok scShuf (fun vs H Q E h => ?_) (fun cdv A outer s H vs Q E hr h => ?_)
  · obtain ⟨b, n, rfl, _⟩ := h
    rfl
  · obtain ⟨b, n, rfl, hb, hn, q⟩ := h
    refine ⟨_, pss_cons (ps_set (i := 2) scShuf.nd rfl (.inr rfl) (pe_listRg rfl (by rfl) mli (prg_1 (by rfl) mr (pv 1))))
      (pss_one (ps_ret (pe_lc (own := [("_law_k", 3)]) (g := gName 3) (tt := tYes) (te := tBM K "list" rPopAt (tVar 2) (tCons (tCall spTake [] E0 (tCons (tVar 0) (tCons (tOp (rI0 fun i j => .int (i - j)) (tVar 1) (tVar 3)) tNil))) tNil)) rfl scShuf.nd (pi_range1 (by rfl) mr (pa_cons (pv 1) pa_nil))
          (blkOk_by (own := [("_law_k", 3)]) (N := nShuf) (sc := defScope sShuf) (by decide +kernel))
          (fun _ _ _ _ _ => pg_name (i := 3) scShuf.nd rfl (.inl rfl)) (fun _ _ _ _ _ => pts_nil)
          (fun _ _ _ _ _ => pe_bmK K PySem.F.plainAttrs_list PySem.F.slot_list_pop PySem.F.type_list_pop mt_popAt (pv 2) (pa_cons (pe_call GT hr (by rfl) gT FT.kp bT .nil pass0 (pa_cons (pv 0) (pa_cons (pe_op op_sub (pv 1) (pv 3)) pa_nil))) pa_nil))))), ?_⟩
    refine ⟨_, rfl, (n : Nat), rfl, RgOk.of_le (by omega) (by omega) (by omega) (by omega), fun L nL => ?_⟩
    rw [rgV_nums]
    have sL := same_upd (o := .lst (vNums (List.range n))) nL
    have hLb := hb.ne nL
    refine ⟨_, rfl, (n : Nat), rfl, by omega, by omega, fun D hD => lc_it (walk_range (lo := 0) (n := ((n : Nat) : Int).toNat)) (fun i H' => Bx b H H' ∧ ∃ acc rest : List Nat, H' D = some (.lst (vNums acc)) ∧ H' L = some (.lst (vNums rest)) ∧ (acc ++ rest).Perm (List.range n) ∧ acc.length = i)
      ⟨(Bx.of hb sL).same (same_upd hD), [], List.range n, upd_same, (same_upd hD) _ _ upd_same, List.Perm.refl _, rfl⟩ (fun i H' _ _ => trivial) (fun i x H1 H2 hi hh hy => ?_) (fun H' hh => ?_)⟩
    · obtain ⟨rfl, rfl⟩ := hy
      obtain ⟨bx, acc, rest, hDv, hLv, hp, hal⟩ := hh
      have hplen := hp.length_eq
      rw [List.length_append, List.length_range] at hplen
      have hDb : D ≠ b := hb.ne (sL.free hD)
      have hDL : D ≠ L := fun e => by rw [e, upd_same] at hD; cases hD
      refine ⟨rfl, ⟨_, rfl, .inl ⟨rfl, _, .inl (.inl hLv)⟩, _, rfl, _, rfl, _, rfl, _, _, rfl, rfl, b, n - i, ?_, bx.box, by omega, by omega, fun H3 d bx3 hd => ?_⟩⟩
      · dsimp only
        rw [show ((n : Nat) : Int) - (0 + (i : Int)) = ((n - i : Nat) : Int) by omega]
        rfl
      · have hdl : d < rest.length := by omega
        have hL3 := bx3.keep _ _ hLb hLv
        have hD3 := bx3.keep _ _ hDb hDv
        refine ⟨L, vNums rest, _, d, .int (rest[d] : Nat), rfl, rfl, hL3, by omega, by omega, (ixN_seq (ixN_nat (by simpa [vNums] using hdl))).1, by simp [vNums, hdl], ?_⟩
        refine ⟨vNums acc, by rw [upd_ne hDL]; exact hD3, by rw [sizeLine_eq]; simp [vNums]; omega, ?_⟩
        have b4 : Bx b H (upd H3 L (.lst ((vNums rest).eraseIdx d))) := (bx.trans bx3).over nL hLb
        refine ⟨b4.over (sL.free hD) hDb, acc ++ [rest[d]], rest.eraseIdx d, ?_, ?_, ?_, by simp [hal]⟩
        · rw [upd_same]; simp [vNums]
        · rw [upd_ne hDL.symm, upd_same]
          rw [vNums, map_erase]; rfl
        · rw [List.append_assoc]
          exact (List.Perm.append_left acc (erase_perm rest d hdl)).trans hp
    · obtain ⟨bx, acc, rest, hDv, hLv, hp, hal⟩ := hh
      have hplen := hp.length_eq
      rw [List.length_append, List.length_range] at hplen
      have hr0 : rest = [] := List.eq_nil_of_length_eq_zero (by omega)
      subst hr0
      rw [List.append_nil] at hp
      exact q _ _ _ bx hDv (perm_isPerm hp) (sL.free hD)
end
end Nl
end

section
set_option Elab.async false
set_option linter.all false
set_option maxRecDepth 100000
namespace Nl
open PySem PySem.Spec PyProof.Rows L2
section
variable {P : Program} {w : World} {K : PySem.W.Frag} {mg : Str → Option Value} {base : Heap}
/-! ### _law_marks -/
abbrev sMarks : Stmt := topS 27
abbrev nMarks : List Str := ["_law_box_here", "_law_many", "_law_form", "_law_two", "_law_k"]
theorem scMarks : FnScope nMarks ["_law_box_here", "_law_many"] (defScope sMarks) := ⟨rfl, rfl, rfl, by decide +kernel, rfl, by decide +kernel, by decide +kernel⟩
def spMarks : Sp := fun vs H Q _ => ∃ (b : Addr) (n : Nat), vs = [.ref b, .int (n : Nat)] ∧ BoxAt H b ∧ n < 1000 ∧ ∀ H' l (ms : List Int), Bx b H H' → H' l = some (.lst (ms.map V.int)) → ms.length = n → H l = none → Q (.ref l) H'
theorem rep_one {α : Type} (n : Nat) (x : α) : (List.replicate n [x]).flatten = List.replicate n x := by
  induction n with
  | zero => rfl
  | succ n ih => simp [List.replicate_succ, ih]
theorem ok_marks {f fT : Addr} {fd fdT : FuncData} {k : Nat} (F : Fun K "_law_marks" "_law_marks" sMarks f fd) (FT : Fun K "_law_take" "_law_take" sTake fT fdT) (bT : Binds K fdT ["_law_box_here", "_law_wide"] []) (gT : mg "_law_take" = some (.ref fT)) (GT : FnOk P w K mg base CX0 k fT fdT ["_law_box_here", "_law_wide"] spTake) (mr : mg "range" = none) :
    FnOk P w K mg base CX0 (k + 1) f fd ["_law_box_here", "_law_many"] spMarks := by
  refine F.ok scMarks (fun vs H Q E h => ?_) (fun cdv A outer s H vs Q E hr h => ?_)
  · obtain ⟨b, n, rfl, _⟩ := h
    rfl
  · obtain ⟨b, n, rfl, hb, hn, q⟩ := h
    refine ⟨_, pss_cons (ps_set (i := 2) scMarks.nd rfl (.inr rfl) (pe_call GT hr (by rfl) gT FT.kp bT .nil pass0 (pa_cons (pv 0) (pa_cons pe_int pa_nil))))
      (pss_cons (ps_set (i := 3) scMarks.nd rfl (.inr rfl) (pe_tup (pa_cons (pe_call GT hr (by rfl) gT FT.kp bT .nil pass0 (pa_cons (pv 0) (pa_cons pe_int pa_nil))) (pa_cons (pe_call GT hr (by rfl) gT FT.kp bT .nil pass0 (pa_cons (pv 0) (pa_cons pe_int pa_nil))) pa_nil))))
      (pss_cons (ps_if (pt_cmpR op_lt (pv 2) pe_int (nomark _)) (pss_one (ps_ret (pe_op op_rep (pe_lst (pa_cons (pe_ix ix_tup (pv 3) pe_int (fun _ _ => rfl)) pa_nil)) (pv 1)))) pss_nil)
      (pss_one (ps_ret (pe_lc (own := [("_law_k", 4)]) (g := gName 4) (tt := tYes) (te := tOp (rIxL K) (tLst (tCons (tOp (rIxT K) (tVar 3) (tCall spTake [] E0 (tCons (tVar 0) (tCons (tC (.int 2)) tNil)))) (tCons (tCall spTake [] E0 (tCons (tVar 0) (tCons (tC (.int 10)) tNil))) tNil))) (tOp (rI0 fun i j => .int (i - j)) (tVar 2) (tC (.int 2)))) rfl scMarks.nd (pi_range1 (by rfl) mr (pa_cons (pv 1) pa_nil))
          (blkOk_by (own := [("_law_k", 4)]) (N := nMarks) (sc := defScope sMarks) (by decide +kernel))
          (fun _ _ _ _ _ => pg_name (i := 4) scMarks.nd rfl (.inl rfl)) (fun _ _ _ _ _ => pts_nil)
          (fun _ _ _ _ _ => pe_ix (ixL K) (pe_lst (pa_cons (pe_ix (ixT K) (pv 3) (pe_call GT hr (by rfl) gT FT.kp bT .nil pass0 (pa_cons (pv 0) (pa_cons pe_int pa_nil))) (fun _ _ => rfl)) (pa_cons (pe_call GT hr (by rfl) gT FT.kp bT .nil pass0 (pa_cons (pv 0) (pa_cons pe_int pa_nil))) pa_nil))) (pe_op op_sub (pv 2) pe_int) (fun _ _ => rfl))))))), ?_⟩
    refine ⟨_, rfl, b, 4, rfl, hb, by decide, by decide, fun H1 d1 x1 h1 => ?_⟩
    refine ⟨_, rfl, b, 10, rfl, x1.box, by decide, by decide, fun H2 d2 x2 h2 => ⟨_, rfl, b, 10, rfl, x2.box, by decide, by decide, fun H3 d3 x3 h3 => ⟨by show 2 ≤ sizeLine; decide, fun t nt => ?_⟩⟩⟩
    have x4 : Bx b H (upd H3 t (.tup [.int (d2 : Nat), .int (d3 : Nat)])) := ((x1.trans x2).trans x3).same (same_upd nt)
    have tb : t ≠ b := x3.box.ne nt
    refine ⟨_, rfl, _, _, rfl, rfl, _, rfl, ite2 (fun c1 => ?_) (fun c1 => ?_)⟩
    · refine ⟨_, rfl, t, _, 0, _, rfl, rfl, .inl (.inl upd_same), atI_nat (j := 0) rfl, by show 1 ≤ sizeLine; decide, fun o no => ?_⟩
      refine ⟨_, rfl, o, _, _, rfl, rfl, upd_same, by omega, by omega, by rw [sizeLine_eq, List.length_singleton]; omega, fun p np => ?_⟩
      refine q _ p (List.replicate n (d2 : Nat)) ((x4.same (same_upd no)).same (same_upd np)) ?_ List.length_replicate (x4.free ((same_upd no).free np))
      rw [upd_same, rep_one, List.map_replicate, show ((n : Nat) : Int).toNat = n by omega]
    · have hd1 : d1 = 2 ∨ d1 = 3 := by
        have : ¬ ((d1 : Nat) : Int) < 2 := fun z => c1 (decide_eq_true z)
        omega
      refine ⟨_, rfl, (n : Nat), rfl, by omega, by omega, fun D hD => lc_it (walk_range (lo := 0) (n := ((n : Nat) : Int).toNat)) (fun i H' => Bx b H H' ∧ H' t = some (.tup [.int (d2 : Nat), .int (d3 : Nat)]) ∧ ∃ acc : List Int, H' D = some (.lst (acc.map V.int)) ∧ acc.length = i)
        ⟨x4.same (same_upd hD), (same_upd hD) _ _ upd_same, [], upd_same, rfl⟩ (fun i H' _ _ => trivial) (fun i x H1 H2 hi hh hy => ?_) (fun H' hh => ?_)⟩
      · obtain ⟨rfl, rfl⟩ := hy
        obtain ⟨bx, ht, acc, hDv, hal⟩ := hh
        have hDb : D ≠ b := hb.ne (x4.free hD)
        refine ⟨rfl, _, rfl, _, rfl, b, 2, rfl, bx.box, by decide, by decide, fun H5 e1 x5 g1 => ?_⟩
        have ht5 := x5.keep _ _ tb ht
        have sel : ∃ z : Int, atI [V.int (d2 : Nat), V.int (d3 : Nat)] ((e1 : Nat) : Int) = some (.int z) := by
          have : e1 = 0 ∨ e1 = 1 := by omega
          rcases this with rfl | rfl
          · exact ⟨_, rfl⟩
          · exact ⟨_, rfl⟩
        obtain ⟨z, hz⟩ := sel
        refine ⟨t, _, _, _, rfl, rfl, .inl (.inl ht5), hz, _, rfl, b, 10, rfl, x5.box, by decide, by decide, fun H6 e2 x6 g2 => ⟨by show 2 ≤ sizeLine; decide, fun o no => ?_⟩⟩
        have sel2 : ∃ y : Int, atI [V.int z, V.int (e2 : Nat)] (((d1 : Nat) : Int) - 2) = some (.int y) := by
          rcases hd1 with rfl | rfl
          · exact ⟨_, rfl⟩
          · exact ⟨_, rfl⟩
        obtain ⟨y, hy⟩ := sel2
        have so := same_upd (o := .lst [V.int z, V.int (e2 : Nat)]) no
        have x7 := ((bx.trans x5).trans x6).same so
        refine ⟨_, rfl, _, _, rfl, rfl, o, _, _, _, rfl, rfl, .inl (.inl upd_same), hy, ?_⟩
        refine ⟨acc.map V.int, so _ _ (x6.keep _ _ hDb (x5.keep _ _ hDb hDv)), by rw [sizeLine_eq, List.length_map]; omega, ?_⟩
        have hDt : t ≠ D := fun e => by rw [← e, upd_same] at hD; cases hD
        refine ⟨x7.over (x4.free hD) hDb, by rw [upd_ne hDt]; exact so _ _ (x6.keep _ _ tb ht5), acc ++ [y], ?_, by simp [hal]⟩
        rw [upd_same]; simp
      · obtain ⟨bx, ht, acc, hDv, hal⟩ := hh
        exact q _ _ acc bx hDv (by omega) (x4.free hD)
end
end Nl
end

section
set_option Elab.async false
set_option linter.all false
set_option maxRecDepth 100000
namespace Nl
open PySem PySem.Spec PyProof.Rows L2
def kTie (t : Tie) : NestedKey := .tup [kPeg t.1, kPeg t.2]
/-- the lists of ties and of counts as they stand -/
structure Tied (b C L : Addr) (H H' : Hp) (c : List Nat) (T : List Tie) : Prop where
  bx : Bx b H H'
  hC : H' C = some (.lst (vNums c))
  hL : ∃ vs, H' L = some (.lst vs) ∧ KDs H' (T.map kTie) vs
structure Apart (b C L : Addr) (H : Hp) : Prop where
  box : BoxAt H b
  nC : H C = none
  nL : H L = none
  CL : C ≠ L
theorem Apart.Cb {b C L : Addr} {H : Hp} (A : Apart b C L H) : C ≠ b := A.box.ne A.nC
theorem Apart.Lb {b C L : Addr} {H : Hp} (A : Apart b C L H) : L ≠ b := A.box.ne A.nL
section
variable {b C L : Addr} {H H1 H2 : Hp} {c : List Nat} {T : List Tie}
theorem Tied.move (h : Tied b C L H H1 c T) (A : Apart b C L H) (x : Bx b H1 H2) : Tied b C L H H2 c T := by
  obtain ⟨vs, h1, h2⟩ := h.hL
  exact ⟨h.bx.trans x, x.keep _ _ A.Cb h.hC, vs, x.keep _ _ A.Lb h1, h2.tups (x.tups h.bx.box)⟩
theorem Tied.same (h : Tied b C L H H1 c T) (A : Apart b C L H) (x : Same H1 H2) : Tied b C L H H2 c T := h.move A (Bx.of h.bx.box x)
theorem Tied.set (h : Tied b C L H H1 c T) (A : Apart b C L H) (i v : Nat) : Tied b C L H (upd H1 C (.lst ((vNums c).set i (.int (v : Nat))))) (c.set i v) T := by
  obtain ⟨vs, h1, h2⟩ := h.hL
  refine ⟨h.bx.over A.nC A.Cb, ?_, vs, by rw [upd_ne A.CL.symm]; exact h1, h2.tups (tups_lst h.hC)⟩
  rw [upd_same, vNums, vNums, ← List.map_set]
theorem Tied.app (h : Tied b C L H H1 c T) (A : Apart b C L H) {p1 p2 p3 : Addr} {x y : Nat × Nat} (n1 : H1 p1 = none) (n2 : (upd H1 p1 (.tup [.int (x.1 : Nat), .int (x.2 : Nat)])) p2 = none)
    (n3 : (upd (upd H1 p1 (.tup [.int (x.1 : Nat), .int (x.2 : Nat)])) p2 (.tup [.int (y.1 : Nat), .int (y.2 : Nat)])) p3 = none) :
    ∃ vs, (upd (upd (upd H1 p1 (.tup [.int (x.1 : Nat), .int (x.2 : Nat)])) p2 (.tup [.int (y.1 : Nat), .int (y.2 : Nat)])) p3 (.tup [.ref p1, .ref p2])) L = some (.lst vs) ∧ vs.length = T.length ∧
      Tied b C L H (upd (upd (upd (upd H1 p1 (.tup [.int (x.1 : Nat), .int (x.2 : Nat)])) p2 (.tup [.int (y.1 : Nat), .int (y.2 : Nat)])) p3 (.tup [.ref p1, .ref p2])) L (.lst (vs ++ [.ref p3]))) c (T ++ [(x, y)]) := by
  have s1 := same_upd (o := .tup [.int (x.1 : Nat), .int (x.2 : Nat)]) n1
  have s2 := same_upd (o := .tup [.int (y.1 : Nat), .int (y.2 : Nat)]) n2
  have s3 := same_upd (o := .tup [.ref p1, .ref p2]) n3
  have h3 := h.same A ((s1.trans s2).trans s3)
  obtain ⟨vs, e1, e2⟩ := h3.hL
  refine ⟨vs, e1, by have := e2.length; simpa using this, h3.bx.over A.nL A.Lb, by rw [upd_ne A.CL]; exact h3.hC, _, upd_same, ?_⟩
  have tl := tups_lst (o := .lst (vs ++ [.ref p3])) e1
  rw [List.map_append]
  refine (e2.tups tl).app (.cons ?_ .nil)
  have k1 : KD _ (kPeg x) (.ref p1) := (kPeg_new (H := H1) (p := p1) (i := x.1) (j := x.2)).tups (tups_same (s2.trans s3))
  have k2 : KD _ (kPeg y) (.ref p2) := (kPeg_new (H := upd H1 p1 (.tup [.int (x.1 : Nat), .int (x.2 : Nat)])) (p := p2) (i := y.1) (j := y.2)).tups (tups_same s3)
  exact (KD.tup (.inl upd_same) (.cons k1 (.cons k2 .nil))).tups tl
end
def someOf (c : List Nat) (m : Nat) : List Nat := (List.range m).filter fun g => decide (at0 c g < 3)
theorem mem_someOf {c : List Nat} {m g : Nat} : g ∈ someOf c m ↔ g < m ∧ at0 c g < 3 := by
  unfold someOf
  rw [List.mem_filter, List.mem_range, decide_eq_true_eq]
theorem someOf_len (c : List Nat) (m : Nat) : (someOf c m).length ≤ m := by
  have := List.length_filter_le (fun g => decide (at0 c g < 3)) (List.range m)
  rwa [List.length_range] at this
theorem at0_set' {c : List Nat} {i j v : Nat} (hi : i < c.length) : at0 (c.set i v) j = if j = i then v else at0 c j := by
  rw [at0_set hi]
  by_cases h : i = j
  · rw [if_pos h, if_pos h.symm]
  · rw [if_neg h, if_neg fun e => h e.symm]
theorem yesB {A B : Prop} (h : A) : if true = true then A else B := by rw [if_pos rfl]; exact h
theorem noB {A B : Prop} (h : B) : if false = true then A else B := by rw [if_neg (by decide)]; exact h
theorem decY {p A B : Prop} [Decidable p] (hp : p) (h : A) : if decide p = true then A else B := by rw [if_pos (decide_eq_true hp)]; exact h
theorem decN {p A B : Prop} [Decidable p] (hp : ¬ p) (h : B) : if decide p = true then A else B := by rw [if_neg (fun e => hp (of_decide_eq_true e))]; exact h
theorem atI_vn {l : List Nat} {d : Nat} (h : d < l.length) : atI (vNums l) ((d : Nat) : Int) = some (.int (at0 l d : Nat)) :=
  atI_nat (by rw [vNums, List.getElem?_map, at0_get h]; rfl)
theorem at0_mem {l : List Nat} {d : Nat} (h : d < l.length) : at0 l d ∈ l := List.mem_of_getElem? (at0_get h)
section
variable {P : Program} {w : World} {K : PySem.W.Frag} {mg : Str → Option Value} {base : Heap}
/-- [g for g in range(m) if count[g] < room] -/
theorem some_W {C D : Addr} {c : List Nat} {m : Nat} {H1 : Hp} {Qd : Hp → Prop} {x0 x1 x4 x5 x6 x7 x8 x9 : Option V} (hD : H1 D = none) (hC : H1 C = some (.lst (vNums c))) (hm : m ≤ c.length) (hs : m < 1000)
    (hd : ∀ H', Same H1 H' → H' D = some (.lst (vNums (someOf c m))) → Qd H') :
    ∃ W : Nat → Nat → Hp → Prop, (∃ k, W 0 k (upd H1 D (.lst []))) ∧ ∀ i k H, W i k H →
      ((Itr 0 m).stop i H ∧ Qd H) ∨ ((Itr 0 m).go i H ∧ ∃ Nx : Hp → Prop, (∀ H', Nx H' → ∃ m', m' < k ∧ W (i + 1) m' H') ∧ ∀ x H', (Itr 0 m).yld i H x H' → gName 7 x (wipe [x0, x1, some (.int 3), some (.ref C), x4, x5, x6, x7, x8, x9] [7]) H' fun σ2 H2 => wipe σ2 [7] = wipe [x0, x1, some (.int 3), some (.ref C), x4, x5, x6, x7, x8, x9] [7] ∧
        tTest (tOp (rI0 fun i j => V.bl (decide (i < j))) (tOp (rIxL K) (tVar 3) (tVar 7)) (tVar 2)) σ2 H2 fun b H3 => if b = true then tVar 7 σ2 H3 fun y H4 => ∃ acc, H4 D = some (.lst acc) ∧ acc.length < sizeLine ∧ Nx (upd H4 D (.lst (acc ++ [y]))) else Nx H3) := by
  refine lc_it (walk_range (lo := 0) (n := m)) (fun i H' => Same H1 H' ∧ H' D = some (.lst (vNums (someOf c i)))) ⟨same_upd hD, upd_same⟩ (fun i H' _ _ => trivial) (fun i x H H' hi hh hy => ?_) fun H' hh => hd H' hh.1 hh.2
  obtain ⟨rfl, rfl⟩ := hy
  obtain ⟨s1, hDv⟩ := hh
  have hi' : i < c.length := by omega
  refine ⟨rfl, _, rfl, _, rfl, C, _, _, .int (at0 c i : Nat), rfl, rfl, .inl (.inl (s1 _ _ hC)), ?_, _, rfl, _, _, rfl, rfl, _, rfl, ?_⟩
  · rw [Int.zero_add]
    exact atI_nat (by rw [vNums, List.getElem?_map, at0_get hi']; rfl)
  · have es : someOf c (i + 1) = someOf c i ++ (if at0 c i < 3 then [i] else []) := by
      unfold someOf
      rw [List.range_succ, List.filter_append]
      congr 1
      by_cases h : at0 c i < 3 <;> simp [h]
    refine ite2 (fun c1 => ?_) (fun c1 => ?_)
    · have c2 : at0 c i < 3 := by have := of_decide_eq_true c1; omega
      refine ⟨_, rfl, _, hDv, ?_, same_over hD s1, ?_⟩
      · have := someOf_len c i
        rw [sizeLine_eq]; simp [vNums]; omega
      · rw [upd_same, es, if_pos c2]
        simp [vNums]
    · have c2 : ¬ at0 c i < 3 := fun z => c1 (decide_eq_true (by omega))
      refine ⟨s1, ?_⟩
      rw [es, if_neg c2, List.append_nil]
      exact hDv
/-! ### _law_ties -/
abbrev sTies : Stmt := topS 26
abbrev nTies : List Str := ["_law_box_here", "_law_many", "_law_room", "_law_count_here", "_law_ties_here", "_law_h", "_law_some", "_law_g", "_law_k", "_law_form"]
theorem scTies : FnScope nTies ["_law_box_here", "_law_many", "_law_room"] (defScope sTies) := ⟨rfl, rfl, rfl, by decide +kernel, rfl, by decide +kernel, by decide +kernel⟩
def spTies : Sp := fun vs H Q _ => ∃ (b : Addr) (n : Nat), vs = [.ref b, .int (n : Nat), .int 3] ∧ BoxAt H b ∧ 0 < n ∧ n ≤ 9 ∧ ∀ H' p L C c T, Apart b C L H → Tied b C L H H' c T → H' p = some (.tup [.ref L, .ref C]) → TieInv n c T → Tree n T → T.length < 100 → Q (.ref p) H'
theorem zeros (n : Nat) : (List.replicate n (V.int 0)) = vNums (List.replicate n 0) := by
  unfold vNums
  rw [List.map_replicate]
  rfl
theorem at0_zeros (n g : Nat) : at0 (List.replicate n 0) g = 0 := by
  unfold at0
  simp [List.getD_eq_getElem?_getD, List.getElem?_replicate]
  split <;> rfl
theorem ok_ties {f fT : Addr} {fd fdT : FuncData} {k : Nat} (F : Fun K "_law_ties" "_law_ties" sTies f fd) (FT : Fun K "_law_take" "_law_take" sTake fT fdT) (bT : Binds K fdT ["_law_box_here", "_law_wide"] []) (gT : mg "_law_take" = some (.ref fT)) (GT : FnOk P w K mg base CX0 k fT fdT ["_law_box_here", "_law_wide"] spTake) (mr : mg "range" = none) (ml : mg "len" = none) :
    FnOk P w K mg base CX0 (k + 1) f fd ["_law_box_here", "_law_many", "_law_room"] spTies := by
  refine F.ok scTies (fun vs H Q E h => ?_) (fun cdv A outer s H vs Q E hr h => ?_)
  · obtain ⟨b, n, rfl, _⟩ := h
    rfl
  · obtain ⟨b, n, rfl, hb, hn0, hn, q⟩ := h
    refine ⟨_, pss_cons (ps_set (i := 3) scTies.nd rfl (.inr rfl) (pe_op op_rep (pe_lst (pa_cons pe_int pa_nil)) (pv 1)))
      (pss_cons (ps_set (i := 4) scTies.nd rfl (.inl rfl) (pe_lst pa_nil))
      (pss_cons (ps_for PassesOwn.never rfl (pi_range2 (by rfl) mr (pa_cons pe_int (pa_cons (pv 1) pa_nil))) (pg_name (i := 5) scTies.nd rfl (.inl rfl))
        (pss_cons (ps_setLc (i := 6) (own := [("_law_g", 7)]) (g := gName 7) (tt := tTest (tOp (rI0 fun i j => V.bl (decide (i < j))) (tOp (rIxL K) (tVar 3) (tVar 7)) (tVar 2))) (te := tVar 7) rfl scTies.nd rfl rfl (sw_true rfl rfl rfl (by decide +kernel)) (pi_range1 (by rfl) mr (pa_cons (pv 5) pa_nil))
            (blkOk_by (own := [("_law_g", 7)]) (N := nTies) (sc := defScope sTies) (by decide +kernel))
            (fun _ _ _ _ _ => pg_name (i := 7) scTies.nd rfl (.inl rfl)) (fun _ _ _ _ _ => pts_one (pt_cmpR op_lt (pe_ix (ixL K) (pv 3) (pv 7) (fun _ _ => rfl)) (pv 2) (nomark _)))
            (fun _ _ _ _ _ => pv 7))
        (pss_cons (ps_set (i := 7) scTies.nd rfl (.inl rfl) (pe_ix ix_list (pv 6) (pe_call GT hr (by rfl) gT FT.kp bT .nil pass0 (pa_cons (pv 0) (pa_cons (pe_callB (call_lenK K) (by rfl) ml PySem.boot_len (pa_cons (pv 6) pa_nil)) pa_nil))) (fun _ _ => rfl)))
        (pss_cons (ps_expr (pe_bm PySem.F.plainAttrs_list PySem.F.slot_list_append PySem.F.type_list_append mt_append (pv 4) (pa_cons (pe_tup (pa_cons (pe_tup (pa_cons (pv 5) (pa_cons pe_int pa_nil))) (pa_cons (pe_tup (pa_cons (pv 7) (pa_cons (pe_ix ix_list (pv 3) (pv 7) (fun _ _ => rfl)) pa_nil))) pa_nil))) pa_nil)))
        (pss_one (ps_asg (pe_tup (pa_cons pe_int (pa_cons (pe_op op_add (pe_ix ix_list (pv 3) (pv 7) (fun _ _ => rfl)) pe_int) pa_nil))) (pg_tup rfl (pgs_cons (pg_sub (pv 3) (pv 5) set_list) (pgs_cons (pg_sub (pv 3) (pv 7) set_list) pgs_nil)))))))))
      (pss_cons (ps_for PassesOwn.never rfl (pi_range1 (by rfl) mr (pa_cons (pe_call GT hr (by rfl) gT FT.kp bT .nil pass0 (pa_cons (pv 0) (pa_cons pe_int pa_nil))) pa_nil)) (pg_name (i := 8) scTies.nd rfl (.inl rfl))
        (pss_cons (ps_setLc (i := 6) (own := [("_law_g", 7)]) (g := gName 7) (tt := tTest (tOp (rI0 fun i j => V.bl (decide (i < j))) (tOp (rIxL K) (tVar 3) (tVar 7)) (tVar 2))) (te := tVar 7) rfl scTies.nd rfl rfl (sw_true rfl rfl rfl (by decide +kernel)) (pi_range1 (by rfl) mr (pa_cons (pv 1) pa_nil))
            (blkOk_by (own := [("_law_g", 7)]) (N := nTies) (sc := defScope sTies) (by decide +kernel))
            (fun _ _ _ _ _ => pg_name (i := 7) scTies.nd rfl (.inl rfl)) (fun _ _ _ _ _ => pts_one (pt_cmpR op_lt (pe_ix (ixL K) (pv 3) (pv 7) (fun _ _ => rfl)) (pv 2) (nomark _)))
            (fun _ _ _ _ _ => pv 7))
        (pss_one (ps_if (pt_cmpR op_gt (pe_callB (call_lenK K) (by rfl) ml PySem.boot_len (pa_cons (pv 6) pa_nil)) pe_int (nomark _))
          (pss_cons (ps_set (i := 9) scTies.nd rfl (.inl rfl) (pe_call GT hr (by rfl) gT FT.kp bT .nil pass0 (pa_cons (pv 0) (pa_cons pe_int pa_nil))))
          (pss_cons (ps_par (i := 7) (j := 5) (by rfl) scTies.nd rfl rfl (by decide) rfl rfl
            (pa_cons (pe_ix ix_list (pv 6) (pe_call GT hr (by rfl) gT FT.kp bT .nil pass0 (pa_cons (pv 0) (pa_cons (pe_callB (call_lenK K) (by rfl) ml PySem.boot_len (pa_cons (pv 6) pa_nil)) pa_nil))) (fun _ _ => rfl))
              (pa_cons (pe_ix ix_list (pv 6) (pe_call GT hr (by rfl) gT FT.kp bT .nil pass0 (pa_cons (pv 0) (pa_cons (pe_callB (call_lenK K) (by rfl) ml PySem.boot_len (pa_cons (pv 6) pa_nil)) pa_nil))) (fun _ _ => rfl)) pa_nil)) (by rfl))
          (C8.pss_cut (ps_if (PW.pt (pw_or (pt_cmpR op_eq (pv 9) pe_int (nomark _)) (pw_or1 (PW.pt (pw_and (pt_cmpR op_eq (pv 7) (pv 5) (nomark _)) (pw_and1 (pt_cmpR op_eq (pe_op op_add (pe_ix ix_list (pv 3) (pv 7) (fun _ _ => rfl)) pe_int) (pv 2) (nomark _))))))))
            (pss_cons (ps_set (i := 5) scTies.nd rfl (.inl rfl) (pv 7))
            (pss_one (ps_expr (pe_bm PySem.F.plainAttrs_list PySem.F.slot_list_append PySem.F.type_list_append mt_append (pv 4) (pa_cons (pe_tup (pa_cons (pe_tup (pa_cons (pv 7) (pa_cons (pe_ix ix_list (pv 3) (pv 7) (fun _ _ => rfl)) pa_nil))) (pa_cons (pe_tup (pa_cons (pv 7) (pa_cons (pe_ix ix_list (pv 3) (pv 7) (fun _ _ => rfl)) pa_nil))) pa_nil))) pa_nil)))))
            (pss_one (ps_if (pt_cmpR op_eq (pv 7) (pv 5) (nomark _))
              (pss_cons (ps_expr (pe_bm PySem.F.plainAttrs_list PySem.F.slot_list_append PySem.F.type_list_append mt_append (pv 4) (pa_cons (pe_tup (pa_cons (pe_tup (pa_cons (pv 7) (pa_cons (pe_ix ix_list (pv 3) (pv 7) (fun _ _ => rfl)) pa_nil))) (pa_cons (pe_tup (pa_cons (pv 7) (pa_cons (pe_op op_add (pe_ix ix_list (pv 3) (pv 7) (fun _ _ => rfl)) pe_int) pa_nil))) pa_nil))) pa_nil)))
              (pss_one (ps_asg (pe_op op_add (pe_ix ix_list (pv 3) (pv 7) (fun _ _ => rfl)) pe_int) (pg_sub (pv 3) (pv 7) set_list))))
              (pss_cons (ps_expr (pe_bm PySem.F.plainAttrs_list PySem.F.slot_list_append PySem.F.type_list_append mt_append (pv 4) (pa_cons (pe_tup (pa_cons (pe_tup (pa_cons (pv 7) (pa_cons (pe_ix ix_list (pv 3) (pv 7) (fun _ _ => rfl)) pa_nil))) (pa_cons (pe_tup (pa_cons (pv 5) (pa_cons (pe_ix ix_list (pv 3) (pv 5) (fun _ _ => rfl)) pa_nil))) pa_nil))) pa_nil)))
              (pss_one (ps_asg (pe_op op_add (pe_ix ix_list (pv 3) (pv 5) (fun _ _ => rfl)) pe_int) (pg_sub (pv 3) (pv 5) set_list)))))))
          (pss_one (ps_asg (pe_op op_add (pe_ix ix_list (pv 3) (pv 7) (fun _ _ => rfl)) pe_int) (pg_sub (pv 3) (pv 7) set_list)))))) pss_nil))))
      (pss_one (ps_ret (pe_tup (pa_cons (pv 4) (pa_cons (pv 3) pa_nil)))))))), ?_⟩
    refine ⟨by show 1 ≤ sizeLine; decide, fun o no => ?_⟩
    have so := same_upd (o := .lst [V.int 0]) no
    refine ⟨_, rfl, o, _, _, rfl, rfl, upd_same, by omega, by omega, by rw [sizeLine_eq, List.length_singleton]; omega, fun C nC => ?_⟩
    rw [rep_one, show ((n : Nat) : Int).toNat = n by omega, zeros]
    have sC := same_upd (o := .lst (vNums (List.replicate n 0))) nC
    refine ⟨Nat.zero_le _, fun L nL => ?_⟩
    have sL := same_upd (o := .lst []) nL
    have hCH : H C = none := so.free nC
    have hLH : H L = none := (so.trans sC).free nL
    have CL : C ≠ L := fun e => by rw [← e, upd_same] at nL; cases nL
    have A1 : Apart b C L H := ⟨hb, hCH, hLH, CL⟩
    have t0 : Tied b C L H (upd (upd (upd H o (.lst [V.int 0])) C (.lst (vNums (List.replicate n 0)))) L (.lst [])) (List.replicate n 0) [] := ⟨Bx.of hb ((so.trans sC).trans sL), sL _ _ upd_same, [], upd_same, .nil⟩
    refine ⟨_, rfl, 1, (n : Nat), rfl, ⟨by omega, by omega, by omega, by omega⟩, for_range (lo := 1) (n := (((n : Nat) : Int) - 1).toNat) (fun i σ H' => ∃ z5 z6 z7 z8 z9 c T, σ = [some (.ref b), some (.int (n : Nat)), some (.int 3), some (.ref C), some (.ref L), z5, z6, z7, z8, z9] ∧ Tied b C L H H' c T ∧ TieInv n c T ∧ Tree (i + 1) T ∧ T.length ≤ i ∧ at0 c i ≤ 1 ∧ ∀ g, i < g → at0 c g = 0)
      ⟨none, none, none, none, none, _, [], rfl, t0, TieInv.start n, fun g h0 h1 => by omega, Nat.le_refl _, by rw [at0_zeros]; omega, fun g _ => at0_zeros n g⟩ (fun i σ H' hi hh => ?_) (fun σ H' hh => ?_)⟩
    · obtain ⟨z5, z6, z7, z8, z9, c, T, rfl, td, I, tr, hTl, hc1, hc0⟩ := hh
      have hin : i + 1 < n := by omega
      have hcl := I.len
      rw [show (1 : Int) + (i : Int) = ((i + 1 : Nat) : Int) by omega]
      refine ⟨_, rfl, ((i + 1 : Nat) : Int), rfl, by omega, by omega, fun D hD => some_W (m := i + 1) hD td.hC (by omega) (by omega) fun H1 s1 h1 => ?_⟩
      have hne : i ∈ someOf c (i + 1) := mem_someOf.mpr ⟨by omega, by omega⟩
      have hpos := List.length_pos_of_mem hne
      have hle := someOf_len c (i + 1)
      refine ⟨_, rfl, _, rfl, _, rfl, D, _, rfl, .inl (.inl (.inl h1)), b, (someOf c (i + 1)).length, by simp [vNums], (td.same A1 s1).bx.box, hpos, by omega, fun H2 d x2 hd => ?_⟩
      have td2 := (td.same A1 s1).move A1 x2
      have hDb : D ≠ b := hb.ne (td.bx.free hD)
      refine ⟨D, _, _, _, rfl, rfl, .inl (.inl (x2.keep _ _ hDb h1)), atI_vn hd, ?_⟩
      obtain ⟨hg1, hg2⟩ := mem_someOf.mp (at0_mem hd)
      generalize hg : at0 (someOf c (i + 1)) d = g at hg1 hg2
      refine ⟨_, rfl, .inl ⟨rfl, _, .inl (.inl td2.hL.choose_spec.1)⟩, _, rfl, by show 2 ≤ sizeLine; decide, fun p1 n1 => ?_⟩
      have s3 := same_upd (o := .tup [.int ((i + 1 : Nat) : Int), .int 0]) n1
      refine ⟨_, rfl, _, rfl, _, rfl, C, _, _, _, rfl, rfl, .inl (.inl (s3 _ _ td2.hC)), atI_vn (d := g) (by omega), by show 2 ≤ sizeLine; decide, fun p2 n2 => ⟨by show 2 ≤ sizeLine; decide, fun p3 n3 => ?_⟩⟩
      obtain ⟨vs, e1, e2, td3⟩ := td2.app A1 (x := (i + 1, 0)) (y := (g, at0 c g)) n1 n2 n3
      refine ⟨L, vs, _, rfl, rfl, e1, by rw [sizeLine_eq]; omega, ?_⟩
      refine ⟨_, rfl, _, rfl, C, _, _, _, rfl, rfl, .inl (.inl td3.hC), atI_vn (d := g) (by omega), _, _, rfl, rfl, by show 2 ≤ sizeLine; decide, fun p4 n4 => ?_⟩
      have td4 := td3.same A1 (same_upd (o := .tup [.int 1, .int ((at0 c g : Nat) + 1 : Int)]) n4)
      refine ⟨p4, _, rfl, .inl (.inl upd_same), rfl, _, _, rfl, _, rfl, _, rfl, C, _, _, i + 1, rfl, rfl, td4.hC, ixN_nat (by simp [vNums]; omega), ?_⟩
      have td5 := td4.set A1 (i + 1) 1
      refine ⟨_, _, rfl, _, rfl, _, rfl, C, _, _, g, rfl, rfl, td5.hC, ixN_nat (by simp [vNums]; omega), rfl, ?_⟩
      have td6 := td5.set A1 g (at0 c g + 1)
      have hc' : ∀ j, at0 ((c.set (i + 1) 1).set g (at0 c g + 1)) j = if g = j then at0 c g + 1 else if i + 1 = j then 1 else at0 c j := fun j => by
        rw [at0_set (by simp; omega), at0_set (by omega)]
      refine ⟨_, _, _, _, _, _, _, rfl, td6, ?_, ?_, by simp; omega, ?_, ?_⟩
      · have := I.two (a := i + 1) (b := g) hin (by omega) (by omega) (by rw [hc0 _ (by omega)]; omega) hg2 (c' := (c.set (i + 1) 1).set g (at0 c g + 1)) (by simp [hcl]) (fun j => by
          rw [hc', hc0 (i + 1) (by omega)]
          by_cases q1 : g = j
          · rw [if_pos q1, if_neg (by omega), if_pos q1.symm]
          · rw [if_neg q1]
            by_cases q2 : i + 1 = j
            · rw [if_pos q2, if_pos q2.symm]
            · rw [if_neg q2, if_neg (by omega), if_neg (by omega)])
        rwa [hc0 (i + 1) (by omega)] at this
      · intro g2 h0 h1
        by_cases q1 : g2 = i + 1
        · exact ⟨g, by omega, 0, at0 c g, by rw [q1]; simp⟩
        · exact tr.more g2 h0 (by omega)
      · rw [hc', if_neg (by omega), if_pos rfl]
        exact Nat.le_refl _
      · intro g2 h2
        rw [hc', if_neg (by omega), if_neg (by omega), hc0 g2 (by omega)]
    · obtain ⟨z5, z6, z7, z8, z9, c, T, rfl, td, I, tr, hTl, hc1, hc0⟩ := hh
      have hn1 : (((n : Nat) : Int) - 1).toNat = n - 1 := by omega
      rw [hn1] at tr hTl
      rw [show n - 1 + 1 = n by omega] at tr
      clear hc1 hc0 hn1
      have hcl := I.len
      refine ⟨_, rfl, b, 4, rfl, td.bx.box, by decide, by decide, fun H1 d1 x1 h1 => ⟨_, rfl, by omega, by omega, ?_⟩⟩
      refine for_range (lo := 0) (n := ((d1 : Nat) : Int).toNat) (fun i σ H' => ∃ z5 z6 z7 z8 z9 c T, σ = [some (.ref b), some (.int (n : Nat)), some (.int 3), some (.ref C), some (.ref L), z5, z6, z7, z8, z9] ∧ Tied b C L H H' c T ∧ TieInv n c T ∧ Tree n T ∧ T.length ≤ n + i)
        ⟨z5, z6, z7, z8, z9, c, T, rfl, td.move A1 x1, I, tr, by omega⟩ (fun i σ H' hi hh => ?_) (fun σ H' hh => ?_)
      · clear I tr hcl hTl td
        obtain ⟨z5, z6, z7, z8, z9, c, T, rfl, td, I, tr, hTl⟩ := hh
        have hcl := I.len
        refine ⟨_, rfl, (n : Nat), rfl, by omega, by omega, fun D hD => some_W (m := n) hD td.hC (by omega) (by omega) fun H1 s1 h1 => ?_⟩
        have td1 := td.same A1 s1
        refine ⟨_, rfl, D, _, rfl, .inl (.inl (.inl h1)), _, _, rfl, rfl, _, rfl, ite2 (fun q1 => ?_) (fun q1 => ?_)⟩
        · have hpos : 0 < (someOf c n).length := by
            have := of_decide_eq_true q1
            simp [vNums] at this
            omega
          have hle := someOf_len c n
          refine ⟨_, rfl, b, 3, rfl, td1.bx.box, by decide, by decide, fun H2 d2 x2 hd2 => ?_⟩
          have td2 := td1.move A1 x2
          have hDb : D ≠ b := hb.ne (td.bx.free hD)
          have hD2 := x2.keep _ _ hDb h1
          refine ⟨_, rfl, _, rfl, _, rfl, D, _, rfl, .inl (.inl (.inl hD2)), b, (someOf c n).length, by simp [vNums], td2.bx.box, hpos, by omega, fun H3 d3 x3 hd3 => ?_⟩
          have td3 := td2.move A1 x3
          have hD3 := x3.keep _ _ hDb hD2
          refine ⟨D, _, _, _, rfl, rfl, .inl (.inl hD3), atI_vn hd3, ?_⟩
          refine ⟨_, rfl, _, rfl, _, rfl, D, _, rfl, .inl (.inl (.inl hD3)), b, (someOf c n).length, by simp [vNums], td3.bx.box, hpos, by omega, fun H4 d4 x4 hd4 => ?_⟩
          have td4 := td3.move A1 x4
          refine ⟨D, _, _, _, rfl, rfl, .inl (.inl (x4.keep _ _ hDb hD3)), atI_vn hd4, _, _, rfl, ?_⟩
          obtain ⟨hg1, hg2⟩ := mem_someOf.mp (at0_mem hd3)
          obtain ⟨hh1, hh2⟩ := mem_someOf.mp (at0_mem hd4)
          generalize at0 (someOf c n) d3 = g at hg1 hg2
          generalize at0 (someOf c n) d4 = h at hh1 hh2
          refine ⟨fun σ H' => ∃ z5 z6 z8 z9 c1 T1, σ = [some (.ref b), some (.int (n : Nat)), some (.int 3), some (.ref C), some (.ref L), z5, z6, some (.int (g : Nat)), z8, z9] ∧ Tied b C L H H' c1 T1 ∧ c1.length = n ∧ TieInv n (c1.set g (at0 c1 g + 1)) T1 ∧ Tree n T1 ∧ T1.length ≤ n + i + 1, ?_, ?_⟩
          · refine ⟨_, rfl, rfl, _, rfl, ite2 (fun q2 => ?_) (fun q2 => ?_)⟩
            · refine yesB ?_
              refine ⟨_, rfl, _, rfl, .inl ⟨rfl, _, .inl (.inl td4.hL.choose_spec.1)⟩, _, rfl, _, rfl, _, rfl, C, _, _, _, rfl, rfl, .inl (.inl td4.hC), atI_vn (d := g) (by omega), by show 2 ≤ sizeLine; decide, fun p1 n1 => ?_⟩
              have u1 := same_upd (o := .tup [.int (g : Nat), .int (at0 c g : Nat)]) n1
              refine ⟨_, rfl, _, rfl, _, rfl, C, _, _, _, rfl, rfl, .inl (.inl (u1 _ _ td4.hC)), atI_vn (d := g) (by omega), by show 2 ≤ sizeLine; decide, fun p2 n2 => ⟨by show 2 ≤ sizeLine; decide, fun p3 n3 => ?_⟩⟩
              obtain ⟨vs, e1, e2, td5⟩ := td4.app A1 (x := (g, at0 c g)) (y := (g, at0 c g)) n1 n2 n3
              exact ⟨L, vs, _, rfl, rfl, e1, by rw [sizeLine_eq]; omega, _, _, _, _, c, _, rfl, td5, hcl, I.one hg1 hg2 (by simp [hcl]) (fun j => by
                rw [at0_set (by omega)]
                by_cases q9 : g = j
                · rw [if_pos q9, if_pos q9.symm]
                · rw [if_neg q9, if_neg (fun e => q9 e.symm)]), tr.more, by simp; omega⟩
            · refine ⟨_, rfl, _, rfl, rfl, _, rfl, ite2 (fun q3 => ?_) (fun q3 => ?_)⟩
              · have egh : g = h := by
                  have := of_decide_eq_true q3
                  injection this with this
                  omega
                subst egh
                refine ⟨_, rfl, _, rfl, C, _, _, _, rfl, rfl, .inl (.inl td4.hC), atI_vn (d := g) (by omega), _, _, rfl, rfl, _, rfl, rfl, _, rfl, ite2 (fun q4 => ?_) (fun q4 => ?_)⟩
                · refine ⟨_, rfl, _, rfl, .inl ⟨rfl, _, .inl (.inl td4.hL.choose_spec.1)⟩, _, rfl, _, rfl, _, rfl, C, _, _, _, rfl, rfl, .inl (.inl td4.hC), atI_vn (d := g) (by omega), by show 2 ≤ sizeLine; decide, fun p1 n1 => ?_⟩
                  have u1 := same_upd (o := .tup [.int (g : Nat), .int (at0 c g : Nat)]) n1
                  refine ⟨_, rfl, _, rfl, _, rfl, C, _, _, _, rfl, rfl, .inl (.inl (u1 _ _ td4.hC)), atI_vn (d := g) (by omega), by show 2 ≤ sizeLine; decide, fun p2 n2 => ⟨by show 2 ≤ sizeLine; decide, fun p3 n3 => ?_⟩⟩
                  obtain ⟨vs, e1, e2, td5⟩ := td4.app A1 (x := (g, at0 c g)) (y := (g, at0 c g)) n1 n2 n3
                  exact ⟨L, vs, _, rfl, rfl, e1, by rw [sizeLine_eq]; omega, _, _, _, _, c, _, rfl, td5, hcl, I.one hg1 hg2 (by simp [hcl]) (fun j => by
                    rw [at0_set (by omega)]
                    by_cases q9 : g = j
                    · rw [if_pos q9, if_pos q9.symm]
                    · rw [if_neg q9, if_neg (fun e => q9 e.symm)]), tr.more, by simp; omega⟩
                · have hlt : at0 c g + 1 < 3 := by
                    have : ¬ (at0 c g + 1 = 3) := fun e => q4 (decide_eq_true (congrArg V.int (show ((at0 c g : Nat) : Int) + 1 = 3 by omega)))
                    omega
                  refine ⟨_, rfl, _, rfl, rfl, _, rfl, ?_⟩
                  refine decY rfl ?_
                  refine ⟨_, rfl, .inl ⟨rfl, _, .inl (.inl td4.hL.choose_spec.1)⟩, _, rfl, _, rfl, _, rfl, C, _, _, _, rfl, rfl, .inl (.inl td4.hC), atI_vn (d := g) (by omega), by show 2 ≤ sizeLine; decide, fun p1 n1 => ?_⟩
                  have u1 := same_upd (o := .tup [.int (g : Nat), .int (at0 c g : Nat)]) n1
                  refine ⟨_, rfl, _, rfl, _, rfl, C, _, _, _, rfl, rfl, .inl (.inl (u1 _ _ td4.hC)), atI_vn (d := g) (by omega), _, _, rfl, rfl, by show 2 ≤ sizeLine; decide, fun p2 n2 => ⟨by show 2 ≤ sizeLine; decide, fun p3 n3 => ?_⟩⟩
                  obtain ⟨vs, e1, e2, td5⟩ := td4.app A1 (x := (g, at0 c g)) (y := (g, at0 c g + 1)) n1 n2 n3
                  refine ⟨L, vs, _, rfl, rfl, e1, by rw [sizeLine_eq]; omega, ?_⟩
                  refine ⟨_, rfl, _, rfl, C, _, _, _, rfl, rfl, .inl (.inl td5.hC), atI_vn (d := g) (by omega), _, _, rfl, rfl, _, rfl, _, rfl, C, _, _, g, rfl, rfl, td5.hC, ixN_nat (by simp [vNums]; omega), ?_⟩
                  have hs : ∀ j, at0 (c.set g (at0 c g + 1)) j = if j = g then at0 c g + 1 else at0 c j := fun j => at0_set' (by omega)
                  exact ⟨_, _, _, _, c.set g (at0 c g + 1), _, rfl, td5.set A1 g (at0 c g + 1), by simp [hcl], I.loop hg1 hlt (by simp [hcl]) (fun j => by
                    rw [at0_set' (by simp; omega), hs, hs]
                    by_cases q9 : j = g <;> simp [q9]), tr.more, by simp; omega⟩
              · have egh : g ≠ h := fun e => q3 (decide_eq_true (by rw [e]))
                refine noB ⟨_, rfl, _, rfl, rfl, _, rfl, decN (fun e => q3 (decide_eq_true e)) ?_⟩
                refine ⟨_, rfl, .inl ⟨rfl, _, .inl (.inl td4.hL.choose_spec.1)⟩, _, rfl, _, rfl, _, rfl, C, _, _, _, rfl, rfl, .inl (.inl td4.hC), atI_vn (d := g) (by omega), by show 2 ≤ sizeLine; decide, fun p1 n1 => ?_⟩
                have u1 := same_upd (o := .tup [.int (g : Nat), .int (at0 c g : Nat)]) n1
                refine ⟨_, rfl, _, rfl, _, rfl, C, _, _, _, rfl, rfl, .inl (.inl (u1 _ _ td4.hC)), atI_vn (d := h) (by omega), by show 2 ≤ sizeLine; decide, fun p2 n2 => ⟨by show 2 ≤ sizeLine; decide, fun p3 n3 => ?_⟩⟩
                obtain ⟨vs, e1, e2, td5⟩ := td4.app A1 (x := (g, at0 c g)) (y := (h, at0 c h)) n1 n2 n3
                refine ⟨L, vs, _, rfl, rfl, e1, by rw [sizeLine_eq]; omega, ?_⟩
                refine ⟨_, rfl, _, rfl, C, _, _, _, rfl, rfl, .inl (.inl td5.hC), atI_vn (d := h) (by omega), _, _, rfl, rfl, _, rfl, _, rfl, C, _, _, h, rfl, rfl, td5.hC, ixN_nat (by simp [vNums]; omega), ?_⟩
                have hs : ∀ j, at0 (c.set h (at0 c h + 1)) j = if j = h then at0 c h + 1 else at0 c j := fun j => at0_set' (by omega)
                exact ⟨_, _, _, _, c.set h (at0 c h + 1), _, rfl, td5.set A1 h (at0 c h + 1), by simp [hcl], I.two hg1 hh1 egh hg2 hh2 (by simp [hcl]) (fun j => by
                    rw [at0_set' (by simp; omega), hs, hs, if_neg egh]), tr.more, by simp; omega⟩
          · rintro σ H' ⟨z5, z6, z8, z9, c1, T1, rfl, td, hcl1, I1, tr1, hl1⟩
            refine ⟨_, rfl, _, rfl, C, _, _, _, rfl, rfl, .inl (.inl td.hC), atI_vn (d := g) (by omega), _, _, rfl, rfl, _, rfl, _, rfl, C, _, _, g, rfl, rfl, td.hC, ixN_nat (by simp [vNums]; omega), ?_⟩
            exact ⟨_, _, _, _, _, _, _, rfl, td.set A1 g (at0 c1 g + 1), I1, tr1, by omega⟩
        · exact ⟨_, _, _, _, _, _, _, rfl, td1, I, tr, by omega⟩
      · clear I tr hcl hTl td
        obtain ⟨z5, z6, z7, z8, z9, c, T, rfl, td, I, tr, hTl⟩ := hh
        refine ⟨_, rfl, _, rfl, by show 2 ≤ sizeLine; decide, fun p np => ?_⟩
        exact q _ p L C c T A1 (td.same A1 (same_upd np)) upd_same I tr (by omega)
end
end Nl
end

section
set_option Elab.async false
set_option linter.all false
set_option maxRecDepth 100000
namespace Nl
open PySem PySem.Spec PyProof.Rows L2
/-- rows of lists that are written anew in place -/
structure PegTab (Hn H' : Hp) (D : Addr) (ps : List Addr) (A : Tab) : Prop where
  same : Same Hn H'
  hD : H' D = some (.lst (ps.map V.ref))
  nD : Hn D = none
  nd : ps.Nodup
  len : ps.length = A.length
  fresh : ∀ p ∈ ps, Hn p = none ∧ p ≠ D
  row : ∀ g p, ps[g]? = some p → ∃ vs, H' p = some (.lst vs) ∧ KDs H' ((A.getD g []).map kPeg) vs
section
variable {Hn H' H2 : Hp} {D : Addr} {ps : List Addr} {A : Tab}
theorem PegTab.move (T : PegTab Hn H' D ps A) (s : Same H' H2) : PegTab Hn H2 D ps A where
  same := T.same.trans s
  hD := s _ _ T.hD
  nD := T.nD
  nd := T.nd
  len := T.len
  fresh := T.fresh
  row := fun g p h => by
    obtain ⟨vs, h1, h2⟩ := T.row g p h
    exact ⟨vs, s _ _ h1, h2.tups (tups_same s)⟩
theorem PegTab.more (T : PegTab Hn H' D ps A) {p : Addr} {r : List (Nat × Nat)} {vs : List V} (hp : H' p = none) (s : Same H' H2) (h2 : H2 p = some (.lst vs)) (hk : KDs H2 (r.map kPeg) vs) :
    PegTab Hn (upd H2 D (.lst (ps.map V.ref ++ [V.ref p]))) D (ps ++ [p]) (A ++ [r]) := by
  have T2 := T.move s
  have hn : p ∉ ps := fun hm => by
    obtain ⟨g, hg⟩ := List.getElem?_of_mem hm
    obtain ⟨vs, e, _⟩ := T.row g p hg
    rw [hp] at e
    cases e
  have hpD : p ≠ D := fun e => by rw [e, T.hD] at hp; cases hp
  have tl : Tups H2 (upd H2 D (.lst (ps.map V.ref ++ [V.ref p]))) := tups_lst T2.hD
  refine ⟨same_over T.nD T2.same, by rw [upd_same]; simp, T.nD, ?_, by simp [T.len], fun q hq => ?_, fun g q hq => ?_⟩
  · rw [List.nodup_append]
    exact ⟨T.nd, by simp, fun x hx y hy e => hn (by rw [List.mem_singleton] at hy; rw [← hy, ← e]; exact hx)⟩
  · rcases List.mem_append.mp hq with h | h
    · exact T.fresh q h
    · rw [List.mem_singleton] at h
      subst h
      refine ⟨?_, hpD⟩
      cases e : Hn q with
      | none => rfl
      | some o => rw [T.same _ _ e] at hp; cases hp
  · rcases Nat.lt_or_ge g ps.length with h | h
    · rw [List.getElem?_append_left h] at hq
      obtain ⟨vs', h1, h3⟩ := T2.row g q hq
      refine ⟨vs', by rw [upd_ne (T.fresh q (List.mem_of_getElem? hq)).2]; exact h1, ?_⟩
      have e : (A ++ [r]).getD g [] = A.getD g [] := by
        rw [List.getD_eq_getElem?_getD, List.getElem?_append_left (by rw [← T.len]; exact h), ← List.getD_eq_getElem?_getD]
      rw [e]
      exact h3.tups tl
    · rw [List.getElem?_append_right h] at hq
      have hg : g - ps.length = 0 := by
        have := (List.getElem?_eq_some_iff.mp hq).1
        simp at this
        omega
      rw [hg] at hq
      obtain rfl : p = q := Option.some.inj hq
      refine ⟨vs, by rw [upd_ne hpD]; exact h2, ?_⟩
      have e : (A ++ [r]).getD g [] = r := by
        have e1 : g = A.length := by rw [← T.len]; omega
        rw [e1, List.getD_eq_getElem?_getD]
        simp
      rw [e]
      exact hk.tups tl
theorem PegTab.put (T : PegTab Hn H' D ps A) {g s : Nat} {p : Addr} {vs : List V} {x : Nat × Nat} {v : V} (hp : ps[g]? = some p) (hv : H' p = some (.lst vs)) (hk : KD H' (kPeg x) v) :
    PegTab Hn (upd H' p (.lst (vs.set s v))) D ps (put2 A (g, s) x) := by
  have hm := List.mem_of_getElem? hp
  obtain ⟨hn, hpD⟩ := T.fresh p hm
  have tl : Tups H' (upd H' p (.lst (vs.set s v))) := tups_lst hv
  have hgl : g < ps.length := (List.getElem?_eq_some_iff.mp hp).1
  refine ⟨same_over hn T.same, by rw [upd_ne hpD.symm]; exact T.hD, T.nD, T.nd, by rw [put2_len]; exact T.len, T.fresh, fun j q hq => ?_⟩
  obtain ⟨vs', h1, h2⟩ := T.row j q hq
  by_cases e : j = g
  · subst e
    rw [hp] at hq
    obtain rfl := Option.some.inj hq
    rw [hv] at h1
    injection h1 with h1
    injection h1 with h1
    subst h1
    refine ⟨_, upd_same, ?_⟩
    have e2 : (put2 A (j, s) x).getD j [] = (A.getD j []).set s x := by
      unfold put2
      rw [List.getD_eq_getElem?_getD, List.getElem?_set]
      simp [← T.len, hgl]
    rw [e2, List.map_set]
    exact ((h2.tups tl).set (v := v) (hk.tups tl) s)
  · have hq' : q ≠ p := fun z => e ((List.getElem?_inj (by exact (List.getElem?_eq_some_iff.mp hq).1) T.nd).mp (hq.trans (by rw [z, hp])))
    refine ⟨vs', by rw [upd_ne hq']; exact h1, ?_⟩
    have e2 : (put2 A (g, s) x).getD j [] = A.getD j [] := by
      unfold put2
      rw [List.getD_eq_getElem?_getD, List.getElem?_set, if_neg (fun z => e z.symm), ← List.getD_eq_getElem?_getD]
    rw [e2]
    exact h2.tups tl
end
/-- lists of whole numbers that stand -/
def NumTab (H : Hp) (n : Nat) (N : List (List Nat)) (xs : List V) : Prop := ∀ g, g < n → ∃ l, xs[g]? = some (.ref l) ∧ H l = some (.lst (vNums (N.getD g [])))
theorem NumTab.move {H H2 : Hp} {n : Nat} {N : List (List Nat)} {xs : List V} (T : NumTab H n N xs) (s : Same H H2) : NumTab H2 n N xs := fun g hg => by
  obtain ⟨l, h1, h2⟩ := T g hg
  exact ⟨l, h1, s _ _ h2⟩
theorem KD.tieAt {H : Hp} {t : Tie} {v : V} (h : KD H (kTie t) v) : ∃ a p1 p2, v = .ref a ∧ Rd H a (.tup [.ref p1, .ref p2]) ∧ Rd H p1 (.tup [.int (t.1.1 : Nat), .int (t.1.2 : Nat)]) ∧ Rd H p2 (.tup [.int (t.2.1 : Nat), .int (t.2.2 : Nat)]) := by
  obtain ⟨a, xs, rfl, h1, h2⟩ := h.ref
  cases h2 with
  | cons x1 x2 =>
    cases x2 with
    | cons x2 x3 =>
      cases x3
      obtain ⟨p1, rfl, e1⟩ := x1.pairAt
      obtain ⟨p2, rfl, e2⟩ := x2.pairAt
      exact ⟨a, p1, p2, rfl, h1, e1, e2⟩
theorem PegTab.at' {Hn H' : Hp} {D : Addr} {ps : List Addr} {A : Tab} (T : PegTab Hn H' D ps A) {g : Nat} (hg : g < A.length) : ∃ p vs, ps[g]? = some p ∧ (ps.map V.ref)[g]? = some (.ref p) ∧ H' p = some (.lst vs) ∧ KDs H' ((A.getD g []).map kPeg) vs ∧ vs.length = (A.getD g []).length := by
  have h : g < ps.length := by rw [T.len]; exact hg
  obtain ⟨vs, h1, h2⟩ := T.row g ps[g] (List.getElem?_eq_getElem h)
  exact ⟨_, vs, List.getElem?_eq_getElem h, by rw [List.getElem?_map, List.getElem?_eq_getElem h]; rfl, h1, h2, by have := h2.length; simpa using this⟩
/-! ### _law_plain_web -/
def rTupF (K : PySem.W.Frag) : List V → Hp → VK → Prop := fun xs H Q => ∃ p ys, xs = [V.ref p] ∧ SqL K H p ys ∧ ∀ (l : Addr) (o : Obj), H l = none → o.dict = none → o.cls = Value.type "tuple" → Q (V.ref l) (upd H l (HO.frz o (HO.tup ys)))
section
variable {P : Program} {w : World} {K : PySem.W.Frag} {mg : Str → Option Value} {base : Heap}
abbrev sPlain : Stmt := topS 28
abbrev nPlain : List Str := ["_law_box_here", "_law_most", "_law_room", "_law_many", "_law_marks_here", "_law_ties_here", "_law_count_here", "_law_number", "_law_one", "_law_pegs", "_law_h", "_law_s", "_law_g", "_law_t", "_law_mark", "_law_some"]
theorem scPlain : FnScope nPlain ["_law_box_here", "_law_most", "_law_room"] (defScope sPlain) := ⟨rfl, rfl, rfl, by decide +kernel, rfl, by decide +kernel, by decide +kernel⟩
def spPlain : Sp := fun vs H Q _ => ∃ (b : Addr) (m : Nat), vs = [.ref b, .int (m : Nat), .int 3] ∧ BoxAt H b ∧ 0 < m ∧ m ≤ 9 ∧ ∀ H' W z, Bx b H H' → KD H' (kWeb W) z → Valid W → W.length ≤ m → (∀ h, (pegs W h).length ≤ 3) → Q z H'
theorem ok_plain {f fT fM fI fS : Addr} {fd fdT fdM fdI fdS : FuncData} {k : Nat} (F : Fun K "_law_plain_web" "_law_plain_web" sPlain f fd)
    (FT : Fun K "_law_take" "_law_take" sTake fT fdT) (bT : Binds K fdT ["_law_box_here", "_law_wide"] []) (gT : mg "_law_take" = some (.ref fT)) (GT : FnOk P w K mg base CX0 k fT fdT ["_law_box_here", "_law_wide"] spTake)
    (FM : Fun K "_law_marks" "_law_marks" sMarks fM fdM) (bM : Binds K fdM ["_law_box_here", "_law_many"] []) (gM : mg "_law_marks" = some (.ref fM)) (GM : FnOk P w K mg base CX0 k fM fdM ["_law_box_here", "_law_many"] spMarks)
    (FI : Fun K "_law_ties" "_law_ties" sTies fI fdI) (bI : Binds K fdI ["_law_box_here", "_law_many", "_law_room"] []) (gI : mg "_law_ties" = some (.ref fI)) (GI : FnOk P w K mg base CX0 k fI fdI ["_law_box_here", "_law_many", "_law_room"] spTies)
    (FS : Fun K "_law_shuffled" "_law_shuffled" sShuf fS fdS) (bS : Binds K fdS ["_law_box_here", "_law_many"] []) (gS : mg "_law_shuffled" = some (.ref fS)) (GS : FnOk P w K mg base CX0 k fS fdS ["_law_box_here", "_law_many"] spShuf)
    (mt : mg "tuple" = none) (mz : mg "zip" = none) :
    FnOk P w K mg base CX0 (k + 1) f fd ["_law_box_here", "_law_most", "_law_room"] spPlain := by
  refine F.ok scPlain (fun vs H Q E h => ?_) (fun cdv A outer s H vs Q E hr h => ?_)
  · obtain ⟨b, n, rfl, _⟩ := h
    rfl
  · obtain ⟨b, m, rfl, hb, hm0, hm, q⟩ := h
    refine ⟨_, pss_cons (ps_set (i := 3) scPlain.nd rfl (.inl rfl) (pe_op op_add pe_int (pe_call GT hr (by rfl) gT FT.kp bT .nil pass0 (pa_cons (pv 0) (pa_cons (pv 1) pa_nil)))))
      (pss_cons (ps_set (i := 4) scPlain.nd rfl (.inl rfl) (pe_call GM hr (by rfl) gM FM.kp bM .nil pass0 (pa_cons (pv 0) (pa_cons (pv 3) pa_nil))))
      (pss_cons (ps_asg (pe_call GI hr (by rfl) gI FI.kp bI .nil pass0 (pa_cons (pv 0) (pa_cons (pv 3) (pa_cons (pv 2) pa_nil)))) (pg_tup rfl (pgs_cons (pg_name (i := 5) scPlain.nd rfl (.inl rfl)) (pgs_cons (pg_name (i := 6) scPlain.nd rfl (.inl rfl)) pgs_nil))))
      (pss_cons (ps_setLc (i := 7) (own := [("_law_one", 8)]) (g := gName 8) (tt := tYes) (te := tCall spShuf [] E0 (tCons (tVar 0) (tCons (tVar 8) tNil))) rfl scPlain.nd rfl rfl (sw_true rfl rfl rfl (by decide +kernel)) (pi_list (pv 6))
          (blkOk_by (own := [("_law_one", 8)]) (N := nPlain) (sc := defScope sPlain) (by decide +kernel))
          (fun _ _ _ _ _ => pg_name (i := 8) scPlain.nd rfl (.inl rfl)) (fun _ _ _ _ _ => pts_nil)
          (fun _ _ _ _ _ => pe_call GS hr (by rfl) gS FS.kp bS .nil pass0 (pa_cons (pv 0) (pa_cons (pv 8) pa_nil))))
      (pss_cons (ps_setLc (i := 9) (own := [("_law_one", 8)]) (g := gName 8) (tt := tYes) (te := tOp rRep (tLst (tCons (tTup (tCons (tC (.int 0)) (tCons (tC (.int 0)) tNil))) tNil)) (tVar 8)) rfl scPlain.nd rfl rfl (sw_true rfl rfl rfl (by decide +kernel)) (pi_list (pv 6))
          (blkOk_by (own := [("_law_one", 8)]) (N := nPlain) (sc := defScope sPlain) (by decide +kernel))
          (fun _ _ _ _ _ => pg_name (i := 8) scPlain.nd rfl (.inl rfl)) (fun _ _ _ _ _ => pts_nil)
          (fun _ _ _ _ _ => pe_op op_rep (pe_lst (pa_cons (pe_tup (pa_cons pe_int (pa_cons pe_int pa_nil))) pa_nil)) (pv 8)))
      (pss_cons (ps_for PassesOwn.never rfl (pi_list (pv 5)) (pg_tup rfl (pgs_cons (pg_tup rfl (pgs_cons (pg_name (i := 10) scPlain.nd rfl (.inl rfl)) (pgs_cons (pg_name (i := 11) scPlain.nd rfl (.inl rfl)) pgs_nil))) (pgs_cons (pg_tup rfl (pgs_cons (pg_name (i := 12) scPlain.nd rfl (.inl rfl)) (pgs_cons (pg_name (i := 13) scPlain.nd rfl (.inl rfl)) pgs_nil))) pgs_nil)))
        (pss_cons (ps_asg (pe_tup (pa_cons (pv 12) (pa_cons (pe_ix ix_list (pe_ix ix_list (pv 7) (pv 12) (fun _ _ => rfl)) (pv 13) (fun _ _ => rfl)) pa_nil))) (pg_sub (pe_ix ix_list (pv 9) (pv 10) (fun _ _ => rfl)) (pe_ix ix_list (pe_ix ix_list (pv 7) (pv 10) (fun _ _ => rfl)) (pv 11) (fun _ _ => rfl)) set_list))
        (pss_one (ps_asg (pe_tup (pa_cons (pv 10) (pa_cons (pe_ix ix_list (pe_ix ix_list (pv 7) (pv 10) (fun _ _ => rfl)) (pv 11) (fun _ _ => rfl)) pa_nil))) (pg_sub (pe_ix ix_list (pv 9) (pv 12) (fun _ _ => rfl)) (pe_ix ix_list (pe_ix ix_list (pv 7) (pv 12) (fun _ _ => rfl)) (pv 13) (fun _ _ => rfl)) set_list)))))
      (pss_one (ps_ret (pe_callTy call_tuple_of (by rfl) mt (by decide +kernel) (pa_cons (pe_lc (own := [("_law_mark", 14), ("_law_some", 15)]) (g := gPair K 14 15) (tt := tYes) (te := tTup (tCons (tVar 14) (tCons (tCB (rTupF K) (tCons (tVar 15) tNil)) tNil))) rfl scPlain.nd (pi_zip (by rfl) mz (pa_cons (pv 4) (pa_cons (pv 9) pa_nil)))
          (blkOk_by (own := [("_law_mark", 14), ("_law_some", 15)]) (N := nPlain) (sc := defScope sPlain) (by decide +kernel))
          (fun _ _ _ _ _ => pg_tup rfl (pgs_cons (pg_name (i := 14) scPlain.nd rfl (.inl rfl)) (pgs_cons (pg_name (i := 15) scPlain.nd rfl (.inl rfl)) pgs_nil))) (fun _ _ _ _ _ => pts_nil)
          (fun _ _ _ _ _ => pe_tup (pa_cons (pv 14) (pa_cons (pe_callTy (call_tupleF K) (by rfl) mt (by decide +kernel) (pa_cons (pv 15) pa_nil)) pa_nil)))) pa_nil))))))))), ?_⟩
    refine ⟨_, rfl, _, rfl, b, m, rfl, hb, hm0, by omega, fun H1 d1 x1 hd1 => ?_⟩
    refine ⟨_, _, rfl, rfl, ?_⟩
    dsimp only
    rw [show (1 : Int) + ((d1 : Nat) : Int) = ((1 + d1 : Nat) : Int) by omega]
    generalize hn : 1 + d1 = n
    have hn0 : 0 < n := by omega
    have hnm : n ≤ m := by omega
    refine ⟨_, rfl, _, rfl, b, n, rfl, x1.box, by omega, fun H2 M ms x2 hM hml nM => ?_⟩
    have hMb : M ≠ b := x1.box.ne nM
    refine ⟨_, rfl, _, rfl, _, rfl, b, n, rfl, x2.box, hn0, by omega, fun H3 p L C c T A1 td hp I tr hTl => ?_⟩
    have hcl := I.len
    obtain ⟨ts, hL, hts⟩ := td.hL
    have hM3 := td.bx.keep _ _ hMb hM
    refine ⟨p, _, rfl, .inl (.inl hp), rfl, _, _, rfl, _, _, rfl, rfl, ?_⟩
    have hb3 : Bx b H H3 := (x1.trans x2).trans td.bx
    refine ⟨_, rfl, C, rfl, ⟨_, .inl (.inl td.hC)⟩, fun D hD => lc_it (walk_list (K := K) (a := C) (xs := vNums c)) (fun i H' => Bx b H3 H' ∧ ∃ acc N, H' D = some (.lst acc) ∧ acc.length = i ∧ N.length = i ∧ ∀ g, g < i → ∃ l, acc[g]? = some (.ref l) ∧ l ≠ b ∧ l ≠ D ∧ H' l = some (.lst (vNums (N.getD g []))) ∧ IsPerm (N.getD g []) (at0 c g))
      ⟨Bx.of hb3.box (same_upd hD), [], [], upd_same, rfl, rfl, fun g hg => absurd hg (Nat.not_lt_zero _)⟩ (fun i H' _ hh => .inl (.inl (hh.1.keep _ _ A1.Cb td.hC))) (fun i x H' H2 hi hh hy => ?_) (fun H4 hh => ?_)⟩
    · obtain ⟨rfl, hx⟩ := hy
      obtain ⟨bx, acc, N, hDv, hal, hNl, hall⟩ := hh
      have hi' : i < c.length := by simpa [vNums] using hi
      rw [vNums, List.getElem?_map, at0_get hi'] at hx
      obtain rfl := (Option.some.inj hx).symm
      have h3 := I.room i (by omega)
      refine ⟨rfl, _, rfl, _, rfl, b, at0 c i, rfl, bx.box, by omega, fun H5 l r x5 hl hr nl => ?_⟩
      have hDb : D ≠ b := hb3.box.ne hD
      have hlb : l ≠ b := bx.box.ne nl
      have hlD : l ≠ D := fun e => by rw [e, hDv] at nl; cases nl
      refine ⟨acc, x5.keep _ _ hDb hDv, by rw [sizeLine_eq]; omega, (bx.trans x5).over hD hDb, acc ++ [.ref l], N ++ [r], upd_same, by simp [hal], by simp [hNl], fun g hg => ?_⟩
      rcases Nat.lt_or_ge g i with z | z
      · obtain ⟨l', e1, e2, hlD', e3, e4⟩ := hall g z
        have eN : (N ++ [r]).getD g [] = N.getD g [] := by rw [List.getD_eq_getElem?_getD, List.getElem?_append_left (by omega), ← List.getD_eq_getElem?_getD]
        exact ⟨l', by rw [List.getElem?_append_left (by omega)]; exact e1, e2, hlD', by rw [eN, upd_ne hlD']; exact x5.keep _ _ e2 e3, by rw [eN]; exact e4⟩
      · have eg : g = i := by omega
        subst eg
        have eN : (N ++ [r]).getD g [] = r := by rw [List.getD_eq_getElem?_getD, ← hNl]; simp
        refine ⟨l, by rw [← hal]; simp, hlb, hlD, by rw [eN, upd_ne hlD]; exact hl, by rw [eN]; exact hr⟩
    · obtain ⟨bx4, acc, N, hD4, hal, hNl, hall⟩ := hh
      rw [show (vNums c).length = n by simp [vNums, hcl]] at hal hNl hall
      have hNT : NumTab H4 n N acc := fun g hg => by
        obtain ⟨l, e1, _, _, e3, _⟩ := hall g hg
        exact ⟨l, e1, e3⟩
      have hNP : ∀ g, g < n → IsPerm (N.getD g []) (at0 c g) := fun g hg => by
        obtain ⟨l, _, _, _, _, e4⟩ := hall g hg
        exact e4
      clear hall
      have hC4 := bx4.keep _ _ A1.Cb td.hC
      have hL4 := bx4.keep _ _ A1.Lb hL
      have hM4 := bx4.keep _ _ hMb hM3
      have hts4 := hts.tups (bx4.tups hb3.box)
      have hb4 := hb3.trans bx4
      refine ⟨_, rfl, C, rfl, ⟨_, .inl (.inl hC4)⟩, fun D2 hD2 => lc_it (walk_list (K := K) (a := C) (xs := vNums c)) (fun i H' => ∃ ps, PegTab H4 H' D2 ps ((c.take i).map fun k => List.replicate k ((0, 0) : Nat × Nat)))
        ⟨[], same_upd hD2, upd_same, hD2, List.nodup_nil, rfl, fun _ h => absurd h (List.not_mem_nil), fun g p h => by simp at h⟩ (fun i H' _ hh => ?_) (fun i x H' H2 hi hh hy => ?_) (fun H5 hh => ?_)⟩
      · obtain ⟨ps, T⟩ := hh
        exact .inl (.inl (T.same _ _ hC4))
      · obtain ⟨rfl, hx⟩ := hy
        obtain ⟨ps, T⟩ := hh
        have hi' : i < c.length := by simpa [vNums] using hi
        rw [vNums, List.getElem?_map, at0_get hi'] at hx
        obtain rfl := (Option.some.inj hx).symm
        have h3 := I.room i (by omega)
        refine ⟨rfl, by show 2 ≤ sizeLine; decide, fun t nt => ⟨by show 1 ≤ sizeLine; decide, fun o no => ⟨_, rfl, o, _, _, rfl, rfl, upd_same, by omega, by omega, by rw [sizeLine_eq, List.length_singleton]; omega, fun p np => ?_⟩⟩⟩
        have s1 := same_upd (o := .tup [.int 0, .int 0]) nt
        have s2 := same_upd (o := .lst [.ref t]) no
        rw [rep_one, show ((at0 c i : Nat) : Int).toNat = at0 c i by omega]
        have s3 := same_upd (o := .lst (List.replicate (at0 c i) (.ref t))) np
        have T2 := T.move (s1.trans s2)
        have kt : KD (upd (upd (upd H2 t (.tup [.int 0, .int 0])) o (.lst [.ref t])) p (.lst (List.replicate (at0 c i) (.ref t)))) (kPeg (0, 0)) (.ref t) := .tup (.inl (s3 _ _ (s2 _ _ upd_same))) (.cons (.num _) (.cons (.num _) .nil))
        have kr : KDs (upd (upd (upd H2 t (.tup [.int 0, .int 0])) o (.lst [.ref t])) p (.lst (List.replicate (at0 c i) (.ref t)))) ((List.replicate (at0 c i) ((0, 0) : Nat × Nat)).map kPeg) (List.replicate (at0 c i) (.ref t)) := by
          have := KDs.map (f := kPeg) (g := fun _ => V.ref t) (l := List.replicate (at0 c i) ((0, 0) : Nat × Nat)) fun x hx => by rw [(List.mem_replicate.mp hx).2]; exact kt
          rwa [List.map_replicate (f := fun _ => V.ref t)] at this
        refine ⟨_, (T2.move s3).hD, ?_, ps ++ [p], ?_⟩
        · rw [sizeLine_eq, List.length_map, T.len, List.length_map, List.length_take]; omega
        · have := T2.more (r := List.replicate (at0 c i) (0, 0)) np s3 upd_same kr
          rw [List.take_succ, at0_get hi', List.map_append]
          exact this
      · obtain ⟨ps0, T0⟩ := hh
        rw [show (vNums c).length = c.length by simp [vNums], List.take_length] at T0
        generalize hA0 : (c.map fun k => List.replicate k ((0, 0) : Nat × Nat)) = A0 at T0
        have hA0l : A0.length = n := by rw [← hA0, List.length_map, hcl]
        have hA0r : ∀ g, g < n → (A0.getD g []).length = at0 c g := fun g hg => by
          rw [← hA0, List.getD_eq_getElem?_getD, List.getElem?_map, at0_get (by omega)]
          simp
        have pv := plain_valid (m := ms) I hn0 tr hNP hml hA0l hA0r
        have htl : ts.length = T.length := by have := hts.length; simpa using this
        refine ⟨_, rfl, L, rfl, ⟨_, .inl (.inl (T0.same _ _ hL4))⟩, for_it (walk_list (K := K) (a := L) (xs := ts)) (fun i σ H' => ∃ z8 z10 z11 z12 z13 z14 z15, σ = [some (.ref b), some (.int (m : Nat)), some (.int 3), some (.int (n : Nat)), some (.ref M), some (.ref L), some (.ref C), some (.ref D), z8, some (.ref D2), z10, z11, z12, z13, z14, z15] ∧ PegTab H4 H' D2 ps0 ((T.take i).foldl (fillIn (byN N)) A0))
          ⟨_, _, _, _, _, _, _, rfl, T0⟩ (fun i σ H' _ hh => ?_) (fun i x σ H1 H2 hi hh hy => ?_) (fun σ H' hh => ?_)⟩
        · obtain ⟨_, _, _, _, _, _, _, _, T1⟩ := hh
          exact .inl (.inl (T1.same _ _ hL4))
        · obtain ⟨rfl, hx⟩ := hy
          obtain ⟨z8, z10, z11, z12, z13, z14, z15, rfl, T1⟩ := hh
          have tu1 := tups_same T1.same
          obtain ⟨kk, hk, hkx⟩ := (hts4.tups tu1).get' hx
          rw [List.getElem?_map, Option.map_eq_some_iff] at hk
          obtain ⟨t, ht, rfl⟩ := hk
          have htm := List.mem_of_getElem? ht
          obtain ⟨g1, s1⟩ := (I.ends t.1).mp (mem_endsOf.mpr ⟨t, htm, .inl rfl⟩)
          obtain ⟨g2, s2⟩ := (I.ends t.2).mp (mem_endsOf.mpr ⟨t, htm, .inr rfl⟩)
          obtain ⟨a, p1, p2, rfl, ha, hp1, hp2⟩ := hkx.tieAt
          obtain ⟨l1, el1, hl1⟩ := hNT _ g1
          obtain ⟨l2, el2, hl2⟩ := hNT _ g2
          have sl1 : t.1.2 < (N.getD t.1.1 []).length := by rw [(hNP _ g1).len]; exact s1
          have sl2 : t.2.2 < (N.getD t.2.1 []).length := by rw [(hNP _ g2).len]; exact s2
          have hAl : ((T.take i).foldl (fillIn (byN N)) A0).length = n := by rw [fill_len, hA0l]
          have hAr : ∀ g, g < n → (((T.take i).foldl (fillIn (byN N)) A0).getD g []).length = at0 c g := fun g hg => by rw [fill_row, hA0r g hg]
          have eT : (T.take (i + 1)).foldl (fillIn (byN N)) A0 = fillIn (byN N) ((T.take i).foldl (fillIn (byN N)) A0) t := by
            rw [List.take_succ, ht, List.foldl_append]; rfl
          rw [eT]
          generalize (T.take i).foldl (fillIn (byN N)) A0 = A at T1 hAl hAr
          have n1 : at0 (N.getD t.1.1 []) t.1.2 < at0 c t.1.1 := (hNP _ g1).at_lt s1
          have n2 : at0 (N.getD t.2.1 []) t.2.2 < at0 c t.2.1 := (hNP _ g2).at_lt s2
          refine ⟨a, _, rfl, .inl ha, rfl, _, _, rfl, p1, _, rfl, .inl hp1, rfl, _, _, rfl, _, _, rfl, rfl, _, _, rfl, p2, _, rfl, .inl hp2, rfl, _, _, rfl, _, _, rfl, rfl, rfl, ?_⟩
          have sq : ∀ {H' : Hp} {l : Addr} {h : Nat}, Same H4 H' → H4 l = some (.lst (vNums (N.getD h []))) → SqL K H' l (vNums (N.getD h [])) := fun e1 e2 => .inl (.inl (e1 _ _ e2))
          have u1 := T1.same
          refine ⟨_, rfl, _, rfl, _, rfl, D, _, _, _, rfl, rfl, .inl (.inl (u1 _ _ hD4)), atI_nat el2, _, rfl, l2, _, _, _, rfl, rfl, sq u1 hl2, atI_vn sl2, by show 2 ≤ sizeLine; decide, fun q1 m1 => ?_⟩
          have T2 := T1.move (same_upd (o := .tup [.int (t.2.1 : Nat), .int (at0 (N.getD t.2.1 []) t.2.2 : Nat)]) m1)
          obtain ⟨pg, vs, e1, e2, e3, e4, e5⟩ := T2.at' (g := t.1.1) (by omega)
          have u2 := T2.same
          refine ⟨_, rfl, _, rfl, D2, _, _, _, rfl, rfl, .inl (.inl T2.hD), atI_nat e2, _, rfl, _, rfl, D, _, _, _, rfl, rfl, .inl (.inl (u2 _ _ hD4)), atI_nat el1, _, rfl, l1, _, _, _, rfl, rfl, sq u2 hl1, atI_vn sl1, pg, vs, _, at0 (N.getD t.1.1 []) t.1.2, rfl, rfl, e3, ixN_nat (by rw [e5, hAr _ g1]; exact n1), ?_⟩
          have T3 := T2.put (s := at0 (N.getD t.1.1 []) t.1.2) e1 e3 kPeg_new
          have u3 := T3.same
          refine ⟨_, rfl, _, rfl, _, rfl, D, _, _, _, rfl, rfl, .inl (.inl (u3 _ _ hD4)), atI_nat el1, _, rfl, l1, _, _, _, rfl, rfl, sq u3 hl1, atI_vn sl1, by show 2 ≤ sizeLine; decide, fun q2 m2 => ?_⟩
          have T4 := T3.move (same_upd (o := .tup [.int (t.1.1 : Nat), .int (at0 (N.getD t.1.1 []) t.1.2 : Nat)]) m2)
          obtain ⟨pg', vs', e1', e2', e3', e4', e5'⟩ := T4.at' (g := t.2.1) (by rw [put2_len]; omega)
          have u4 := T4.same
          refine ⟨_, rfl, _, rfl, D2, _, _, _, rfl, rfl, .inl (.inl T4.hD), atI_nat e2', _, rfl, _, rfl, D, _, _, _, rfl, rfl, .inl (.inl (u4 _ _ hD4)), atI_nat el2, _, rfl, l2, _, _, _, rfl, rfl, sq u4 hl2, atI_vn sl2, pg', vs', _, at0 (N.getD t.2.1 []) t.2.2, rfl, rfl, e3', ixN_nat (by rw [e5', put2_row, hAr _ g2]; exact n2), ?_⟩
          exact ⟨_, _, _, _, _, _, _, rfl, T4.put (s := at0 (N.getD t.2.1 []) t.2.2) e1' e3' kPeg_new⟩
        · obtain ⟨z8, z10, z11, z12, z13, z14, z15, rfl, T1⟩ := hh
          rw [htl, List.take_length] at T1
          have hAl : (T.foldl (fillIn (byN N)) A0).length = n := by rw [fill_len, hA0l]
          have hAr : ∀ g, g < n → ((T.foldl (fillIn (byN N)) A0).getD g []).length = at0 c g := fun g hg => by rw [fill_row, hA0r g hg]
          generalize T.foldl (fillIn (byN N)) A0 = A at T1 hAl hAr pv
          have hpl := T1.len
          obtain ⟨pv1, pv2, pv3⟩ := pv
          have hM6 := T1.same _ _ hM4
          refine ⟨_, rfl, _, rfl, M, D2, _, _, rfl, .inl (.inl hM6), .inl (.inl T1.hD), fun D3 hD3 => comp_keys (walk_zip (K := K) (a := M) (b := D2) (xs := ms.map V.int) (ys := ps0.map V.ref) (n := n) (by simp; omega)) ((ms.zip A).map kHand) (by simp; omega) (by rw [sizeLine_eq]; omega) hD3
            (fun H2 s' => ⟨.inl (.inl (s' _ _ hM6)), .inl (.inl (s' _ _ T1.hD))⟩) (fun j x H2 H3 kk hj hk s4 hy Qk hQ => ?_) (fun H2 acc s' hD' hacc => ?_)⟩
          · obtain ⟨T', x1, x2, rfl, nT, rfl, hx1, hx2⟩ := hy
            dsimp only at hx1 hx2
            have sT := same_upd (o := .tup [x1, x2]) nT
            have hjm : j < ms.length := by omega
            have hjA : j < A.length := by omega
            have T5 := T1.move (s4.trans sT)
            obtain ⟨pg, vs, e1, e2, e3, e4, e5⟩ := T5.at' hjA
            rw [List.getElem?_map, List.getElem?_eq_getElem hjm] at hx1
            obtain rfl := (Option.some.inj hx1).symm
            obtain rfl := Option.some.inj (e2.symm.trans hx2)
            have ek : ((ms.zip A).map kHand)[j]? = some (kHand (ms[j], A.getD j [])) := by
              rw [List.getElem?_map, List.getElem?_eq_getElem (by simp; omega), List.getElem_zip, List.getD_eq_getElem?_getD, List.getElem?_eq_getElem hjA]
              rfl
            obtain rfl := Option.some.inj (ek.symm.trans hk)
            refine ⟨T', _, rfl, .inl (.inl upd_same), rfl, _, _, rfl, _, _, rfl, rfl, rfl, _, rfl, _, rfl, pg, vs, rfl, .inl (.inl e3), fun l o nl ho hc => ⟨by show 2 ≤ sizeLine; decide, fun z nz => ?_⟩⟩
            have s6 := same_upd (o := .frz o (.tup vs)) nl
            have s7 := same_upd (o := .tup [.int ms[j], .ref l]) nz
            exact hQ _ _ ((sT.trans s6).trans s7) (.tup (.inl upd_same) (.cons (.num _) (.cons (.tup (.inr ⟨o, s7 _ _ upd_same⟩) (e4.tups (tups_same (s6.trans s7)))) .nil)))
          · refine ⟨D3, acc, rfl, .inl ⟨.inl (.inl hD'), fun l nl => ?_⟩⟩
            exact q _ (ms.zip A) _ (hb4.same ((T1.same.trans s').trans (same_upd nl))) (KD.tup (.inl upd_same) (hacc.tups (tups_new nl))) pv1 (by omega) pv3
end
end Nl
end

section
set_option Elab.async false
set_option linter.all false
set_option maxRecDepth 100000
namespace Nl
open PySem PySem.Spec PyProof.Rows L2
theorem KDs.of_at {H : Hp} : ∀ {ks : List NestedKey} {vs : List V}, vs.length = ks.length → (∀ (i : Nat) (k : NestedKey), ks[i]? = some k → ∃ v, vs[i]? = some v ∧ KD H k v) → KDs H ks vs
  | [], [], _, _ => .nil
  | [], _ :: _, e, _ => by simp at e
  | _ :: _, [], e, _ => by simp at e
  | k :: ks, v :: vs, e, h => .cons (by obtain ⟨w, h1, h2⟩ := h 0 k rfl; obtain rfl := Option.some.inj h1; exact h2) (KDs.of_at (by simpa using e) fun i k' hk => h (i + 1) k' hk)
/-! ### _law_renamed -/
section
variable {P : Program} {w : World} {K : PySem.W.Frag} {mg : Str → Option Value} {base : Heap}
abbrev sLRen : Stmt := topS 29
abbrev nLRen : List Str := ["_law_web_here", "_law_row", "_law_found", "_law_h", "_law_mark", "_law_pegs", "_law_g", "_law_q"]
theorem scLRen : FnScope nLRen ["_law_web_here", "_law_row"] (defScope sLRen) := ⟨rfl, rfl, rfl, by decide +kernel, rfl, by decide +kernel, by decide +kernel⟩
def spLRen : Sp := fun vs H Q _ => ∃ (W : Web) (r : List Nat) (u : V) (l : Addr), vs = [u, .ref l] ∧ KD H (kWeb W) u ∧ H l = some (.lst (vNums r)) ∧ IsPerm r W.length ∧ Fit W ∧ ∀ H' z, Same H H' → KD H' (kWeb (ren W r)) z → Q z H'
theorem ok_lren {f : Addr} {fd : FuncData} {k : Nat} (F : Fun K "_law_renamed" "_law_renamed" sLRen f fd) (mt : mg "tuple" = none) (me : mg "enumerate" = none) (ml : mg "len" = none) : FnOk P w K mg base CX0 (k + 1) f fd ["_law_web_here", "_law_row"] spLRen := by
  refine F.ok scLRen (fun vs H Q E h => ?_) (fun cdv A outer s H vs Q E hr h => ?_)
  · obtain ⟨W, r, u, l, rfl, _⟩ := h
    rfl
  · obtain ⟨W, r, u, l, rfl, hu, hl, hp, ft, q⟩ := h
    refine ⟨_, pss_cons (ps_set (i := 2) scLRen.nd rfl (.inl rfl) (pe_op op_rep (pe_lst (pa_cons pe_non pa_nil)) (pe_callB (call_lenK K) (by rfl) ml PySem.boot_len (pa_cons (pv 0) pa_nil))))
      (pss_cons (ps_for PassesOwn.never rfl (pi_enumT (by rfl) me (pa_cons (pv 0) pa_nil)) (pg_tup rfl (pgs_cons (pg_name (i := 3) scLRen.nd rfl (.inl rfl)) (pgs_cons (pg_tup rfl (pgs_cons (pg_name (i := 4) scLRen.nd rfl (.inl rfl)) (pgs_cons (pg_name (i := 5) scLRen.nd rfl (.inl rfl)) pgs_nil))) pgs_nil)))
        (pss_one (ps_asg (pe_tup (pa_cons (pv 4) (pa_cons
          (pe_callTy call_tuple_of (by rfl) mt (by decide +kernel) (pa_cons (pe_lc (own := [("_law_g", 6), ("_law_q", 7)]) (g := gPair K 6 7) (tt := tYes) (te := tTup (tCons (tOp (rIxL K) (tVar 1) (tVar 6)) (tCons (tVar 7) tNil))) rfl scLRen.nd (pi_tup (pv 5))
            (blkOk_by (own := [("_law_g", 6), ("_law_q", 7)]) (N := nLRen) (sc := defScope sLRen) (by decide +kernel))
            (fun _ _ _ _ _ => pg_tup rfl (pgs_cons (pg_name (i := 6) scLRen.nd rfl (.inl rfl)) (pgs_cons (pg_name (i := 7) scLRen.nd rfl (.inl rfl)) pgs_nil))) (fun _ _ _ _ _ => pts_nil)
            (fun _ _ _ _ _ => pe_tup (pa_cons (pe_ix (ixL K) (pv 1) (pv 6) (fun _ _ => rfl)) (pa_cons (pv 7) pa_nil)))) pa_nil)) pa_nil)))
          (pg_sub (pv 2) (pe_ix ix_list (pv 1) (pv 3) (fun _ _ => rfl)) set_list))))
      (pss_one (ps_ret (pe_callTy call_tuple_of (by rfl) mt (by decide +kernel) (pa_cons (pv 2) pa_nil))))), ?_⟩
    obtain ⟨a, xs, rfl, ha, hxs, hlen⟩ := hu.webAt
    have hfew := ft.few
    refine ⟨by show 1 ≤ sizeLine; decide, fun o no => ?_⟩
    have so := same_upd (o := .lst [V.non]) no
    refine ⟨_, rfl, a, xs, rfl, .inr (.inl (rd_same so ha)), o, _, _, rfl, rfl, upd_same, by omega, by omega, by rw [sizeLine_eq, List.length_singleton]; omega, fun d nd => ?_⟩
    rw [rep_one, show ((xs.length : Nat) : Int).toNat = xs.length by omega]
    have s1 := so.trans (same_upd (o := .lst (List.replicate xs.length V.non)) nd)
    have nd0 := so.free nd
    refine ⟨_, rfl, a, xs, rfl, .inl (rd_same s1 ha), for_it (walk_enumT (K := K) (a := a) (xs := xs)) (fun i σ H' => ∃ z3 z4 z5 z6 z7 vs, σ = [some (.ref a), some (.ref l), some (.ref d), z3, z4, z5, z6, z7] ∧ Same H H' ∧ H' d = some (.lst vs) ∧ vs.length = xs.length ∧
        ∀ j, j < i → ∃ v, vs[at0 r j]? = some v ∧ KD H' (kHand (mk W j, (pegs W j).map fun x => (at0 r x.1, x.2))) v)
      ⟨none, none, none, none, none, _, rfl, s1, upd_same, List.length_replicate, fun j hj => absurd hj (Nat.not_lt_zero _)⟩ (fun i σ H' hi h => ?_) (fun i x σ H1 H2 hi h hy => ?_) (fun σ H' h => ?_)⟩
    · obtain ⟨_, _, _, _, _, _, _, s2, _⟩ := h
      exact .inl (rd_same s2 ha)
    · obtain ⟨z3, z4, z5, z6, z7, vs, rfl, s2, hd, hvl, hall⟩ := h
      obtain ⟨T, x1, x2, rfl, nT, rfl, e1, hx2⟩ := hy
      obtain rfl := (Option.some.inj e1).symm
      dsimp only at hx2
      have hiW : i < W.length := by omega
      obtain ⟨_, hkx⟩ := hxs.web hx2
      obtain ⟨c, e, ys, rfl, hc, he, hys, hyl⟩ := hkx.handAt
      have sT := same_upd (o := .tup [.int (i : Nat), .ref c]) nT
      have s3 := s2.trans sT
      refine ⟨T, _, rfl, .inl (.inl upd_same), rfl, _, _, rfl, _, _, rfl, ⟨c, _, rfl, .inl (rd_same s3 hc), rfl, _, _, rfl, _, _, rfl, rfl, rfl, ?_⟩⟩
      have rl : r.length = W.length := hp.len
      refine ⟨_, rfl, _, rfl, e, rfl, ⟨_, .inl (rd_same s3 he)⟩, fun D hD => comp_keys (walk_tup (K := K) (a := e) (xs := ys)) (((pegs W i).map fun x => (at0 r x.1, x.2)).map kPeg) (by simp [hyl]) (by have := ft.plen i; rw [sizeLine_eq]; omega) hD
        (fun H2 s' => .inl (rd_same (s3.trans s') he)) (fun i2 x H2 H3 kk hi2 hk s4 hy Qk hQ => ?_) (fun H2 acc s' hD' hacc => ?_)⟩
      · obtain ⟨rfl, hx3⟩ := hy
        obtain ⟨z, hz, hkx2⟩ := hys.pegs hx3
        rw [List.getElem?_map, List.getElem?_map, hz] at hk
        obtain rfl := Option.some.inj hk
        obtain ⟨g, rfl, hg⟩ := hkx2.pairAt
        have s5 := s3.trans s4
        have hzn : z.1 < W.length := (ft.inr i z (List.mem_of_getElem? hz)).1
        refine ⟨g, _, rfl, .inl (rd_same s5 hg), rfl, _, _, rfl, _, _, rfl, rfl, rfl, _, rfl, _, rfl, l, _, _, _, rfl, rfl, .inl (.inl (s5 _ _ hl)), atI_vn (by omega), _, rfl, ?_⟩
        exact ⟨by show 2 ≤ sizeLine; decide, fun p np => hQ _ _ (same_upd np) (.tup (.inl upd_same) (.cons (.num _) (.cons (.num _) .nil)))⟩
      · refine ⟨D, acc, rfl, .inl ⟨.inl (.inl hD'), fun t nt => ?_⟩⟩
        refine ⟨by show 2 ≤ sizeLine; decide, fun p np => ?_⟩
        have s6 := (same_upd (o := .tup acc) nt).trans (same_upd (o := .tup [.int (mk W i), .ref t]) np)
        have s5 := (s3.trans s').trans s6
        have hd5 : (upd (upd H2 t (.tup acc)) p (.tup [.int (mk W i), .ref t])) d = some (.lst vs) := (sT.trans s').trans s6 _ _ hd
        have hri : at0 r i < vs.length := by rw [hvl, hlen]; exact hp.at_lt hiW
        refine ⟨_, rfl, _, rfl, _, rfl, l, _, _, _, rfl, rfl, .inl (.inl (s5 _ _ hl)), atI_vn (by omega), d, vs, _, at0 r i, rfl, rfl, hd5, ixN_nat hri, ?_⟩
        have kl : KD (upd (upd H2 t (.tup acc)) p (.tup [.int (mk W i), .ref t])) (kHand (mk W i, (pegs W i).map fun x => (at0 r x.1, x.2))) (.ref p) :=
          .tup (.inl upd_same) (.cons (.num _) (.cons (.tup (.inl (same_upd np _ _ upd_same)) (hacc.tups (tups_same s6))) .nil))
        have tp := tups_lst (o := .lst (vs.set (at0 r i) (.ref p))) hd5
        refine ⟨_, _, _, _, _, vs.set (at0 r i) (.ref p), rfl, same_over nd0 s5, upd_same, by rw [List.length_set]; exact hvl, fun j hj => ?_⟩
        rw [List.getElem?_set]
        by_cases hji : j = i
        · subst hji
          exact ⟨_, by rw [if_pos rfl, if_pos hri], kl.tups tp⟩
        · have hne : ¬ (at0 r i = at0 r j) := fun e => hji (hp.inj (by omega) hiW e.symm)
          obtain ⟨v, hv1, hv2⟩ := hall j (by omega)
          exact ⟨v, by rw [if_neg hne]; exact hv1, (hv2.tups (tups_same ((sT.trans s').trans s6))).tups tp⟩
    · obtain ⟨z3, z4, z5, z6, z7, vs, rfl, s2, hd, hvl, hall⟩ := h
      refine ⟨_, rfl, d, vs, rfl, .inl ⟨.inl (.inl hd), fun t nt => ?_⟩⟩
      have hks : KDs H' ((ren W r).map kHand) vs := by
        refine KDs.of_at (by rw [List.length_map, ren_len]; omega) fun i kk hk => ?_
        have hi : i < W.length := by
          have := (List.getElem?_eq_some_iff.mp hk).1
          rwa [List.length_map, ren_len] at this
        obtain ⟨v, hv1, hv2⟩ := hall (r.idxOf i) (by have := hp.idx_lt hi; omega)
        rw [hp.at_idx hi] at hv1
        have ek : ((ren W r).map kHand)[i]? = some (kHand (mk W (r.idxOf i), (pegs W (r.idxOf i)).map fun x => (at0 r x.1, x.2))) := by
          rw [List.getElem?_map]
          unfold ren
          rw [webOf_at hi]
          rfl
        obtain rfl := Option.some.inj (ek.symm.trans hk)
        exact ⟨v, hv1, hv2⟩
      exact q _ _ (s2.trans (same_upd nt)) (.tup (.inl upd_same) (hks.tups (tups_new nt)))
end
end Nl
end

section
set_option Elab.async false
set_option linter.all false
set_option maxRecDepth 100000
namespace Nl
open PySem PySem.Spec PyProof.Rows L2
/-! ### _law_turnings -/
def tkey (x : Nat × Nat) : List Key := [Sum.inl (x.1 : Int), Sum.inl (x.2 : Int)]
theorem tkey_inj {x y : Nat × Nat} (h : tkey x = tkey y) : x = y := by
  unfold tkey at h
  injection h with h1 h2
  injection h2 with h2 _
  injection h1 with h1
  injection h2 with h2
  exact Prod.ext (by omega) (by omega)
theorem kI_depth0 (i : Nat) : (kI i).depth ≤ 1 := by unfold kI; simp [NestedKey.depth]
theorem kI_depth (i : Nat) : (kI i).depth ≤ 64 := Nat.le_trans (kI_depth0 i) (by decide)
theorem lex2 {a b c d : Nat} : HT.lexLt [(a : Int), (b : Int)] [(c : Int), (d : Int)] = true ↔ a < c ∨ a = c ∧ b < d := by
  by_cases h1 : a = c
  · subst h1
    by_cases h2 : b = d
    · subst h2
      simp [HT.lexLt]
    · have : ¬ ((b : Int) = d) := by omega
      simp [HT.lexLt, this]
  · have : ¬ ((a : Int) = c) := by omega
    simp [HT.lexLt, this]
    omega
/-- the turnings that stand in a dictionary -/
def TurnAt (H : Hp) (b d : Addr) (B : Web) (tau : Nat × Nat → List Nat) (D : Nat × Nat → Prop) (N : Nat) : Prop :=
  ∃ kvs, H d = some (.dT kvs) ∧ kvs.length ≤ N ∧ ∀ x, inP B x → D x → ∃ l, valV kvs (tkey x) = some (.ref l) ∧ l ≠ b ∧ H l = some (.lst (vNums (tau x)))
section
variable {H H2 : Hp} {b d : Addr} {B : Web} {tau : Nat × Nat → List Nat} {D D' : Nat × Nat → Prop} {N : Nat}
theorem TurnAt.move (T : TurnAt H b d B tau D N) (hd : d ≠ b) (x : Bx b H H2) : TurnAt H2 b d B tau D N := by
  obtain ⟨kvs, h1, h2, h3⟩ := T
  refine ⟨kvs, x.keep _ _ hd h1, h2, fun z a c => ?_⟩
  obtain ⟨l, e1, e2, e3⟩ := h3 z a c
  exact ⟨l, e1, e2, x.keep _ _ e2 e3⟩
theorem TurnAt.sub (T : TurnAt H b d B tau D N) {M : Nat} (hM : N ≤ M) (h : ∀ x, inP B x → D' x → D x) : TurnAt H b d B tau D' M := by
  obtain ⟨kvs, h1, h2, h3⟩ := T
  exact ⟨kvs, h1, Nat.le_trans h2 hM, fun z a c => h3 z a (h z a c)⟩
theorem TurnAt.put (T : TurnAt H b d B tau D N) {x : Nat × Nat} {l : Addr} {r : List Nat} (hl : H l = some (.lst (vNums r))) (hb : l ≠ b) (hN : N < 1000) {t : Addr} (ht : H t = some (.tup [.int (x.1 : Nat), .int (x.2 : Nat)])) :
    ∃ H', DPut H d (.ref t) (.ref l) H' ∧ (∃ o, H' = upd H d o) ∧ TurnAt H' b d B (put1 tau x r) (fun z => D z ∨ z = x) (N + 1) := by
  obtain ⟨kvs, h1, h2, h3⟩ := T
  have keep : ∀ q xs, H q = some (.lst xs) → upd H d (.dT (putK kvs (tkey x) (.ref l))) q = some (.lst xs) := fun q xs hq => by
    rw [upd_ne (fun e => by rw [e, h1] at hq; cases hq)]
    exact hq
  refine ⟨_, .inr ⟨kvs, tkey x, t, h1, rfl, ht, by rw [sizeLine_eq]; omega, rfl⟩, ⟨_, rfl⟩, _, upd_same, Nat.le_trans (putK_len _ _ _) (by omega), fun z a c => ?_⟩
  rw [valV_put]
  by_cases e : z = x
  · subst e
    exact ⟨l, if_pos rfl, hb, by rw [put1_same]; exact keep _ _ hl⟩
  · obtain ⟨l', e1, e2, e3⟩ := h3 z a (c.resolve_right e)
    exact ⟨l', by rw [if_neg (fun q => e (tkey_inj q))]; exact e1, e2, by rw [put1_ne e]; exact keep _ _ e3⟩
end
section
variable {P : Program} {w : World} {K : PySem.W.Frag} {mg : Str → Option Value} {base : Heap}
abbrev sTurn : Stmt := topS 30
abbrev nTurn : List Str := ["_law_box_here", "_law_web_here", "_law_sheets", "_law_found", "_law_h", "_law_mark", "_law_pegs", "_law_p", "_law_g", "_law_q", "_law_row", "_law_k", "_law_shift", "_law_s"]
theorem scTurn : FnScope nTurn ["_law_box_here", "_law_web_here", "_law_sheets"] (defScope sTurn) := ⟨rfl, rfl, rfl, by decide +kernel, rfl, by decide +kernel, by decide +kernel⟩
def spTurn : Sp := fun vs H Q _ => ∃ (b : Addr) (S : Nat) (B : Web) (u : V), vs = [.ref b, u, .int (S : Nat)] ∧ BoxAt H b ∧ KD H (kWeb B) u ∧ Fit B ∧ LeadBack B ∧ 0 < S ∧ S < 100 ∧ ∀ H' d tau, Bx b H H' → TurnAt H' b d B tau (fun _ => True) 1000 → d ≠ b → Turns B S tau → Q (.ref d) H'
theorem ok_turn {f fT fS : Addr} {fd fdT fdS : FuncData} {k : Nat} (F : Fun K "_law_turnings" "_law_turnings" sTurn f fd)
    (FT : Fun K "_law_take" "_law_take" sTake fT fdT) (bT : Binds K fdT ["_law_box_here", "_law_wide"] []) (gT : mg "_law_take" = some (.ref fT)) (GT : FnOk P w K mg base CX0 k fT fdT ["_law_box_here", "_law_wide"] spTake)
    (FS : Fun K "_law_shuffled" "_law_shuffled" sShuf fS fdS) (bS : Binds K fdS ["_law_box_here", "_law_many"] []) (gS : mg "_law_shuffled" = some (.ref fS)) (GS : FnOk P w K mg base CX0 k fS fdS ["_law_box_here", "_law_many"] spShuf)
    (mli : mg "list" = none) (mr : mg "range" = none) (me : mg "enumerate" = none) :
    FnOk P w K mg base CX0 (k + 1) f fd ["_law_box_here", "_law_web_here", "_law_sheets"] spTurn := by
  refine F.ok scTurn (fun vs H Q E h => ?_) (fun cdv A outer s H vs Q E hr h => ?_)
  · obtain ⟨b, S, B, u, rfl, _⟩ := h
    rfl
  · obtain ⟨b, S, B, u, rfl, hb, hu, ft, lb, hS0, hS, qq⟩ := h
    refine ⟨_, pss_cons (ps_set (i := 3) scTurn.nd rfl (.inl rfl) pe_dnewT)
      (pss_cons (ps_for PassesOwn.never rfl (pi_enumT (by rfl) me (pa_cons (pv 1) pa_nil)) (pg_tup rfl (pgs_cons (pg_name (i := 4) scTurn.nd rfl (.inl rfl)) (pgs_cons (pg_tup rfl (pgs_cons (pg_name (i := 5) scTurn.nd rfl (.inl rfl)) (pgs_cons (pg_name (i := 6) scTurn.nd rfl (.inl rfl)) pgs_nil))) pgs_nil)))
        (pss_one (ps_for PassesOwn.never rfl (pi_enumT (by rfl) me (pa_cons (pv 6) pa_nil)) (pg_tup rfl (pgs_cons (pg_name (i := 7) scTurn.nd rfl (.inl rfl)) (pgs_cons (pg_tup rfl (pgs_cons (pg_name (i := 8) scTurn.nd rfl (.inl rfl)) (pgs_cons (pg_name (i := 9) scTurn.nd rfl (.inl rfl)) pgs_nil))) pgs_nil)))
          (pss_one (ps_if (pt_cmpR (op_eqD hr.units) (pe_tup (pa_cons (pv 8) (pa_cons (pv 9) pa_nil))) (pe_tup (pa_cons (pv 4) (pa_cons (pv 7) pa_nil))) (nomark _))
            (pss_cons (ps_set (i := 10) scTurn.nd rfl (.inr rfl) (pe_listRg rfl (by rfl) mli (prg_1 (by rfl) mr (pv 2))))
            (pss_cons (ps_for PassesOwn.never rfl (pi_range1 (by rfl) mr (pa_cons (pe_op op_fdiv (pv 2) pe_int) pa_nil)) (pg_name (i := 11) scTurn.nd rfl (.inl rfl))
              (pss_one (ps_if (pt_cmpR op_gt (pe_call GT hr (by rfl) gT FT.kp bT .nil pass0 (pa_cons (pv 0) (pa_cons pe_int pa_nil))) pe_int (nomark _))
                (pss_one (ps_asg (pe_tup (pa_cons (pe_op op_add (pe_op op_mul pe_int (pv 11)) pe_int) (pa_cons (pe_op op_mul pe_int (pv 11)) pa_nil))) (pg_tup rfl (pgs_cons (pg_sub (pv 10) (pe_op op_mul pe_int (pv 11)) set_list) (pgs_cons (pg_sub (pv 10) (pe_op op_add (pe_op op_mul pe_int (pv 11)) pe_int) set_list) pgs_nil))))) pss_nil)))
            (pss_cons (ps_set (i := 12) scTurn.nd rfl (.inr rfl) (pe_call GT hr (by rfl) gT FT.kp bT .nil pass0 (pa_cons (pv 0) (pa_cons (pv 2) pa_nil))))
            (pss_one (ps_dput (hu_of hr) (pv 3) (pe_tup (pa_cons (pv 4) (pa_cons (pv 7) pa_nil)))
              (pe_lc (own := [("_law_s", 13)]) (g := gName 13) (tt := tYes) (te := tOp (rI (fun _ j => 0 < j) fun i j => .int (i % j)) (tOp (rI0 fun i j => .int (i - j)) (tOp (rIxL K) (tVar 10) (tOp (rI (fun _ j => 0 < j) fun i j => .int (i % j)) (tOp (rI0 fun i j => .int (i + j)) (tVar 13) (tVar 12)) (tVar 2))) (tVar 12)) (tVar 2)) rfl scTurn.nd (pi_range1 (by rfl) mr (pa_cons (pv 2) pa_nil))
                (blkOk_by (own := [("_law_s", 13)]) (N := nTurn) (sc := defScope sTurn) (by decide +kernel))
                (fun _ _ _ _ _ => pg_name (i := 13) scTurn.nd rfl (.inl rfl)) (fun _ _ _ _ _ => pts_nil)
                (fun _ _ _ _ _ => pe_op op_mod (pe_op op_sub (pe_ix (ixL K) (pv 10) (pe_op op_mod (pe_op op_add (pv 13) (pv 12)) (pv 2)) (fun _ _ => rfl)) (pv 12)) (pv 2))) rfl)))))
            (pss_one (ps_if (pt_cmpR (op_ltT (Nat.lt_of_le_of_lt (Nat.le_add_right _ 64) hr.units)) (pe_tup (pa_cons (pv 4) (pa_cons (pv 7) pa_nil))) (pe_tup (pa_cons (pv 8) (pa_cons (pv 9) pa_nil))) (nomark _))
              (pss_cons (ps_set (i := 10) scTurn.nd rfl (.inr rfl) (pe_call GS hr (by rfl) gS FS.kp bS .nil pass0 (pa_cons (pv 0) (pa_cons (pv 2) pa_nil))))
              (pss_cons (ps_dput (hu_of hr) (pv 3) (pe_tup (pa_cons (pv 4) (pa_cons (pv 7) pa_nil))) (pv 10) rfl)
              (pss_one (ps_dput (hu_of hr) (pv 3) (pe_tup (pa_cons (pv 8) (pa_cons (pv 9) pa_nil)))
                (pe_lc (own := [("_law_s", 13)]) (g := gName 13) (tt := tYes) (te := tBM K "list" (rIndexD K) (tVar 10) (tCons (tVar 13) tNil)) rfl scTurn.nd (pi_range1 (by rfl) mr (pa_cons (pv 2) pa_nil))
                  (blkOk_by (own := [("_law_s", 13)]) (N := nTurn) (sc := defScope sTurn) (by decide +kernel))
                  (fun _ _ _ _ _ => pg_name (i := 13) scTurn.nd rfl (.inl rfl)) (fun _ _ _ _ _ => pts_nil)
                  (fun _ _ _ _ _ => pe_bmK K PySem.F.plainAttrs_list PySem.F.slot_list_index PySem.F.type_list_index (mt_indexK K (room65 hr)) (pv 10) (pa_cons (pv 13) pa_nil))) rfl))))
              pss_nil)))))))
      (pss_one (ps_ret (pv 3)))), ?_⟩
    obtain ⟨a, xs, rfl, ha, hxs, hlen⟩ := hu.webAt
    have hfew := ft.few
    have l2 : (2 : Nat) ≤ sizeLine := by decide
    refine fun d nd => ?_
    have s1 : Same H (upd H d (.dT [])) := same_upd nd
    have db : d ≠ b := hb.ne nd
    refine ⟨_, rfl, a, xs, rfl, .inl (rd_same s1 ha), for_it (walk_enumT (K := K) (a := a) (xs := xs)) (fun i σ H' => ∃ z4 z5 z6 z7 z8 z9 z10 z11 z12 z13 tau, σ = [some (.ref b), some (.ref a), some (.int (S : Nat)), some (.ref d), z4, z5, z6, z7, z8, z9, z10, z11, z12, z13] ∧ Bx b H H' ∧ TurnAt H' b d B tau (Dn B i 0) (16 * i) ∧ Part B S tau (Dn B i 0))
      ⟨none, none, none, none, none, none, none, none, none, none, fun _ => [], rfl, Bx.of hb s1, ⟨[], upd_same, Nat.le_refl _, fun x _ h => (Dn_zero h).elim⟩, Part.start.sub fun x _ h => (Dn_zero h).elim⟩ (fun i σ H' hi h => ?_) (fun i x σ H1 H2 hi h hy => ?_) (fun σ H' h => ?_)⟩
    · obtain ⟨_, _, _, _, _, _, _, _, _, _, _, _, bx, _⟩ := h
      exact .inl (bx.tups hb _ _ ha)
    · obtain ⟨z4, z5, z6, z7, z8, z9, z10, z11, z12, z13, tau, rfl, bx, ta, pt⟩ := h
      obtain ⟨T, x1, x2, rfl, nT, rfl, e1, hx2⟩ := hy
      obtain rfl := (Option.some.inj e1).symm
      dsimp only at hx2
      have hiB : i < B.length := by omega
      obtain ⟨_, hkx⟩ := hxs.web hx2
      obtain ⟨c, e, ys, rfl, hc, he, hys, hyl⟩ := hkx.handAt
      have bx1 := bx.same (same_upd (o := .tup [.int (i : Nat), .ref c]) nT)
      have tu1 := bx1.tups hb
      refine ⟨T, _, rfl, .inl (.inl upd_same), rfl, _, _, rfl, _, _, rfl, ⟨c, _, rfl, .inl (tu1 _ _ hc), rfl, _, _, rfl, _, _, rfl, rfl, rfl, ?_⟩⟩
      have hpl := ft.plen i
      refine ⟨_, rfl, e, ys, rfl, .inl (tu1 _ _ he), for_it (walk_enumT (K := K) (a := e) (xs := ys)) (fun j σ H' => ∃ z7 z8 z9 z10 z11 z12 z13 tau, σ = [some (.ref b), some (.ref a), some (.int (S : Nat)), some (.ref d), some (.int (i : Nat)), some (.int (mk B i)), some (.ref e), z7, z8, z9, z10, z11, z12, z13] ∧ Bx b H H' ∧ TurnAt H' b d B tau (Dn B i j) (16 * i + 2 * j) ∧ Part B S tau (Dn B i j))
        ⟨z7, z8, z9, z10, z11, z12, z13, tau, rfl, bx1, ta.move db (Bx.of bx.box (same_upd nT)), pt⟩ (fun j σ H' hj h => ?_) (fun j x σ H1 H2 hj h hy => ?_) (fun σ H' h => ?_)⟩
      · obtain ⟨_, _, _, _, _, _, _, _, _, bx, _⟩ := h
        exact .inl (bx.tups hb _ _ he)
      · clear bx1 tu1 bx ta pt
        obtain ⟨z7, z8, z9, z10, z11, z12, z13, tau, rfl, bx, ta, pt⟩ := h
        obtain ⟨T2, x1, x2, rfl, nT2, rfl, e1, hx2⟩ := hy
        obtain rfl := (Option.some.inj e1).symm
        dsimp only at hx2
        obtain ⟨z, hz, hkz⟩ := hys.pegs hx2
        obtain ⟨g, rfl, hg⟩ := hkz.pairAt
        have hpz : peg B (i, j) = z := by
          unfold peg
          rw [List.getD_eq_getElem?_getD, hz]
          rfl
        have hin : inP B (i, j) := by show j < (pegs B i).length; omega
        have sT := same_upd (o := .tup [.int (j : Nat), .ref g]) nT2
        have bx1 := bx.same sT
        refine ⟨T2, _, rfl, .inl (.inl upd_same), rfl, _, _, rfl, _, _, rfl, ⟨g, _, rfl, .inl (bx1.tups hb _ _ hg), rfl, _, _, rfl, _, _, rfl, rfl, rfl, ?_⟩⟩
        refine ⟨_, rfl, _, rfl, l2, fun p1 n1 => ⟨_, rfl, _, rfl, l2, fun p2 n2 => ?_⟩⟩
        have q1 := same_upd (o := .tup [.int (z.1 : Nat), .int (z.2 : Nat)]) n1
        have q2 := same_upd (o := .tup [.int (i : Nat), .int (j : Nat)]) n2
        have k1 : KD (upd (upd (upd H1 T2 (.tup [.int (j : Nat), .ref g])) p1 (.tup [.int (z.1 : Nat), .int (z.2 : Nat)])) p2 (.tup [.int (i : Nat), .int (j : Nat)])) (kPeg z) (.ref p1) := kPeg_new.tups (tups_same q2)
        have k2 : KD (upd (upd (upd H1 T2 (.tup [.int (j : Nat), .ref g])) p1 (.tup [.int (z.1 : Nat), .int (z.2 : Nat)])) p2 (.tup [.int (i : Nat), .int (j : Nat)])) (kPeg (i, j)) (.ref p2) := kPeg_new
        refine ⟨_, _, k1.dp, k2.dp, key_shaped k1.pure_ (kPeg_depth _), key_shaped k2.pure_ (kPeg_depth _), _, rfl, ?_⟩
        rw [eqv_iff k1.pure_]
        have bx2 := (bx1.same q1).same q2
        have ta2 := ta.move db (Bx.of bx.box ((sT.trans q1).trans q2))
        refine ite2 (fun c1 => ?_) (fun c1 => ?_)
        · have e1 : z = (i, j) := kPeg_eq.mp (of_decide_eq_true c1)
          clear k1 k2
          generalize (upd (upd (upd H1 T2 (.tup [.int (j : Nat), .ref g])) p1 (.tup [.int (z.1 : Nat), .int (z.2 : Nat)])) p2 (.tup [.int (i : Nat), .int (j : Nat)])) = Hx at bx2 ta2
          refine ⟨_, rfl, (S : Nat), rfl, RgOk.of_le (by omega) (by omega) (by omega) (by omega), fun R nR => ?_⟩
          rw [rgV_nums]
          have sR := same_upd (o := .lst (vNums (List.range S))) nR
          have hRb : R ≠ b := bx2.box.ne nR
          refine ⟨_, rfl, _, _, rfl, rfl, ⟨by omega, by omega⟩, _, rfl, by omega, by omega, for_range (lo := 0) (n := (((S : Nat) : Int) / 2).toNat) (fun m σ H' => ∃ z11 r, σ = [some (.ref b), some (.ref a), some (.int (S : Nat)), some (.ref d), some (.int (i : Nat)), some (.int (mk B i)), some (.ref e), some (.int (j : Nat)), some (.int (z.1 : Nat)), some (.int (z.2 : Nat)), some (.ref R), z11, z12, z13] ∧ Bx b Hx H' ∧ H' R = some (.lst (vNums r)) ∧ Flip S (2 * m) r)
            ⟨z11, _, rfl, Bx.of bx2.box sR, upd_same, Flip.start S⟩ (fun m σ H' hm hh => ?_) (fun σ H' hh => ?_)⟩
          · obtain ⟨z11, r, rfl, bx3, hR, F3⟩ := hh
            have hmS : 2 * m + 1 < S := by omega
            have hrl := F3.len
            rw [Int.zero_add]
            refine ⟨_, rfl, b, 3, rfl, bx3.box, by decide, by decide, fun H4 d4 x4 hd4 => ⟨_, _, rfl, rfl, _, rfl, ite2 (fun c2 => ?_) (fun c2 => ?_)⟩⟩
            · have hR4 := x4.keep _ _ hRb hR
              refine ⟨_, rfl, _, _, rfl, rfl, .inl ⟨by decide, by decide⟩, _, _, rfl, rfl, _, rfl, _, _, rfl, rfl, .inl ⟨by decide, by decide⟩, l2, fun p4 n4 => ?_⟩
              have q4 := same_upd (o := .tup [.int (2 * (m : Nat) + 1), .int (2 * (m : Nat))]) n4
              have em : (2 : Int) * ((m : Nat) : Int) = ((2 * m : Nat) : Int) := by omega
              have em1 : (2 : Int) * ((m : Nat) : Int) + 1 = ((2 * m + 1 : Nat) : Int) := by omega
              refine ⟨p4, _, rfl, .inl (.inl upd_same), rfl, _, _, rfl, _, rfl, _, rfl, _, _, rfl, rfl, .inl ⟨by decide, by decide⟩, R, _, _, 2 * m, rfl, rfl, q4 _ _ hR4, by rw [em]; exact ixN_nat (by simp [vNums]; omega), ?_⟩
              refine ⟨_, _, rfl, _, rfl, _, rfl, _, _, rfl, rfl, .inl ⟨by decide, by decide⟩, _, _, rfl, rfl, R, _, _, 2 * m + 1, rfl, rfl, upd_same, by rw [em1]; exact ixN_nat (by simp [vNums]; omega), rfl, ?_⟩
              have bx5 : Bx b Hx (upd (upd H4 p4 (.tup [.int (2 * (m : Nat) + 1), .int (2 * (m : Nat))])) R (.lst ((vNums r).set (2 * m) (.int (2 * (m : Nat) + 1))))) := ((bx3.trans x4).same q4).over nR hRb
              refine ⟨_, _, rfl, bx5.over nR hRb, ?_, F3.swap hmS⟩
              rw [upd_same]
              dsimp only
              rw [em1, em]
              simp [vNums, List.map_set]
            · exact ⟨_, r, rfl, bx3.trans x4, x4.keep _ _ hRb hR, F3.more (by omega)⟩
          · obtain ⟨z11, r, rfl, bx3, hR, F3⟩ := hh
            have hrl := F3.len
            refine ⟨_, rfl, _, rfl, b, S, rfl, bx3.box, hS0, by omega, fun H5 dd x5 hdd => ?_⟩
            have hR5 := x5.keep _ _ hRb hR
            have bx5 := bx2.trans (bx3.trans x5)
            have ta5 := ta2.move db (bx3.trans x5)
            refine ⟨_, rfl, (S : Nat), rfl, by omega, by omega, fun D hD => lc_it (walk_range (lo := 0) (n := ((S : Nat) : Int).toNat)) (fun m H' => Same H5 H' ∧ H' D = some (.lst (vNums ((List.range m).map (shifted S r dd))))) ⟨same_upd hD, upd_same⟩ (fun _ _ _ _ => trivial) (fun m x H7 H8 hm hh hy => ?_) (fun H7 hh => ?_)⟩
            · obtain ⟨rfl, rfl⟩ := hy
              obtain ⟨s7, hDv⟩ := hh
              have hmS : m < S := by omega
              dsimp only
              rw [Int.zero_add]
              have hx : (m + dd) % S < r.length := by rw [hrl]; exact Nat.mod_lt _ hS0
              have ex : (((m : Nat) : Int) + ((dd : Nat) : Int)) % ((S : Nat) : Int) = (((m + dd) % S : Nat) : Int) := by push_cast; rfl
              refine ⟨rfl, _, rfl, _, rfl, _, rfl, _, _, rfl, rfl, _, rfl, _, _, rfl, rfl, (by omega), R, _, _, _, rfl, rfl, .inl (.inl (s7 _ _ hR5)), by rw [ex]; exact atI_vn hx, _, rfl, _, _, rfl, rfl, _, rfl, _, _, rfl, rfl, (by omega), ?_⟩
              refine ⟨_, hDv, by rw [sizeLine_eq]; simp [vNums]; omega, same_over hD s7, ?_⟩
              have ev : ((((at0 r ((m + dd) % S) : Nat) : Int) - ((dd : Nat) : Int)) % ((S : Nat) : Int)) = ((shifted S r dd m : Nat) : Int) := by
                unfold shifted
                have := Int.emod_nonneg (((at0 r ((m + dd) % S) : Nat) : Int) - ((dd : Nat) : Int)) (show ((S : Nat) : Int) ≠ 0 by omega)
                omega
              rw [upd_same, List.range_succ, List.map_append]
              dsimp only
              rw [ev]
              simp [vNums]
            · obtain ⟨s7, hDv⟩ := hh
              rw [show ((S : Nat) : Int).toNat = S by omega] at hDv
              have bx7 := bx5.same s7
              have hDb : D ≠ b := bx5.box.ne hD
              refine ⟨_, rfl, _, rfl, _, rfl, l2, fun p8 n8 => ?_⟩
              have q8 := same_upd (o := .tup [.int (i : Nat), .int (j : Nat)]) n8
              obtain ⟨H9, dp9, ⟨o9, eo9⟩, ta9⟩ := (ta5.move db (Bx.of bx5.box (s7.trans q8))).put (x := (i, j)) (q8 _ _ hDv) hDb (by omega) upd_same
              refine ⟨d, H9, rfl, dp9, ?_⟩
              have bx9 : Bx b H H9 := by rw [eo9]; exact (bx7.same q8).over nd db
              have pt' := pt.self lb (hpz.trans e1) (r := (List.range S).map (shifted S r dd)) (by simp) (fun s hs => by rw [at0_mapr hs]; exact shifted_lt F3 hdd hs)
                (fun s hs => by rw [at0_mapr hs, at0_mapr (shifted_lt F3 hdd hs)]; exact shifted_inv F3 hdd hs)
              have hD : ∀ x, inP B x → Dn B i (j + 1) x → Dn B i j x ∨ x = (i, j) := fun x hx hd => by
                rcases Dn_next lb hx hd with h | h | h
                · exact .inl h
                · exact .inr h
                · exact .inr (by rw [h, hpz, e1])
              exact ⟨_, _, _, _, _, _, _, _, rfl, bx9, ta9.sub (by omega) hD, pt'.sub hD⟩
        · have e1 : ¬ z = (i, j) := fun z => c1 (decide_eq_true (kPeg_eq.mpr z))
          clear k1 k2
          generalize (upd (upd (upd H1 T2 (.tup [.int (j : Nat), .ref g])) p1 (.tup [.int (z.1 : Nat), .int (z.2 : Nat)])) p2 (.tup [.int (i : Nat), .int (j : Nat)])) = Hx at bx2 ta2
          refine ⟨_, rfl, _, rfl, l2, fun p3 n3 => ⟨_, rfl, _, rfl, l2, fun p4 n4 => ?_⟩⟩
          have q3 := same_upd (o := .tup [.int (i : Nat), .int (j : Nat)]) n3
          have q4 := same_upd (o := .tup [.int (z.1 : Nat), .int (z.2 : Nat)]) n4
          refine ⟨p3, p4, [(i : Int), (j : Int)], [(z.1 : Int), (z.2 : Int)], rfl, rfl, .inl (.inl (q4 _ _ upd_same)), .inl (.inl upd_same), _, rfl, ?_⟩
          have bx4 := (bx2.same q3).same q4
          have ta4 := ta2.move db (Bx.of bx2.box (q3.trans q4))
          refine ite2 (fun c2 => ?_) (fun c2 => ?_)
          · refine ⟨_, rfl, _, rfl, b, S, rfl, bx4.box, by omega, fun H5 l r x5 hl hr nl => ?_⟩
            have hlb := bx4.box.ne nl
            have hld : l ≠ d := fun e => by obtain ⟨kvs, h, _⟩ := ta4; rw [e, h] at nl; cases nl
            have bx5 := bx4.trans x5
            refine ⟨_, rfl, _, rfl, _, rfl, _, rfl, l2, fun p5 n5 => ?_⟩
            have q5 := same_upd (o := .tup [.int (i : Nat), .int (j : Nat)]) n5
            obtain ⟨H6, dp6, ⟨o6, eo6⟩, ta6⟩ := ((ta4.move db x5).move db (Bx.of bx5.box q5)).put (x := (i, j)) (q5 _ _ hl) hlb (by omega) upd_same
            refine ⟨d, H6, rfl, dp6, ?_⟩
            have bx6 : Bx b H H6 := by rw [eo6]; exact (bx5.same q5).over nd db
            have hl6 : H6 l = some (.lst (vNums r)) := by rw [eo6, upd_ne hld]; exact q5 _ _ hl
            refine ⟨_, rfl, (S : Nat), rfl, by omega, by omega, fun D hD => lc_it (walk_range (lo := 0) (n := ((S : Nat) : Int).toNat)) (fun m H' => Same H6 H' ∧ H' D = some (.lst (vNums ((List.range m).map fun s => r.idxOf s)))) ⟨same_upd hD, upd_same⟩ (fun _ _ _ _ => trivial) (fun m x H7 H8 hm hh hy => ?_) (fun H7 hh => ?_)⟩
            · obtain ⟨rfl, rfl⟩ := hy
              obtain ⟨s7, hDv⟩ := hh
              have hl7 := s7 _ _ hl6
              have hmS : m < S := by omega
              have hget : r[r.idxOf m]? = some m := by
                have h1 := hr.get (hr.idx_lt hmS)
                rwa [hr.at_idx hmS] at h1
              dsimp only
              rw [Int.zero_add]
              have ks : KDs H8 (r.map kI) (vNums r) := KDs.map fun x _ => KD.mkInt x
              have kd : KD H8 (kI m) (.int (m : Nat)) := KD.mkInt m
              refine ⟨rfl, _, rfl, .inl ⟨rfl, _, .inl (.inl hl7)⟩, _, rfl, l, _, (kI m).data, NestedKey.datas (r.map kI), r.idxOf m, (kI m).data, rfl, rfl, .lst (.inl (.inl hl7)) ks.dp, kd.dp, keys_shaped ks.pure_ (depthAll_le fun k hk => ?_), key_shaped kd.pure_ (kI_depth m), by rw [datas_get, List.getElem?_map, hget]; rfl, eqv_self _ kd.pure_, fun m' z' hm' hz => ?_, ?_⟩
              · obtain ⟨y, _, rfl⟩ := List.mem_map.mp hk
                exact Nat.le_trans (kI_depth0 y) (by decide)
              · rw [datas_get, List.getElem?_map] at hz
                cases hy : r[m']? with
                | none => rw [hy] at hz; cases hz
                | some y =>
                  rw [hy] at hz
                  obtain rfl := Option.some.inj hz
                  rw [eqv_iff (KD.mkInt (H := H8) y).pure_]
                  refine decide_eq_false fun e => ?_
                  have e' : y = m := by
                    unfold kI at e
                    injection e with e
                    omega
                  subst e'
                  have := (List.getElem?_inj (List.getElem?_eq_some_iff.mp hy).1 hr.nd).mp (hy.trans hget.symm)
                  omega
              · refine ⟨_, hDv, by rw [sizeLine_eq]; simp [vNums]; omega, same_over hD s7, ?_⟩
                rw [upd_same, List.range_succ, List.map_append]
                simp [vNums]
            · obtain ⟨s7, hDv⟩ := hh
              rw [show ((S : Nat) : Int).toNat = S by omega] at hDv
              have bx7 := bx6.same s7
              have hDb : D ≠ b := bx6.box.ne hD
              refine ⟨_, rfl, _, rfl, _, rfl, l2, fun p8 n8 => ?_⟩
              have q8 := same_upd (o := .tup [.int (z.1 : Nat), .int (z.2 : Nat)]) n8
              obtain ⟨H9, dp9, ⟨o9, eo9⟩, ta9⟩ := (ta6.move db (Bx.of bx6.box (s7.trans q8))).put (x := z) (q8 _ _ hDv) hDb (by omega) upd_same
              refine ⟨d, H9, rfl, dp9, ?_⟩
              have bx9 : Bx b H H9 := by rw [eo9]; exact (bx7.same q8).over nd db
              have rl : r.length = S := hr.len
              have pt' := pt.two lb hin hpz e1 (r := r) (r' := (List.range S).map fun s => r.idxOf s) rl (fun s hs => hr.at_lt hs) (by simp) (fun s hs => by rw [at0_mapr hs]; exact hr.idx_lt hs)
                (fun s hs => by rw [at0_mapr (hr.at_lt hs)]; exact hr.idx_at hs) (fun s hs => by rw [at0_mapr hs]; exact hr.at_idx hs)
              refine ⟨_, _, _, _, _, _, _, _, rfl, bx9, ta9.sub (by omega) fun x hx hd => ?_, pt'.sub fun x hx hd => ?_⟩
              · rcases Dn_next lb hx hd with h | h | h
                · exact .inl (.inl h)
                · exact .inl (.inr h)
                · exact .inr (by rw [h, hpz])
              · rcases Dn_next lb hx hd with h | h | h
                · exact .inl h
                · exact .inr (.inl h)
                · exact .inr (.inr (by rw [h, hpz]))
          · have hv : vis i j z := by
              have c3 : ¬ HT.lexLt [(i : Int), (j : Int)] [(z.1 : Int), (z.2 : Int)] = true := c2
              rw [lex2] at c3
              by_cases e2 : z.1 = i
              · refine .inr ⟨e2, ?_⟩
                have : z.2 ≠ j := fun e3 => e1 (Prod.ext e2 e3)
                omega
              · exact .inl (by omega)
            have hD : ∀ x, inP B x → Dn B i (j + 1) x → Dn B i j x := fun x hx hd => by
              rcases Dn_next lb hx hd with h | rfl | rfl
              · exact h
              · exact .inr (by rw [hpz]; exact hv)
              · exact .inl (by rw [hpz]; exact hv)
            exact ⟨_, _, _, _, _, _, _, tau, rfl, bx4, ta4.sub (by omega) hD, pt.sub hD⟩
      · obtain ⟨z7, z8, z9, z10, z11, z12, z13, tau, rfl, bx, ta, pt⟩ := h
        rw [hyl] at ta pt
        exact ⟨_, _, _, _, _, _, _, _, _, _, tau, rfl, bx, ta.sub (by omega) (fun x hx hd => Dn_over lb hx hd), pt.sub (fun x hx hd => Dn_over lb hx hd)⟩
    · obtain ⟨z4, z5, z6, z7, z8, z9, z10, z11, z12, z13, tau, rfl, bx, ta, pt⟩ := h
      rw [hlen] at ta pt
      exact ⟨_, rfl, qq _ _ tau bx (ta.sub (by omega) fun x hx _ => Dn_all hx) db (pt.turns fun x hx => Dn_all hx)⟩
end
end Nl
end

section
set_option Elab.async false
set_option linter.all false
set_option maxRecDepth 100000
namespace Nl
open PySem PySem.Spec PyProof.Rows L2
theorem datas_map (ks : List NestedKey) : NestedKey.datas ks = ks.map NestedKey.data := List.ext_getElem? fun i => by rw [datas_get, List.getElem?_map]
theorem kPeg_pure (x : Nat × Nat) : pureK (kPeg x) = true := (kPeg_new (H := fun _ => none) (p := 0) (i := x.1) (j := x.2)).pure_
theorem kPeg_of {H : Hp} {p : Addr} (n : H p = none) {y : Nat × Nat} {i j : Nat} (e : y = (i, j)) : KD (upd H p (.tup [.int (i : Nat), .int (j : Nat)])) (kPeg y) (.ref p) := by
  subst e
  exact kPeg_new
theorem peg_any (L : List (Nat × Nat)) (x : Nat × Nat) : ((NestedKey.datas (L.map kPeg)).any fun z => PyData.eqv z (kPeg x).data) = decide (x ∈ L) := by
  rw [datas_map, List.map_map, List.any_map, Bool.eq_iff_iff, List.any_eq_true, decide_eq_true_eq]
  constructor
  · rintro ⟨y, hy, e⟩
    have e' : PyData.eqv (kPeg y).data (kPeg x).data = true := e
    rw [eqv_iff (kPeg_pure y), decide_eq_true_eq, kPeg_eq] at e'
    exact e' ▸ hy
  · intro hx
    exact ⟨x, hx, eqv_self _ (kPeg_pure x)⟩
theorem pegs_depth (L : List (Nat × Nat)) : NestedKey.depthAll (L.map kPeg) ≤ 63 := depthAll_le fun k hk => by
  obtain ⟨x, _, rfl⟩ := List.mem_map.mp hk
  unfold kPeg kI
  rw [depth_pair]
  decide
theorem peg_index {K : PySem.W.Frag} {H : Hp} {th : Addr} {vs : List V} {L : List (Nat × Nat)} {x : Nat × Nat} {v : V} (hth : H th = some (.lst vs)) (hk : KDs H (L.map kPeg) vs) (hv : KD H (kPeg x) v) (hx : x ∈ L) (hn : L.Nodup) :
    Dp K H (.ref th) (.list (NestedKey.datas (L.map kPeg))) ∧ Dp K H v (kPeg x).data ∧ SeqAt.shaped (.list (NestedKey.datas (L.map kPeg))) = true ∧ SeqAt.shaped (kPeg x).data = true ∧ (NestedKey.datas (L.map kPeg))[L.idxOf x]? = some (kPeg x).data ∧ PyData.eqv (kPeg x).data (kPeg x).data = true ∧ ∀ (m : Nat) (z' : PyData), m < L.idxOf x → (NestedKey.datas (L.map kPeg))[m]? = some z' → PyData.eqv z' (kPeg x).data = false := by
  obtain ⟨hl, he⟩ := idx_of hx
  have hget : L[L.idxOf x]? = some x := by rw [getD_at hl, he]
  refine ⟨.lst (.inl (.inl hth)) hk.dp, hv.dp, keys_shaped hk.pure_ (pegs_depth L), key_shaped hv.pure_ (kPeg_depth x), by rw [datas_get, List.getElem?_map, hget]; rfl, eqv_self _ hv.pure_, fun m z hm hz => ?_⟩
  rw [datas_get, List.getElem?_map] at hz
  cases hy : L[m]? with
  | none => rw [hy] at hz; cases hz
  | some y =>
    rw [hy] at hz
    obtain rfl := Option.some.inj hz
    rw [eqv_iff (kPeg_pure y)]
    refine decide_eq_false fun e => ?_
    obtain rfl := kPeg_eq.mp e
    have := (List.getElem?_inj (List.getElem?_eq_some_iff.mp hy).1 hn).mp (hy.trans hget.symm)
    omega
theorem TurnAt.look {H : Hp} {b d : Addr} {B : Web} {tau : Nat × Nat → List Nat} {N : Nat} (T : TurnAt H b d B tau (fun _ => True) N) {H2 : Hp} (s : Same H H2) {x : Nat × Nat} (hx : inP B x) {t : Addr} (ht : H2 t = some (.tup [.int (x.1 : Nat), .int (x.2 : Nat)])) : ∃ l, DGet H2 d (.ref t) (some (.ref l)) ∧ H2 l = some (.lst (vNums (tau x))) := by
  obtain ⟨kvs, h1, _, h3⟩ := T
  obtain ⟨l, e1, _, e3⟩ := h3 x hx trivial
  exact ⟨l, .inr ⟨kvs, tkey x, t, .inl (s _ _ h1), rfl, ht, e1.symm⟩, s _ _ e3⟩
/-! ### _law_cover -/
section
variable {P : Program} {w : World} {K : PySem.W.Frag} {mg : Str → Option Value} {base : Heap}
abbrev sCov : Stmt := topS 31
abbrev nCov : List Str := ["_law_box_here", "_law_web_here", "_law_sheets", "_law_turnings_here", "_law_there", "_law_at", "_law_h", "_law_s", "_law_p", "_law_g", "_law_q", "_law_found", "_law_pegs", "_law_row", "_law_leading", "_law_k"]
theorem scCov : FnScope nCov ["_law_box_here", "_law_web_here", "_law_sheets"] (defScope sCov) := ⟨rfl, rfl, rfl, by decide +kernel, rfl, by decide +kernel, by decide +kernel⟩
def spCov : Sp := fun vs H Q _ => ∃ (b : Addr) (S : Nat) (B : Web) (u : V), vs = [.ref b, u, .int (S : Nat)] ∧ BoxAt H b ∧ KD H (kWeb B) u ∧ Fit B ∧ Valid B ∧ 0 < S ∧ S < 100 ∧ B.length * S ≤ 9 ∧ ∀ H' t z y W, Bx b H H' → H' t = some (.tup [z, y]) → KD H' (kWeb W) z → Valid W → Fit W → W.length ≤ B.length * S → Q (.ref t) H'
theorem ok_cov {f fU fS fR : Addr} {fd fdU fdS fdR : FuncData} {k : Nat} (F : Fun K "_law_cover" "_law_cover" sCov f fd)
    (FU : Fun K "_law_turnings" "_law_turnings" sTurn fU fdU) (bU : Binds K fdU ["_law_box_here", "_law_web_here", "_law_sheets"] []) (gU : mg "_law_turnings" = some (.ref fU)) (GU : FnOk P w K mg base CX0 k fU fdU ["_law_box_here", "_law_web_here", "_law_sheets"] spTurn)
    (FS : Fun K "_law_shuffled" "_law_shuffled" sShuf fS fdS) (bS : Binds K fdS ["_law_box_here", "_law_many"] []) (gS : mg "_law_shuffled" = some (.ref fS)) (GS : FnOk P w K mg base CX0 k fS fdS ["_law_box_here", "_law_many"] spShuf)
    (FR : Fun K "_law_renamed" "_law_renamed" sLRen fR fdR) (bR : Binds K fdR ["_law_web_here", "_law_row"] []) (gR : mg "_law_renamed" = some (.ref fR)) (GR : FnOk P w K mg base CX0 k fR fdR ["_law_web_here", "_law_row"] spLRen)
    (mt : mg "tuple" = none) (ml : mg "len" = none) (me : mg "enumerate" = none) :
    FnOk P w K mg base CX0 (k + 1) f fd ["_law_box_here", "_law_web_here", "_law_sheets"] spCov := by
  refine F.ok scCov (fun vs H Q E h => ?_) (fun cdv A outer s H vs Q E hr h => ?_)
  · obtain ⟨b, S, B, u, rfl, _⟩ := h
    rfl
  · obtain ⟨b, S, B, u, rfl, hb, hu, ft, vb, hS0, hS, hBS, qq⟩ := h
    refine ⟨_, pss_cons (ps_set (i := 3) scCov.nd rfl (.inr rfl) (pe_call GU hr (by rfl) gU FU.kp bU .nil pass0 (pa_cons (pv 0) (pa_cons (pv 1) (pa_cons (pv 2) pa_nil)))))
      (pss_cons (ps_set (i := 4) scCov.nd rfl (.inr rfl) (pe_lst (pa_cons (pe_tup (pa_cons pe_int (pa_cons pe_int pa_nil))) pa_nil)))
      (pss_cons (ps_set (i := 5) scCov.nd rfl (.inl rfl) pe_int)
      (pss_cons (ps_while PassesOwn.never (pt_cmpR op_lt (pv 5) (pe_callB (call_lenK K) (by rfl) ml PySem.boot_len (pa_cons (pv 4) pa_nil)) (nomark _))
        (pss_cons (ps_asg (pe_ix ix_list (pv 4) (pv 5) (fun _ _ => rfl)) (pg_tup rfl (pgs_cons (pg_name (i := 6) scCov.nd rfl (.inr rfl)) (pgs_cons (pg_name (i := 7) scCov.nd rfl (.inr rfl)) pgs_nil))))
        (pss_cons (ps_for PassesOwn.never rfl (pi_enumT (by rfl) me (pa_cons (pe_ix ix_tup (pe_ix ix_tup (pv 1) (pv 6) (fun _ _ => rfl)) pe_int (fun _ _ => rfl)) pa_nil)) (pg_tup rfl (pgs_cons (pg_name (i := 8) scCov.nd rfl (.inl rfl)) (pgs_cons (pg_tup rfl (pgs_cons (pg_name (i := 9) scCov.nd rfl (.inl rfl)) (pgs_cons (pg_name (i := 10) scCov.nd rfl (.inl rfl)) pgs_nil))) pgs_nil)))
          (pss_one (ps_if (pt_cmpR (op_notInD (room65 hr)) (pe_tup (pa_cons (pv 9) (pa_cons (pe_ix ix_list (pe_dget (hu_of hr) (pv 3) (pe_tup (pa_cons (pv 6) (pa_cons (pv 8) pa_nil))) (fun _ _ => rfl)) (pv 7) (fun _ _ => rfl)) pa_nil))) (pv 4) (by rfl))
            (pss_one (ps_expr (pe_bm PySem.F.plainAttrs_list PySem.F.slot_list_append PySem.F.type_list_append mt_append (pv 4) (pa_cons (pe_tup (pa_cons (pv 9) (pa_cons (pe_ix ix_list (pe_dget (hu_of hr) (pv 3) (pe_tup (pa_cons (pv 6) (pa_cons (pv 8) pa_nil))) (fun _ _ => rfl)) (pv 7) (fun _ _ => rfl)) pa_nil))) pa_nil)))) pss_nil)))
        (pss_one (ps_set (i := 5) scCov.nd rfl (.inl rfl) (pe_op op_add (pv 5) pe_int))))))
      (pss_cons (ps_set (i := 11) scCov.nd rfl (.inl rfl) (pe_lst pa_nil))
      (pss_cons (ps_for PassesOwn.never rfl (pi_list (pv 4)) (pg_tup rfl (pgs_cons (pg_name (i := 6) scCov.nd rfl (.inr rfl)) (pgs_cons (pg_name (i := 7) scCov.nd rfl (.inr rfl)) pgs_nil)))
        (pss_cons (ps_setLc (i := 12) (own := [("_law_p", 8), ("_law_g", 9), ("_law_q", 10)]) (g := gTup K 2 (gCons (gName 8) (gCons (gPair K 9 10) gNil))) (tt := tYes)
            (te := tTup (tCons (tBM K "list" (rIndexD K) (tVar 4) (tCons (tTup (tCons (tVar 9) (tCons (tOp (rIxL K) (tDGet (tVar 3) (tTup (tCons (tVar 6) (tCons (tVar 8) tNil)))) (tVar 7)) tNil))) tNil)) (tCons (tVar 10) tNil)))
            rfl scCov.nd rfl rfl (sw_true rfl rfl rfl (by decide +kernel)) (pi_enumT (by rfl) me (pa_cons (pe_ix ix_tup (pe_ix ix_tup (pv 1) (pv 6) (fun _ _ => rfl)) pe_int (fun _ _ => rfl)) pa_nil))
            (blkOk_by (own := [("_law_p", 8), ("_law_g", 9), ("_law_q", 10)]) (N := nCov) (sc := defScope sCov) (by decide +kernel))
            (fun _ _ _ _ _ => pg_tup rfl (pgs_cons (pg_name (i := 8) scCov.nd rfl (.inl rfl)) (pgs_cons (pg_tup rfl (pgs_cons (pg_name (i := 9) scCov.nd rfl (.inl rfl)) (pgs_cons (pg_name (i := 10) scCov.nd rfl (.inl rfl)) pgs_nil))) pgs_nil))) (fun _ _ _ _ _ => pts_nil)
            (fun _ _ _ _ _ => pe_tup (pa_cons (pe_bmK K PySem.F.plainAttrs_list PySem.F.slot_list_index PySem.F.type_list_index (mt_indexK K (room65 hr)) (pv 4) (pa_cons (pe_tup (pa_cons (pv 9) (pa_cons (pe_ix (ixL K) (pe_dget (hu_of hr) (pv 3) (pe_tup (pa_cons (pv 6) (pa_cons (pv 8) pa_nil))) (fun _ _ => rfl)) (pv 7) (fun _ _ => rfl)) pa_nil))) pa_nil)) (pa_cons (pv 10) pa_nil))))
        (pss_one (ps_expr (pe_bm PySem.F.plainAttrs_list PySem.F.slot_list_append PySem.F.type_list_append mt_append (pv 11) (pa_cons (pe_tup (pa_cons (pe_ix ix_tup (pe_ix ix_tup (pv 1) (pv 6) (fun _ _ => rfl)) pe_int (fun _ _ => rfl)) (pa_cons (pe_callTy call_tuple_of (by rfl) mt (by decide +kernel) (pa_cons (pv 12) pa_nil)) pa_nil))) pa_nil))))))
      (pss_cons (ps_set (i := 13) scCov.nd rfl (.inl rfl) (pe_call GS hr (by rfl) gS FS.kp bS .nil pass0 (pa_cons (pv 0) (pa_cons (pe_callB (call_lenK K) (by rfl) ml PySem.boot_len (pa_cons (pv 4) pa_nil)) pa_nil))))
      (pss_cons (ps_set (i := 14) scCov.nd rfl (.inl rfl) (pe_op op_rep (pe_lst (pa_cons pe_int pa_nil)) (pe_callB (call_lenK K) (by rfl) ml PySem.boot_len (pa_cons (pv 4) pa_nil))))
      (pss_cons (ps_for PassesOwn.never rfl (pi_enum (by rfl) me (pa_cons (pv 4) pa_nil)) (pg_tup rfl (pgs_cons (pg_name (i := 15) scCov.nd rfl (.inl rfl)) (pgs_cons (pg_tup rfl (pgs_cons (pg_name (i := 6) scCov.nd rfl (.inr rfl)) (pgs_cons (pg_name (i := 7) scCov.nd rfl (.inr rfl)) pgs_nil))) pgs_nil)))
        (pss_one (ps_asg (pv 6) (pg_sub (pv 14) (pe_ix ix_list (pv 13) (pv 15) (fun _ _ => rfl)) set_list))))
      (pss_one (ps_ret (pe_tup (pa_cons (pe_call GR hr (by rfl) gR FR.kp bR .nil pass0 (pa_cons (pe_callTy call_tuple_of (by rfl) mt (by decide +kernel) (pa_cons (pv 11) pa_nil)) (pa_cons (pv 13) pa_nil))) (pa_cons (pe_callTy call_tuple_of (by rfl) mt (by decide +kernel) (pa_cons (pv 14) pa_nil)) pa_nil))))))))))))), ?_⟩
    obtain ⟨a, xs, rfl, ha, hxs, hlen⟩ := id hu.webAt
    have hfew := ft.few
    have l2 : (2 : Nat) ≤ sizeLine := by decide
    refine ⟨_, rfl, _, rfl, _, rfl, b, S, B, _, rfl, hb, hu, ft, vb.back, hS0, hS, fun H1 d tau x1 ta db tu => ?_⟩
    refine ⟨l2, fun t0 nt0 => ⟨by show 1 ≤ sizeLine; decide, fun th nth => ?_⟩⟩
    have q0 := same_upd (o := .tup [.int 0, .int 0]) nt0
    have nth1 : H1 th = none := q0.free nth
    have s1 := q0.trans (same_upd (o := .lst [.ref t0]) nth)
    have rx : ∀ {H'}, Same H1 H' → Tups H H' := fun s a xs r => tups_same s a xs (x1.tups hb a xs r)
    refine ⟨fun m σ H' => ∃ L kk vs z6 z7 z8 z9 z10 z11 z12 z13 z14 z15, m = B.length * S - kk ∧ σ = [some (.ref b), some (.ref a), some (.int (S : Nat)), some (.ref d), some (.ref th), some (.int (kk : Nat)), z6, z7, z8, z9, z10, z11, z12, z13, z14, z15] ∧ Same H1 H' ∧ H' th = some (.lst vs) ∧ KDs H' (L.map kPeg) vs ∧ There B S tau L kk ∧ kk ≤ L.length,
      ⟨_, [(0, 0)], 0, _, none, none, none, none, none, none, none, none, none, none, rfl, rfl, s1, upd_same, ?_, There.start ft.pos hS0, Nat.zero_le _⟩, ?_⟩
    · refine .cons ?_ .nil
      exact (kPeg_new (i := 0) (j := 0)).tups (tups_same (same_upd nth))
    rintro m σ H' ⟨L, kk, vs, z6, z7, z8, z9, z10, z11, z12, z13, z14, z15, rfl, rfl, s2, hth, hks, tt, hkk⟩
    have hvl : vs.length = L.length := by have := hks.length; simpa using this
    refine ⟨_, rfl, _, rfl, th, vs, rfl, .inl (.inl (.inl hth)), _, _, rfl, rfl, _, rfl, ite2 (fun c1 => ?_) (fun c1 => ?_)⟩
    · have hkL : kk < L.length := by have := of_decide_eq_true c1; omega
      have hLS := tt.len
      refine ⟨fun σ' H' => ∃ L vs z6 z7 z8 z9 z10 z11 z12 z13 z14 z15, σ' = [some (.ref b), some (.ref a), some (.int (S : Nat)), some (.ref d), some (.ref th), some (.int (kk + 1 : Nat)), z6, z7, z8, z9, z10, z11, z12, z13, z14, z15] ∧ Same H1 H' ∧ H' th = some (.lst vs) ∧ KDs H' (L.map kPeg) vs ∧ There B S tau L (kk + 1) ∧ kk + 1 ≤ L.length, ?_, ?_⟩
      · rintro σ' H' ⟨L', vs', z6, z7, z8, z9, z10, z11, z12, z13, z14, z15, rfl, s3, h3, k3, t3, hl3⟩
        exact ⟨B.length * S - (kk + 1), by have := t3.len; omega, L', kk + 1, vs', _, _, _, _, _, _, _, _, _, _, rfl, rfl, s3, h3, k3, t3, hl3⟩
      · have hx := getD_at hkL
        generalize L.getD kk (0, 0) = x at hx
        obtain ⟨v, hvv, hkv⟩ := hks.get (i := kk) (k := kPeg x) (by rw [List.getElem?_map, hx]; rfl)
        obtain ⟨g, rfl, hg⟩ := hkv.pairAt
        refine ⟨_, rfl, _, rfl, th, vs, _, .ref g, rfl, rfl, .inl (.inl hth), atI_nat hvv, g, _, rfl, .inl hg, rfl, _, _, rfl, _, _, rfl, rfl, ?_⟩
        obtain ⟨hxB, hxS⟩ := tt.rng x (List.mem_of_getElem? hx)
        obtain ⟨hv, ehv, khv⟩ := hxs.web' hxB
        obtain ⟨c, e, ys, rfl, hc, he, hys, hyl⟩ := khv.handAt
        have hpl := ft.plen x.1
        refine ⟨_, rfl, _, rfl, a, xs, _, _, rfl, rfl, .inl (rx s2 _ _ ha), atI_nat ehv, c, _, _, .ref e, rfl, rfl, .inl (rx s2 _ _ hc), atI_nat (j := 1) rfl, e, ys, rfl, .inl (rx s2 _ _ he), ?_⟩
        refine for_it (walk_enumT (K := K) (a := e) (xs := ys)) (fun j σ H' => ∃ L vs z8 z9 z10 z11 z12 z13 z14 z15, σ = [some (.ref b), some (.ref a), some (.int (S : Nat)), some (.ref d), some (.ref th), some (.int (kk : Nat)), some (.int (x.1 : Nat)), some (.int (x.2 : Nat)), z8, z9, z10, z11, z12, z13, z14, z15] ∧ Same H1 H' ∧ H' th = some (.lst vs) ∧ KDs H' (L.map kPeg) vs ∧ There B S tau L kk ∧ kk < L.length ∧ L[kk]? = some x ∧ ∀ p, p < j → nx B tau x p ∈ L)
          ⟨L, vs, _, _, _, _, _, _, _, _, rfl, s2, hth, hks, tt, hkL, hx, fun p hp => absurd hp (Nat.not_lt_zero _)⟩ (fun j σ H' hj h => ?_) (fun j y σ H3 H4 hj h hy => ?_) (fun σ H' h => ?_)
        · obtain ⟨_, _, _, _, _, _, _, _, _, _, _, s3, _⟩ := h
          exact .inl (rx s3 _ _ he)
        · clear hth hks tt hkL hx hvl hvv hkv hg hLS c1 hkk s2
          obtain ⟨L, vs, z8, z9, z10, z11, z12, z13, z14, z15, rfl, s2, hth, hks, tt, hkL, hx, hall⟩ := h
          obtain ⟨T2, y1, y2, rfl, nT2, rfl, e1, hy2⟩ := hy
          obtain rfl := (Option.some.inj e1).symm
          dsimp only at hy2
          obtain ⟨z, hz, hkz⟩ := hys.pegs hy2
          obtain ⟨g, rfl, hg⟩ := hkz.pairAt
          have hin : inP B (x.1, j) := by show j < (pegs B x.1).length; omega
          have hpz : peg B (x.1, j) = z := by
            unfold peg
            rw [List.getD_eq_getElem?_getD, hz]
            rfl
          have hny : nx B tau x j = (z.1, at0 (tau (x.1, j)) x.2) := by unfold nx; rw [hpz]
          have hvl : vs.length = L.length := by have := hks.length; simpa using this
          have hLS := tt.len
          have sT := same_upd (o := .tup [.int (j : Nat), .ref g]) nT2
          have s3 := s2.trans sT
          refine ⟨T2, _, rfl, .inl (.inl upd_same), rfl, _, _, rfl, _, _, rfl, ⟨g, _, rfl, .inl (rx s3 _ _ hg), rfl, _, _, rfl, _, _, rfl, rfl, rfl, ?_⟩⟩
          have tl : (tau (x.1, j)).length = S := tu.len x.1 j hin
          refine ⟨_, rfl, _, rfl, _, rfl, _, rfl, l2, fun p1 n1 => ?_⟩
          have s4 := s3.trans (same_upd (o := .tup [.int (x.1 : Nat), .int (j : Nat)]) n1)
          obtain ⟨l, dg, hl⟩ := ta.look s4 (x := (x.1, j)) hin upd_same
          refine ⟨d, .ref l, rfl, dg, _, rfl, l, _, _, _, rfl, rfl, .inl (.inl hl), atI_vn (by omega), l2, fun p2 n2 => ?_⟩
          have q2 := same_upd (o := .tup [.int (z.1 : Nat), .int (at0 (tau (x.1, j)) x.2 : Nat)]) n2
          have s5 := s4.trans q2
          have q5 := (sT.trans (same_upd (o := .tup [.int (x.1 : Nat), .int (j : Nat)]) n1)).trans q2
          have hth5 := q5 _ _ hth
          have hks5 := hks.tups (tups_same q5)
          have ky := kPeg_of n2 hny
          refine ⟨_, rfl, _, _, ky.dp, .lst (.inl (.inl hth5)) hks5.dp, key_shaped ky.pure_ (kPeg_depth _), keys_shaped hks5.pure_ (pegs_depth L), _, rfl, ?_⟩
          rw [peg_any]
          refine ite2 (fun c1 => ?_) (fun c1 => ?_)
          · have hn : nx B tau x j ∉ L := by simpa using c1
            refine ⟨_, rfl, .inl ⟨rfl, _, .inl (.inl hth5)⟩, _, rfl, _, rfl, _, rfl, _, rfl, l2, fun p3 n3 => ?_⟩
            have q3 := same_upd (o := .tup [.int (x.1 : Nat), .int (j : Nat)]) n3
            have s6 := s5.trans q3
            obtain ⟨l', dg', hl'⟩ := ta.look s6 (x := (x.1, j)) hin upd_same
            refine ⟨d, .ref l', rfl, dg', _, rfl, l', _, _, _, rfl, rfl, .inl (.inl hl'), atI_vn (by omega), l2, fun p4 n4 => ?_⟩
            have q4 := same_upd (o := .tup [.int (z.1 : Nat), .int (at0 (tau (x.1, j)) x.2 : Nat)]) n4
            have hth6 := (q3.trans q4) _ _ hth5
            refine ⟨th, vs, _, rfl, rfl, hth6, by rw [sizeLine_eq]; omega, ?_⟩
            have tl6 := tups_lst (o := .lst (vs ++ [.ref p4])) hth6
            have ky4 := kPeg_of n4 hny
            refine ⟨L ++ [nx B tau x j], vs ++ [.ref p4], _, _, _, _, _, _, _, _, rfl, same_over nth1 (s6.trans q4), upd_same, ?_, tt.push vb tu hx hin hn (by omega), by simp; omega, by rw [List.getElem?_append_left hkL]; exact hx, fun p hp => ?_⟩
            · rw [List.map_append]
              exact ((hks5.tups (tups_same (q3.trans q4))).tups tl6).app (.cons (ky4.tups tl6) .nil)
            · rcases Nat.lt_or_ge p j with h | h
              · exact List.mem_append_left _ (hall p h)
              · have e : p = j := by omega
                rw [e]; simp
          · have hn : nx B tau x j ∈ L := by simpa using c1
            refine ⟨L, vs, _, _, _, _, _, _, _, _, rfl, s5, hth5, hks5, tt, hkL, hx, fun p hp => ?_⟩
            rcases Nat.lt_or_ge p j with h | h
            · exact hall p h
            · have e : p = j := by omega
              rw [e]; exact hn
        · obtain ⟨L, vs, z8, z9, z10, z11, z12, z13, z14, z15, rfl, s2, hth, hks, tt, hkL, hx, hall⟩ := h
          refine ⟨_, rfl, _, _, rfl, rfl, L, vs, _, _, _, _, _, _, _, _, _, _, rfl, s2, hth, hks, tt.next hx fun p hp => hall p (by omega), hkL⟩
    · have hkL : kk = L.length := by
        have : ¬ ((kk : Int) < (vs.length : Nat)) := fun z => c1 (decide_eq_true z)
        omega
      subst hkL
      have cv := cov_valid vb tu tt
      have hLS := tt.len
      have fc : Fit (cov B tau L) := ⟨cv.pos, by rw [cov_len]; omega, fun i => cov_plen_le ft.plen i, cv.back.inR⟩
      have s9 : Same H1 H' := s2
      generalize H' = H2 at hth hks s9 s2
      refine ⟨Nat.zero_le _, fun fo nfo => ?_⟩
      have sf := same_upd (o := .lst []) nfo
      refine ⟨_, rfl, th, rfl, ⟨_, .inl (.inl (sf _ _ hth))⟩, for_it (walk_list (K := K) (a := th) (xs := vs)) (fun i σ H' => ∃ z6 z7 z8 z9 z10 z12 z13 z14 z15 acc, σ = [some (.ref b), some (.ref a), some (.int (S : Nat)), some (.ref d), some (.ref th), some (.int (L.length : Nat)), z6, z7, z8, z9, z10, some (.ref fo), z12, z13, z14, z15] ∧ Same H2 H' ∧ H' fo = some (.lst acc) ∧ KDs H' (((cov B tau L).map kHand).take i) acc)
        ⟨_, _, _, _, _, _, _, _, _, [], rfl, sf, upd_same, .nil⟩ (fun i σ H' _ h => ?_) (fun i v σ H3 H4 hi h hy => ?_) (fun σ H' h => ?_)⟩
      · obtain ⟨_, _, _, _, _, _, _, _, _, _, _, s3, _⟩ := h
        exact .inl (.inl (s3 _ _ hth))
      · obtain ⟨rfl, hv⟩ := hy
        obtain ⟨z6, z7, z8, z9, z10, z12, z13, z14, z15, acc, rfl, s3, hfo, hacc⟩ := h
        obtain ⟨x, hx, hkx⟩ := (hks.tups (tups_same s3)).pegs hv
        obtain ⟨g, rfl, hg⟩ := hkx.pairAt
        have hiL : i < L.length := by omega
        have ex : L.getD i (0, 0) = x := by rw [List.getD_eq_getElem?_getD, hx]; rfl
        refine ⟨g, _, rfl, .inl hg, rfl, _, _, rfl, _, _, rfl, rfl, ?_⟩
        obtain ⟨hxB, hxS⟩ := tt.rng x (List.mem_of_getElem? hx)
        obtain ⟨hv, ehv, khv⟩ := hxs.web' hxB
        obtain ⟨c, e, ys, rfl, hc, he, hys, hyl⟩ := khv.handAt
        have hpl := ft.plen x.1
        have s4 : Same H1 H4 := s9.trans s3
        have ecp : pegs (cov B tau L) i = (List.range (pegs B x.1).length).map fun p => (L.idxOf (nx B tau x p), (peg B (x.1, p)).2) := by
          unfold cov
          rw [webOf_pegs hiL, ex]
        have ecm : mk (cov B tau L) i = mk B x.1 := by
          unfold cov
          rw [webOf_mk hiL, ex]
        refine ⟨_, rfl, _, rfl, a, xs, _, _, rfl, rfl, .inl (rx s4 _ _ ha), atI_nat ehv, c, _, _, .ref e, rfl, rfl, .inl (rx s4 _ _ hc), atI_nat (j := 1) rfl, e, ys, rfl, .inl (rx s4 _ _ he), fun D hD => comp_keys (walk_enumT (K := K) (a := e) (xs := ys)) ((pegs (cov B tau L) i).map kPeg) (by rw [ecp]; simp [hyl]) (by rw [sizeLine_eq]; omega) hD
          (fun H2 s' => .inl (rx (s4.trans s') _ _ he)) (fun j y H5 H6 kk hj hk s' hy Qk hQ => ?_) (fun H' acc2 s' hD' hacc2 => ?_)⟩
        · obtain ⟨T2, y1, y2, rfl, nT2, rfl, e1, hy2⟩ := hy
          obtain rfl := (Option.some.inj e1).symm
          dsimp only at hy2
          obtain ⟨z, hz, hkz⟩ := hys.pegs hy2
          obtain ⟨g2, rfl, hg2⟩ := hkz.pairAt
          have hjp : j < (pegs B x.1).length := by omega
          have hpz : peg B (x.1, j) = z := by
            unfold peg
            rw [List.getD_eq_getElem?_getD, hz]
            rfl
          have hny : nx B tau x j = (z.1, at0 (tau (x.1, j)) x.2) := by unfold nx; rw [hpz]
          have hm := tt.closed i x hiL hx j hjp
          have ek : ((pegs (cov B tau L) i).map kPeg)[j]? = some (kPeg (L.idxOf (nx B tau x j), z.2)) := by
            rw [ecp, List.getElem?_map, List.getElem?_map, List.getElem?_range hjp, ← hpz]
            rfl
          obtain rfl := Option.some.inj (ek.symm.trans hk)
          have sT := same_upd (o := .tup [.int (j : Nat), .ref g2]) nT2
          have s5 := (s4.trans s').trans sT
          refine ⟨T2, _, rfl, .inl (.inl upd_same), rfl, _, _, rfl, _, _, rfl, ⟨g2, _, rfl, .inl (rx s5 _ _ hg2), rfl, _, _, rfl, _, _, rfl, rfl, rfl, rfl, ?_⟩⟩
          have tl : (tau (x.1, j)).length = S := tu.len x.1 j hjp
          have hth5 := ((s3.trans s').trans sT) _ _ hth
          refine ⟨_, rfl, .inl ⟨rfl, _, .inl (.inl hth5)⟩, _, rfl, _, rfl, _, rfl, _, rfl, l2, fun p1 n1 => ?_⟩
          have q1 := same_upd (o := .tup [.int (x.1 : Nat), .int (j : Nat)]) n1
          have s6 := s5.trans q1
          obtain ⟨l, dg, hl⟩ := ta.look s6 (x := (x.1, j)) hjp upd_same
          refine ⟨d, .ref l, rfl, dg, _, rfl, l, _, _, _, rfl, rfl, .inl (.inl hl), atI_vn (by omega), l2, fun p2 n2 => ?_⟩
          have q2 := same_upd (o := .tup [.int (z.1 : Nat), .int (at0 (tau (x.1, j)) x.2 : Nat)]) n2
          have hth6 := (q1.trans q2) _ _ hth5
          have hks6 := hks.tups (tups_same (((s3.trans s').trans sT).trans (q1.trans q2)))
          obtain ⟨i1, i2, i3, i4, i5, i6, i7⟩ := peg_index (K := K) hth6 hks6 (kPeg_of n2 hny) hm tt.nd
          exact ⟨th, _, _, _, L.idxOf (nx B tau x j), _, rfl, rfl, i1, i2, i3, i4, i5, i6, i7, _, rfl, l2, fun p3 n3 => hQ _ _ ((sT.trans (q1.trans q2)).trans (same_upd n3)) kPeg_new⟩
        · have s5 := s4.trans s'
          have hfo5 := s' _ _ hfo
          refine ⟨_, rfl, .inl ⟨rfl, _, .inl (.inl hfo5)⟩, _, rfl, _, rfl, a, xs, _, _, rfl, rfl, .inl (rx s5 _ _ ha), atI_nat ehv, c, _, _, _, rfl, rfl, .inl (rx s5 _ _ hc), atI_nat (j := 0) rfl, _, rfl, D, acc2, rfl, .inl ⟨.inl (.inl hD'), fun t nt => ⟨l2, fun p np => ?_⟩⟩⟩
          have q1 := same_upd (o := .tup acc2) nt
          have q2 := same_upd (o := .tup [.int (mk B x.1), .ref t]) np
          have hfo6 := (q1.trans q2) _ _ hfo5
          have hal := hacc.length
          rw [List.length_take] at hal
          refine ⟨fo, acc, _, rfl, rfl, hfo6, by rw [sizeLine_eq]; omega, ?_⟩
          have tl6 := tups_lst (o := .lst (acc ++ [.ref p])) hfo6
          refine ⟨_, _, _, _, _, _, _, _, _, _, rfl, same_over nfo ((s3.trans s').trans (q1.trans q2)), upd_same, ?_⟩
          have ek : ((cov B tau L).map kHand)[i]? = some (kHand (mk B x.1, pegs (cov B tau L) i)) := by
            rw [List.getElem?_map, web_at (by rw [cov_len]; exact hiL), ecm]
            rfl
          rw [List.take_succ, ek]
          exact ((hacc.tups (tups_same (s'.trans (q1.trans q2)))).tups tl6).snoc ((KD.tup (.inl upd_same) (.cons (.num _) (.cons (.tup (.inl (q2 _ _ upd_same)) (hacc2.tups (tups_same (q1.trans q2)))) .nil))).tups tl6)
      · obtain ⟨z6, z7, z8, z9, z10, z12, z13, z14, z15, acc, rfl, s3, hfo, hacc⟩ := h
        rw [hvl, show L.length = ((cov B tau L).map kHand).length by rw [List.length_map, cov_len], List.take_length] at hacc
        have hth3 := s3 _ _ hth
        have bx3 : Bx b H H' := x1.same (s9.trans s3)
        refine ⟨_, rfl, _, rfl, th, vs, rfl, .inl (.inl (.inl hth3)), b, vs.length, rfl, bx3.box, by omega, fun H4 rl r x4 hrl hr nrl => ?_⟩
        have thb : th ≠ b := x1.box.ne nth1
        have fob : fo ≠ b := x1.box.ne (s9.free nfo)
        have hth4 := x4.keep _ _ thb hth3
        have hfo4 := x4.keep _ _ fob hfo
        have rll : r.length = vs.length := hr.len
        refine ⟨by show 1 ≤ sizeLine; decide, fun o no => ?_⟩
        have qo := same_upd (o := .lst [V.int 0]) no
        refine ⟨_, rfl, th, vs, rfl, .inl (.inl (.inl (qo _ _ hth4))), o, _, _, rfl, rfl, upd_same, by omega, by omega, by rw [sizeLine_eq, List.length_singleton]; omega, fun ld nld => ?_⟩
        rw [rep_one, show ((vs.length : Nat) : Int).toNat = vs.length by omega]
        have ql := same_upd (o := .lst (List.replicate vs.length (V.int 0))) nld
        refine ⟨_, rfl, th, vs, rfl, .inl (.inl ((qo.trans ql) _ _ hth4)), for_it (walk_enum (K := K) (a := th) (xs := vs)) (fun i σ H' => ∃ z6 z7 z15 ws, σ = [some (.ref b), some (.ref a), some (.int (S : Nat)), some (.ref d), some (.ref th), some (.int (L.length : Nat)), z6, z7, z8, z9, z10, some (.ref fo), z12, some (.ref rl), some (.ref ld), z15] ∧ Same H4 H' ∧ H' ld = some (.lst ws) ∧ ws.length = vs.length)
          ⟨_, _, _, _, rfl, qo.trans ql, upd_same, List.length_replicate⟩ (fun i σ H' _ h => ?_) (fun i y σ H5 H6 hi h hy => ?_) (fun σ H6 h => ?_)⟩
        · obtain ⟨_, _, _, _, _, s5, _⟩ := h
          exact .inl (.inl (s5 _ _ hth4))
        · obtain ⟨z6, z7, z15, ws, rfl, s5, hws, hwl⟩ := h
          obtain ⟨T2, y1, y2, rfl, nT2, rfl, e1, hy2⟩ := hy
          obtain rfl := (Option.some.inj e1).symm
          dsimp only at hy2
          obtain ⟨x, hx, hkx⟩ := hks.pegs hy2
          obtain ⟨g, rfl, hg⟩ := hkx.pairAt
          have sT := same_upd (o := .tup [.int (i : Nat), .ref g]) nT2
          have g6 := tups_same (s5.trans sT) _ _ (x4.tups bx3.box _ _ (tups_same s3 _ _ hg))
          refine ⟨T2, _, rfl, .inl (.inl upd_same), rfl, _, _, rfl, _, _, rfl, ⟨g, _, rfl, .inl g6, rfl, _, _, rfl, _, _, rfl, rfl, rfl, ?_⟩⟩
          have hil : i < r.length := by omega
          refine ⟨_, rfl, _, rfl, _, rfl, _, rfl, rl, _, _, _, rfl, rfl, .inl (.inl ((s5.trans sT) _ _ hrl)), atI_vn hil, ld, ws, _, at0 r i, rfl, rfl, sT _ _ hws, ixN_nat (by rw [hwl]; exact hr.at_lt hi), ?_⟩
          exact ⟨_, _, _, _, rfl, same_over (qo.free nld) (s5.trans sT), upd_same, by rw [List.length_set]; exact hwl⟩
        · obtain ⟨z6, z7, z15, ws, rfl, s5, hws, hwl⟩ := h
          refine ⟨_, rfl, fo, acc, rfl, .inl ⟨.inl (.inl (s5 _ _ hfo4)), fun t nt => ?_⟩⟩
          have qt := same_upd (o := .tup acc) nt
          have hacc4 := (hacc.tups (x4.tups bx3.box)).tups (tups_same (s5.trans qt))
          have hcl : vs.length = (cov B tau L).length := by rw [cov_len]; exact hvl
          rw [hcl] at hr
          refine ⟨_, rfl, cov B tau L, r, _, rl, rfl, .tup (.inl upd_same) hacc4, (s5.trans qt) _ _ hrl, hr, fc, fun H7 z s7 hz => ?_⟩
          refine ⟨_, rfl, ld, ws, rfl, .inl ⟨.inl (.inl ((qt.trans s7) _ _ hws)), fun t2 nt2 => ⟨l2, fun p np => ?_⟩⟩⟩
          have q8 := (same_upd (o := .tup ws) nt2).trans (same_upd (o := .tup [z, .ref t2]) np)
          exact qq _ p z _ (ren (cov B tau L) r) ((bx3.trans x4).same ((s5.trans qt).trans (s7.trans q8))) upd_same (hz.tups (tups_same q8)) (ren_valid cv hr) (fc.ren hr) (by rw [ren_len, cov_len]; exact hLS)
end
end Nl
end

section
set_option Elab.async false
set_option linter.all false
set_option maxRecDepth 100000
namespace Nl
open PySem PySem.Spec PyProof.Rows L2
section
variable {P : Program} {w : World} {K : PySem.W.Frag} {mg : Str → Option Value} {base : Heap}
/-! ### _law_singles, _law_done_all -/
abbrev sLSing : Stmt := topS 34
abbrev nLSing : List Str := ["_law_web_here", "_law_found", "_law_h", "_law_mark", "_law_pegs", "_law_p", "_law_q"]
theorem scLSing : FnScope nLSing ["_law_web_here"] (defScope sLSing) := ⟨rfl, rfl, rfl, by decide +kernel, rfl, by decide +kernel, by decide +kernel⟩
theorem ok_lsing {f : Addr} {fd : FuncData} {k : Nat} (F : Fun K "_law_singles" "_law_singles" sLSing f fd) (me : mg "enumerate" = none) (mr : mg "range" = none) (ml : mg "len" = none) : FnOk P w K mg base CX0 (k + 1) f fd ["_law_web_here"] spSingles := by
  refine F.ok scLSing (fun vs H Q E h => ?_) (fun cdv A outer s H vs Q E hr h => ?_)
  · obtain ⟨W, u, rfl, _⟩ := h
    rfl
  · obtain ⟨W, u, rfl, hu, ft, qq⟩ := h
    refine ⟨_, pss_cons (ps_set (i := 1) scLSing.nd rfl (.inl rfl) (pe_lst pa_nil))
      (pss_cons (ps_for PassesOwn.never rfl (pi_enumT (by rfl) me (pa_cons (pv 0) pa_nil)) (pg_tup rfl (pgs_cons (pg_name (i := 2) scLSing.nd rfl (.inr rfl)) (pgs_cons (pg_tup rfl (pgs_cons (pg_name (i := 3) scLSing.nd rfl (.inl rfl)) (pgs_cons (pg_name (i := 4) scLSing.nd rfl (.inl rfl)) pgs_nil))) pgs_nil)))
        (pss_one (ps_for PassesOwn.never rfl (pi_range1 (by rfl) mr (pa_cons (pe_callB (call_lenK K) (by rfl) ml PySem.boot_len (pa_cons (pv 4) pa_nil)) pa_nil)) (pg_name (i := 5) scLSing.nd rfl (.inr rfl))
          (pss_one (ps_expr (pe_bm PySem.F.plainAttrs_list PySem.F.slot_list_extend PySem.F.type_list_extend mt_extend (pv 1) (pa_cons
            (pe_lc (own := [("_law_q", 6)]) (g := gName 6) (tt := tYes) (te := tTup (tCons (tVar 2) (tCons (tVar 5) (tCons (tVar 6) tNil)))) rfl scLSing.nd (pi_range2 (by rfl) mr (pa_cons (pe_op op_add (pv 5) pe_int) (pa_cons (pe_callB (call_lenK K) (by rfl) ml PySem.boot_len (pa_cons (pv 4) pa_nil)) pa_nil)))
              (blkOk_by (own := [("_law_q", 6)]) (N := nLSing) (sc := defScope sLSing) (by decide +kernel))
              (fun _ _ _ _ _ => pg_name (i := 6) scLSing.nd rfl (.inl rfl)) (fun _ _ _ _ _ => pts_nil)
              (fun _ _ _ _ _ => pe_tup (pa_cons (pv 2) (pa_cons (pv 5) (pa_cons (pv 6) pa_nil))))) pa_nil)))))))
      (pss_one (ps_ret (pv 1)))), ?_⟩
    obtain ⟨a, xs, rfl, ha, hxs, hlen⟩ := hu.webAt
    have hfew := ft.few
    refine ⟨Nat.zero_le _, fun o no => ?_⟩
    have s1 : Same H (upd H o (.lst [])) := same_upd no
    refine ⟨_, rfl, a, xs, rfl, .inl (rd_same s1 ha), for_it (walk_enumT (K := K) (a := a) (xs := xs)) (fun i σ H' => ∃ z2 z3 z4 z5 z6 acc, σ = [some (.ref a), some (.ref o), z2, z3, z4, z5, z6] ∧ Same H H' ∧ H' o = some (.lst acc) ∧ KDs H' (((List.range i).flatMap fun h => atHand W h (pegs W h).length).map kEx) acc)
      ⟨none, none, none, none, none, [], rfl, s1, upd_same, .nil⟩ (fun i σ H' hi hh => ?_) (fun i x σ H1 H2 hi hh hy => ?_) (fun σ H' hh => ?_)⟩
    · obtain ⟨_, _, _, _, _, _, _, s2, _⟩ := hh
      exact .inl (rd_same s2 ha)
    · obtain ⟨z2, z3, z4, z5, z6, acc, rfl, s2, ho, hacc⟩ := hh
      obtain ⟨T, x1, x2, rfl, nT, rfl, e1, hx2⟩ := hy
      obtain rfl := (Option.some.inj e1).symm
      dsimp only at hx2
      have hiW : i < W.length := by omega
      obtain ⟨_, hkx⟩ := hxs.web hx2
      obtain ⟨c, e, ys, rfl, hc, he, hys, hyl⟩ := hkx.handAt
      have sT := same_upd (o := .tup [.int (i : Nat), .ref c]) nT
      have s3 := s2.trans sT
      have hpl := ft.plen i
      refine ⟨T, _, rfl, .inl (.inl upd_same), rfl, _, _, rfl, _, _, rfl, ⟨c, _, rfl, .inl (rd_same s3 hc), rfl, _, _, rfl, _, _, rfl, rfl, rfl, ?_⟩⟩
      refine ⟨_, rfl, e, ys, rfl, .inr (.inl (rd_same s3 he)), (ys.length : Nat), rfl, by omega, by omega, ?_⟩
      refine for_range (lo := 0) (n := ((ys.length : Nat) : Int).toNat) (fun j σ H' => ∃ z5 z6 acc, σ = [some (.ref a), some (.ref o), some (.int (i : Nat)), some (.int (mk W i)), some (.ref e), z5, z6] ∧ Same H H' ∧ H' o = some (.lst acc) ∧ KDs H' ((((List.range i).flatMap fun h => atHand W h (pegs W h).length) ++ atHand W i j).map kEx) acc)
        ⟨_, _, acc, rfl, s3, sT _ _ ho, by simpa [atHand] using hacc.tups (tups_same sT)⟩ (fun j σ H' hj hh => ?_) (fun σ H' hh => ?_)
      · obtain ⟨z5, z6, acc2, rfl, s6, ho2, hacc2⟩ := hh
        have hj' : j < (pegs W i).length := by omega
        refine ⟨_, rfl, .inl ⟨rfl, _, .inl (.inl ho2)⟩, _, rfl, _, _, rfl, rfl, _, rfl, e, ys, rfl, .inr (.inl (rd_same s6 he)), _, _, rfl, ⟨by omega, by omega, by omega, by omega⟩, fun D hD => comp_keys (walk_range (lo := 0 + (j : Int) + 1) (n := ((ys.length : Nat) - (0 + (j : Int) + 1) : Int).toNat)) ((atPeg W i j).map kEx) (by simp [atPeg]; omega) (by rw [sizeLine_eq]; omega) hD
          (fun H2 s' => trivial) (fun i2 x H2 H3 kk hi2 hk s4 hy Qk hQ => ?_) (fun H2 acc3 s' hD' hacc3 => ?_)⟩
        · obtain ⟨rfl, rfl⟩ := hy
          have ek : ((atPeg W i j).map kEx)[i2]? = some (kEx (i, j, j + 1 + i2)) := by
            unfold atPeg
            rw [List.getElem?_map, List.getElem?_map, List.getElem?_range' (by omega)]
            simp
          rw [ek] at hk
          obtain rfl := Option.some.inj hk
          refine ⟨rfl, _, rfl, _, rfl, _, rfl, by show 3 ≤ sizeLine; decide, fun p np => hQ _ _ (same_upd np) ?_⟩
          dsimp only
          rw [show (0 + (j : Int) + 1 + (i2 : Int)) = ((j + 1 + i2 : Nat) : Int) by omega, show (0 + (j : Int)) = ((j : Nat) : Int) by omega]
          exact kEx_new
        · have hl2 := hacc2.length
          have hl3 := hacc3.length
          rw [List.length_map] at hl2 hl3
          have b1 := hands_len ft i (by omega)
          have b2 := atHand_len ft i j (by omega)
          have b3 := atPeg_len ft i j
          rw [List.length_append] at hl2
          refine ⟨o, D, acc2, acc3, rfl, rfl, s' _ _ ho2, hD', by rw [sizeLine_eq]; omega, ?_⟩
          have tl : Tups H2 (upd H2 o (.lst (acc2 ++ acc3))) := tups_lst (s' _ _ ho2)
          refine ⟨_, _, _, rfl, same_over no (s6.trans s'), upd_same, ?_⟩
          have el : atHand W i (j + 1) = atHand W i j ++ atPeg W i j := by
            unfold atHand
            rw [List.range_succ, List.flatMap_append]
            simp
          rw [el, ← List.append_assoc, List.map_append]
          exact ((hacc2.tups (tups_same s')).tups tl).app (hacc3.tups tl)
      · obtain ⟨z5, z6, acc2, rfl, s6, ho2, hacc2⟩ := hh
        refine ⟨_, _, _, _, _, acc2, rfl, s6, ho2, ?_⟩
        have en : ((ys.length : Nat) : Int).toNat = (pegs W i).length := by omega
        rw [en] at hacc2
        rw [List.range_succ, List.flatMap_append]
        simpa using hacc2
    · obtain ⟨z2, z3, z4, z5, z6, acc, rfl, s2, ho, hacc⟩ := hh
      rw [hlen] at hacc
      exact ⟨_, rfl, qq _ _ _ s2 ho hacc⟩
abbrev sLDone : Stmt := topS 35
abbrev nLDone : List Str := ["_law_web_here", "_law_row", "_law_hand", "_law_p", "_law_q"]
theorem scLDone : FnScope nLDone ["_law_web_here", "_law_row"] (defScope sLDone) := ⟨rfl, rfl, rfl, by decide +kernel, rfl, by decide +kernel, by decide +kernel⟩
theorem ok_ldone {f fX : Addr} {fd fdX : FuncData} {k : Nat} (F : Fun K "_law_done_all" "_law_done_all" sLDone f fd) (FX : Fun K "exchanged" "exchanged" sExch fX fdX) (bX : Binds K fdX ["web", "hand", "p", "q"] []) (gX : mg "exchanged" = some (.ref fX)) (GX : FnOk P w K mg base CX0 k fX fdX ["web", "hand", "p", "q"] spExch) :
    FnOk P w K mg base CX0 (k + 1) f fd ["_law_web_here", "_law_row"] spExAll := by
  refine F.ok scLDone (fun vs H Q E h => ?_) (fun cdv A outer s H vs Q E hr h => ?_)
  · obtain ⟨W, row, u, v, rfl, _⟩ := h
    rfl
  · obtain ⟨W, row, u, v, rfl, hu, hv, ft, hrow, qq⟩ := h
    refine ⟨_, pss_cons (ps_for PassesOwn.never rfl (pi_tup (pv 1)) (pg_tup rfl (pgs_cons (pg_name (i := 2) scLDone.nd rfl (.inl rfl)) (pgs_cons (pg_name (i := 3) scLDone.nd rfl (.inl rfl)) (pgs_cons (pg_name (i := 4) scLDone.nd rfl (.inl rfl)) pgs_nil))))
        (pss_one (ps_set (i := 0) scLDone.nd rfl (.inl rfl) (pe_call GX hr (by rfl) gX FX.kp bX .nil pass0 (pa_cons (pv 0) (pa_cons (pv 2) (pa_cons (pv 3) (pa_cons (pv 4) pa_nil))))))))
      (pss_one (ps_ret (pv 0))), ?_⟩
    obtain ⟨b, xs, rfl, hb, hxs⟩ := hv.ref
    have hl := hxs.length
    rw [List.length_map] at hl
    refine ⟨_, rfl, b, rfl, ⟨xs, .inl hb⟩, for_it (walk_tup (K := K) (a := b) (xs := xs)) (fun i σ H' => ∃ z z2 z3 z4, σ = [some z, some (.ref b), z2, z3, z4] ∧ Same H H' ∧ KD H' (kWeb (exAll W (row.take i))) z)
      ⟨u, none, none, none, rfl, Same.refl _, hu⟩ (fun i σ H' hi hh => ?_) (fun i x σ H1 H2 hi hh hy => ?_) (fun σ H' hh => ?_)⟩
    · obtain ⟨_, _, _, _, _, s2, _⟩ := hh
      exact .inl (rd_same s2 hb)
    · obtain ⟨z, z2, z3, z4, rfl, s2, hz⟩ := hh
      obtain ⟨rfl, hx⟩ := hy
      obtain ⟨ke, hke, hkx⟩ := (hxs.tups (tups_same s2)).get' hx
      rw [List.getElem?_map, Option.map_eq_some_iff] at hke
      obtain ⟨e, he, rfl⟩ := hke
      obtain ⟨c, rfl, hc⟩ := hkx.exAt
      have hie := hrow e (List.mem_of_getElem? he)
      have hpre : ∀ e ∈ row.take i, IsEx W e := fun e h => hrow e (List.mem_of_mem_take h)
      have hie2 : IsEx (exAll W (row.take i)) e := isEx_exAll.mpr hie
      refine ⟨c, _, rfl, .inl hc, rfl, _, _, rfl, _, _, rfl, _, _, rfl, rfl, _, rfl, _, rfl, _, rfl, _, rfl, exAll W (row.take i), e.1, e.2.1, e.2.2, z, rfl, hz, ft.exAll hpre, Nat.lt_trans hie2.1 hie2.2, hie2.2, fun H3 z' s3 hz' => ?_⟩
      refine ⟨z', _, _, _, rfl, s2.trans s3, ?_⟩
      rw [List.take_succ, he]
      show KD H3 (kWeb (exAll W (row.take i ++ [e]))) z'
      rw [exAll_snoc]
      exact hz'
    · obtain ⟨z, z2, z3, z4, rfl, s2, hz⟩ := hh
      rw [hl, List.take_length] at hz
      exact ⟨_, rfl, qq _ _ s2 hz⟩
/-! ### _law_count -/
abbrev sCnt : Stmt := topS 36
abbrev nCnt : List Str := ["_law_found"]
theorem scCnt : FnScope nCnt ["_law_found"] (defScope sCnt) := ⟨rfl, rfl, rfl, by decide +kernel, rfl, by decide +kernel, by decide +kernel⟩
def spCnt : Sp := fun vs H Q _ => ∃ (r : Option (List Ex)) (u : V), vs = [u] ∧ KD H (kOpt r) u ∧ Q (.int (cnt r : Nat)) H
theorem ok_cnt {f : Addr} {fd : FuncData} {k : Nat} (F : Fun K "_law_count" "_law_count" sCnt f fd) (ml : mg "len" = none) : FnOk P w K mg base CX0 (k + 1) f fd ["_law_found"] spCnt := by
  refine F.ok scCnt (fun vs H Q E h => ?_) (fun cdv A outer s H vs Q E hr h => ?_)
  · obtain ⟨r, u, rfl, _⟩ := h
    rfl
  · obtain ⟨r, u, rfl, hu, qq⟩ := h
    refine ⟨_, pss_cons (ps_if (pt_cmp (pc_isN (pv 0)) (by rfl)) (pss_one (ps_ret pe_int)) pss_nil)
      (pss_one (ps_ret (pe_callB (call_lenK K) (by rfl) ml PySem.boot_len (pa_cons (pv 0) pa_nil)))), ?_⟩
    cases r with
    | none =>
      cases hu
      exact ⟨_, rfl, _, rfl, decY rfl qq⟩
    | some l =>
      obtain ⟨a, xs, rfl, ha, hxs⟩ := hu.ref
      have hl := hxs.length
      rw [List.length_map] at hl
      refine ⟨_, rfl, _, rfl, decN (fun e => nomatch e) ⟨_, rfl, a, xs, rfl, .inr (.inl ha), ?_⟩⟩
      rw [hl]
      exact qq
end
end Nl
end

section
set_option Elab.async false
set_option linter.all false
set_option maxRecDepth 100000
namespace Nl
open PySem PySem.Spec PyProof.Rows L2
theorem plain_fit {W : Web} {m : Nat} (V : Valid W) (h : W.length ≤ m) (hm : m ≤ 9) (hp : ∀ h, (pegs W h).length ≤ 3) : Fit W := ⟨V.pos, Nat.le_trans h hm, fun j => Nat.le_trans (hp j) (by omega), V.back.inR⟩
section
variable {P : Program} {w : World} {K : PySem.W.Frag} {mg : Str → Option Value} {base : Heap}
/-! ### _law_web -/
abbrev sWeb : Stmt := topS 32
abbrev nWeb : List Str := ["_law_box_here", "_law_most", "_law_room", "_law_sheets", "_law_lesser"]
theorem scWeb : FnScope nWeb ["_law_box_here", "_law_most", "_law_room"] (defScope sWeb) := ⟨rfl, rfl, rfl, by decide +kernel, rfl, by decide +kernel, by decide +kernel⟩
def spWeb : Sp := fun vs H Q _ => ∃ (b : Addr) (m : Nat), vs = [.ref b, .int (m : Nat), .int 3] ∧ BoxAt H b ∧ 0 < m ∧ m ≤ 9 ∧ ∀ H' W z, Bx b H H' → KD H' (kWeb W) z → Valid W → Fit W → Q z H'
theorem ok_web {f fT fP fC : Addr} {fd fdT fdP fdC : FuncData} {k : Nat} (F : Fun K "_law_web" "_law_web" sWeb f fd)
    (FT : Fun K "_law_take" "_law_take" sTake fT fdT) (bT : Binds K fdT ["_law_box_here", "_law_wide"] []) (gT : mg "_law_take" = some (.ref fT)) (GT : FnOk P w K mg base CX0 k fT fdT ["_law_box_here", "_law_wide"] spTake)
    (FP : Fun K "_law_plain_web" "_law_plain_web" sPlain fP fdP) (bP : Binds K fdP ["_law_box_here", "_law_most", "_law_room"] []) (gP : mg "_law_plain_web" = some (.ref fP)) (GP : FnOk P w K mg base CX0 k fP fdP ["_law_box_here", "_law_most", "_law_room"] spPlain)
    (FC : Fun K "_law_cover" "_law_cover" sCov fC fdC) (bC : Binds K fdC ["_law_box_here", "_law_web_here", "_law_sheets"] []) (gC : mg "_law_cover" = some (.ref fC)) (GC : FnOk P w K mg base CX0 k fC fdC ["_law_box_here", "_law_web_here", "_law_sheets"] spCov)
    (mn : mg "min" = none) (mx : mg "max" = none) :
    FnOk P w K mg base CX0 (k + 1) f fd ["_law_box_here", "_law_most", "_law_room"] spWeb := by
  refine F.ok scWeb (fun vs H Q E h => ?_) (fun cdv A outer s H vs Q E hr h => ?_)
  · obtain ⟨b, m, rfl, _⟩ := h
    rfl
  · obtain ⟨b, m, rfl, hb, hm0, hm, qq⟩ := h
    refine ⟨_, pss_cons (ps_if (PW.pt (pw_or (pt_cmpR op_eq (pe_call GT hr (by rfl) gT FT.kp bT .nil pass0 (pa_cons (pv 0) (pa_cons pe_int pa_nil))) pe_int (nomark _)) (pw_or1 (pt_cmpR op_lt (pv 1) pe_int (nomark _)))))
        (pss_one (ps_ret (pe_call GP hr (by rfl) gP FP.kp bP .nil pass0 (pa_cons (pv 0) (pa_cons (pv 1) (pa_cons (pv 2) pa_nil)))))) pss_nil)
      (pss_cons (ps_set (i := 3) scWeb.nd rfl (.inl rfl) (pe_op op_add pe_int (pe_call GT hr (by rfl) gT FT.kp bT .nil pass0 (pa_cons (pv 0) (pa_cons (pe_callB (call_min2 rfl) (by rfl) mn (by decide +kernel) (pa_cons pe_int (pa_cons (pe_op op_sub (pv 1) pe_int) pa_nil))) pa_nil)))))
      (pss_cons (ps_set (i := 4) scWeb.nd rfl (.inl rfl) (pe_call GP hr (by rfl) gP FP.kp bP .nil pass0 (pa_cons (pv 0) (pa_cons (pe_callB (call_max2 rfl) (by rfl) mx (by decide +kernel) (pa_cons pe_int (pa_cons (pe_op op_fdiv (pv 1) (pv 3)) pa_nil))) (pa_cons (pv 2) pa_nil)))))
      (pss_one (ps_ret (pe_ix ix_tup (pe_call GC hr (by rfl) gC FC.kp bC .nil pass0 (pa_cons (pv 0) (pa_cons (pv 4) (pa_cons (pv 3) pa_nil)))) pe_int (fun _ _ => rfl)))))), ?_⟩
    refine ⟨_, rfl, b, 2, rfl, hb, by decide, by decide, fun H1 d1 x1 h1 => ⟨rfl, _, rfl, ite2 (fun c1 => ?_) (fun c1 => ?_)⟩⟩
    · refine yesB ⟨_, rfl, _, rfl, _, rfl, b, m, rfl, x1.box, hm0, hm, fun H' W z x2 hz V hl hp => qq _ W z (x1.trans x2) hz V (plain_fit V hl hm hp)⟩
    · refine ⟨_, rfl, _, _, rfl, rfl, _, rfl, ite2 (fun c2 => ?_) (fun c2 => ?_)⟩
      · refine ⟨_, rfl, _, rfl, _, rfl, b, m, rfl, x1.box, hm0, hm, fun H' W z x2 hz V hl hp => qq _ W z (x1.trans x2) hz V (plain_fit V hl hm hp)⟩
      · have hm2 : 2 ≤ m := by
          have : ¬ (((m : Nat) : Int) < 2) := fun z => c2 (decide_eq_true z)
          omega
        refine ⟨_, rfl, _, rfl, _, _, rfl, rfl, 3, ((m : Nat) : Int) - 1, rfl, b, min 3 (m - 1), ?_, x1.box, by omega, by omega, fun H2 d2 x2 h2 => ?_⟩
        · have e : (if ((m : Nat) : Int) - 1 < 3 then ((m : Nat) : Int) - 1 else 3) = ((min 3 (m - 1) : Nat) : Int) := by
            split <;> omega
          rw [e]; rfl
        · refine ⟨_, _, rfl, rfl, ?_⟩
          dsimp only
          rw [show (2 : Int) + ((d2 : Nat) : Int) = ((2 + d2 : Nat) : Int) by omega]
          generalize hS : 2 + d2 = S
          have hSm : S ≤ m := by omega
          have e1 : 1 ≤ m / S := (Nat.le_div_iff_mul_le (by omega)).mpr (by omega)
          have e2 : m / S * S ≤ m := Nat.div_mul_le_self m S
          have e3 : m / S ≤ m := Nat.div_le_self m S
          refine ⟨_, rfl, _, rfl, _, rfl, _, _, rfl, rfl, ⟨by omega, by omega⟩, 1, _, rfl, _, rfl, b, m / S, ?_, (x1.trans x2).box, e1, by omega, fun H3 W z x3 hz V hl hp => ?_⟩
          · have e : (if ((m : Nat) : Int) / ((S : Nat) : Int) > 1 then ((m : Nat) : Int) / ((S : Nat) : Int) else 1) = ((m / S : Nat) : Int) := by
              rw [show ((m : Nat) : Int) / ((S : Nat) : Int) = ((m / S : Nat) : Int) by push_cast; rfl]
              split <;> omega
            rw [e]; rfl
          · have fw := plain_fit V hl (by omega) hp
            have hWS : W.length * S ≤ 9 := by
              have := Nat.mul_le_mul_right S hl
              omega
            refine ⟨_, rfl, _, rfl, _, rfl, b, S, W, z, rfl, ((x1.trans x2).trans x3).box, hz, fw, V, by omega, by omega, hWS, fun H4 t z' y W' x4 ht hz' V' fw' hl' => ?_⟩
            exact ⟨t, _, _, _, rfl, rfl, .inl (.inl ht), atI_nat (j := 0) rfl, qq _ W' z' (((x1.trans x2).trans x3).trans x4) hz' V' fw'⟩
/-! ### _law_small -/
abbrev sSmall : Stmt := topS 33
abbrev nSmall : List Str := ["_law_box_here", "_law_most", "_law_lesser"]
theorem scSmall : FnScope nSmall ["_law_box_here", "_law_most"] (defScope sSmall) := ⟨rfl, rfl, rfl, by decide +kernel, rfl, by decide +kernel, by decide +kernel⟩
def spSmall : Sp := fun vs H Q _ => ∃ (b : Addr) (m : Nat), vs = [.ref b, .int (m : Nat)] ∧ BoxAt H b ∧ 3 ≤ m ∧ m ≤ 5 ∧ ∀ H' W z, Bx b H H' → KD H' (kWeb W) z → Valid W → Fit W → Q z H'
theorem ok_small {f fT fP fC fW : Addr} {fd fdT fdP fdC fdW : FuncData} {k : Nat} (F : Fun K "_law_small" "_law_small" sSmall f fd)
    (FT : Fun K "_law_take" "_law_take" sTake fT fdT) (bT : Binds K fdT ["_law_box_here", "_law_wide"] []) (gT : mg "_law_take" = some (.ref fT)) (GT : FnOk P w K mg base CX0 k fT fdT ["_law_box_here", "_law_wide"] spTake)
    (FP : Fun K "_law_plain_web" "_law_plain_web" sPlain fP fdP) (bP : Binds K fdP ["_law_box_here", "_law_most", "_law_room"] []) (gP : mg "_law_plain_web" = some (.ref fP)) (GP : FnOk P w K mg base CX0 k fP fdP ["_law_box_here", "_law_most", "_law_room"] spPlain)
    (FC : Fun K "_law_cover" "_law_cover" sCov fC fdC) (bC : Binds K fdC ["_law_box_here", "_law_web_here", "_law_sheets"] []) (gC : mg "_law_cover" = some (.ref fC)) (GC : FnOk P w K mg base CX0 k fC fdC ["_law_box_here", "_law_web_here", "_law_sheets"] spCov)
    (FW : Fun K "_law_web" "_law_web" sWeb fW fdW) (bW : Binds K fdW ["_law_box_here", "_law_most", "_law_room"] []) (gW : mg "_law_web" = some (.ref fW)) (GW : FnOk P w K mg base CX0 k fW fdW ["_law_box_here", "_law_most", "_law_room"] spWeb)
    (ml : mg "len" = none) (mx : mg "max" = none) :
    FnOk P w K mg base CX0 (k + 1) f fd ["_law_box_here", "_law_most"] spSmall := by
  refine F.ok scSmall (fun vs H Q E h => ?_) (fun cdv A outer s H vs Q E hr h => ?_)
  · obtain ⟨b, m, rfl, _⟩ := h
    rfl
  · obtain ⟨b, m, rfl, hb, hm0, hm, qq⟩ := h
    refine ⟨_, pss_cons (ps_if (pt_cmpR op_eq (pe_call GT hr (by rfl) gT FT.kp bT .nil pass0 (pa_cons (pv 0) (pa_cons pe_int pa_nil))) pe_int (nomark _))
        (pss_one (ps_ret (pe_call GW hr (by rfl) gW FW.kp bW .nil pass0 (pa_cons (pv 0) (pa_cons (pv 1) (pa_cons pe_int pa_nil)))))) pss_nil)
      (pss_cons (ps_set (i := 2) scSmall.nd rfl (.inl rfl) (pe_call GP hr (by rfl) gP FP.kp bP .nil pass0 (pa_cons (pv 0) (pa_cons pe_int (pa_cons pe_int pa_nil)))))
      (pss_one (ps_ret (pe_ix ix_tup (pe_call GC hr (by rfl) gC FC.kp bC .nil pass0 (pa_cons (pv 0) (pa_cons (pv 2) (pa_cons (pe_callB (call_max2 rfl) (by rfl) mx (by decide +kernel) (pa_cons pe_int (pa_cons (pe_op op_fdiv (pv 1) (pe_callB (call_lenK K) (by rfl) ml PySem.boot_len (pa_cons (pv 2) pa_nil))) pa_nil))) pa_nil)))) pe_int (fun _ _ => rfl))))), ?_⟩
    refine ⟨_, rfl, b, 4, rfl, hb, by decide, by decide, fun H1 d1 x1 h1 => ⟨rfl, _, rfl, ite2 (fun c1 => ?_) (fun c1 => ?_)⟩⟩
    · exact ⟨_, rfl, _, rfl, b, m, rfl, x1.box, by omega, by omega, fun H' W z x2 hz V fw => qq _ W z (x1.trans x2) hz V fw⟩
    · refine ⟨_, rfl, b, 2, rfl, x1.box, by decide, by decide, fun H2 W z x2 hz V hl hp => ?_⟩
      have fw := plain_fit V hl (by decide) hp
      have hW0 := V.pos
      obtain ⟨a, xs, rfl, ha, hxs, hlen⟩ := id hz.webAt
      have hS : ∃ S, 0 < S ∧ S < 100 ∧ W.length * S ≤ 9 ∧ (if ((m : Nat) : Int) / ((xs.length : Nat) : Int) > 2 then ((m : Nat) : Int) / ((xs.length : Nat) : Int) else 2) = ((S : Nat) : Int) := by
        rw [hlen]
        have : W.length = 1 ∨ W.length = 2 := by omega
        rcases this with e | e <;> rw [e]
        · exact ⟨m, by omega, by omega, by omega, by split <;> omega⟩
        · exact ⟨2, by omega, by omega, by omega, by split <;> omega⟩
      obtain ⟨S, hS0, hS1, hWS, eS⟩ := hS
      refine ⟨_, rfl, _, rfl, _, rfl, _, rfl, a, xs, rfl, .inr (.inl ha), _, _, rfl, rfl, ⟨by omega, by omega⟩, 2, _, rfl, b, S, W, .ref a, ?_, (x1.trans x2).box, hz, fw, V, hS0, hS1, hWS, fun H4 t z' y W' x4 ht hz' V' fw' hl' => ?_⟩
      · rw [eS]; rfl
      · exact ⟨t, _, _, _, rfl, rfl, .inl (.inl ht), atI_nat (j := 0) rfl, qq _ W' z' ((x1.trans x2).trans x4) hz' V' fw'⟩
end
end Nl
end

section
set_option Elab.async false
set_option linter.all false
set_option maxRecDepth 100000
namespace Nl
open PySem PySem.Spec PyProof.Rows L2
theorem kEx_depth (e : Ex) : (kEx e).depth ≤ 62 := by
  unfold kEx kI
  simp [NestedKey.depth, NestedKey.depthAll]
theorem kRow_depth (r : List Ex) : (kRow r).depth ≤ 64 := by
  have : NestedKey.depthAll (r.map kEx) ≤ 62 := depthAll_le fun k hk => by
    obtain ⟨x, _, rfl⟩ := List.mem_map.mp hk
    exact kEx_depth x
  unfold kRow
  simp only [NestedKey.depth]
  omega
theorem kOpt_depth (r : Option (List Ex)) : (kOpt r).depth ≤ 64 := by
  cases r with
  | none => simp [kOpt, NestedKey.depth]
  | some r => exact kRow_depth r
theorem sIx_hi (n : Nat) : HT.sIx (n + 1) (n + 1) (some 1) = 1 := by
  show (if (1 : Int) < 0 then ((1 : Int) + ((n + 1 : Nat) : Int)).toNat else min (1 : Int).toNat (n + 1)) = 1
  rw [if_neg (by decide), show (1 : Int).toNat = 1 from rfl]
  omega
theorem sIx_lo (n : Nat) : HT.sIx (n + 1) 0 (some 1) = 1 := by
  show (if (1 : Int) < 0 then ((1 : Int) + ((n + 1 : Nat) : Int)).toNat else min (1 : Int).toNat (n + 1)) = 1
  rw [if_neg (by decide), show (1 : Int).toNat = 1 from rfl]
  omega
theorem cut_head (x : V) (ys : List V) : cutV (x :: ys) none (some 1) = [x] := by
  unfold cutV
  rw [List.length_cons, sIx_hi]
  rfl
theorem cut_tail (x : V) (ys : List V) : cutV (x :: ys) (some 1) none = ys := by
  unfold cutV
  rw [List.length_cons, sIx_lo]
  show List.take (ys.length + 1 - 1) (List.drop 1 (x :: ys)) = ys
  simp
theorem neN {α : Type} [DecidableEq α] {x y : α} {A B : Prop} (h : x = y) (b : B) : if (!decide (x = y)) = true then A else B := by
  rw [decide_eq_true h]
  exact noB b
theorem notN {α : Type} [DecidableEq α] {x y : α} {A B : Prop} (h : x ≠ y) (a : A) : if (!decide (x = y)) = true then A else B := by
  rw [decide_eq_false h]
  exact yesB a
def marksOf (W : Web) : List Int := W.map (·.1)
theorem marksOf_at {W : Web} {h : Nat} (hh : h < W.length) : (marksOf W)[h]? = some (mk W h) := by
  unfold marksOf
  rw [List.getElem?_map, web_at hh]
  rfl
/-- the marks below ten that no hand shows -/
def leftOf (W : Web) (n : Nat) : List Nat := (List.range n).filter fun m => decide (((m : Nat) : Int) ∉ marksOf W)
theorem mem_leftOf {W : Web} {n m : Nat} : m ∈ leftOf W n ↔ m < n ∧ ((m : Nat) : Int) ∉ marksOf W := by
  unfold leftOf
  rw [List.mem_filter, List.mem_range, decide_eq_true_eq]
theorem leftOf_len (W : Web) (n : Nat) : (leftOf W n).length ≤ n := by
  have := List.length_filter_le (fun m : Nat => decide (((m : Nat) : Int) ∉ marksOf W)) (List.range n)
  rwa [List.length_range] at this
theorem leftOf_pos {W : Web} (h : W.length ≤ 9) : 0 < (leftOf W 10).length := by
  rcases Nat.eq_zero_or_pos (leftOf W 10).length with z | z
  · exfalso
    have e := List.eq_nil_of_length_eq_zero z
    have all : ∀ m : Nat, m < 10 → ((m : Nat) : Int) ∈ marksOf W := fun m hm => by
      by_cases q : ((m : Nat) : Int) ∈ marksOf W
      · exact q
      · have : m ∈ leftOf W 10 := mem_leftOf.mpr ⟨hm, q⟩
        rw [e] at this
        cases this
    have hl : (marksOf W).length = W.length := by simp [marksOf]
    have := pigeon (m := 10) (n := W.length) (fun m => (marksOf W).idxOf ((m : Nat) : Int)) (fun m hm => by rw [← hl]; exact List.idxOf_lt_length_of_mem (all m hm)) fun i j hi hj e => by
      have h1 := List.getElem_idxOf (List.idxOf_lt_length_of_mem (all i hi))
      have h2 := List.getElem_idxOf (List.idxOf_lt_length_of_mem (all j hj))
      have e' : (marksOf W).idxOf ((i : Nat) : Int) = (marksOf W).idxOf ((j : Nat) : Int) := e
      have h3 : ((i : Nat) : Int) = ((j : Nat) : Int) := by
        rw [← h1, ← h2]
        congr 1
      omega
    omega
  · exact z
theorem inV_ints (n : Int) (l : List Int) : inV (.int n) (l.map V.int) = decide (n ∈ l) := by
  unfold inV
  rw [List.any_map, Bool.eq_iff_iff, List.any_eq_true, decide_eq_true_eq]
  constructor
  · rintro ⟨y, hy, e⟩
    have e' : (y == n) = true := e
    rw [beq_iff_eq] at e'
    exact e' ▸ hy
  · intro h
    exact ⟨n, h, by show (n == n) = true; exact beq_self_eq_true n⟩
theorem flat_ints (l : List Int) : (l.map V.int).all flatV = true := by
  rw [List.all_map, List.all_eq_true]
  intro x _
  rfl
section
variable {P : Program} {w : World} {K : PySem.W.Frag} {mg : Str → Option Value} {base : Heap}
abbrev sLaw : Stmt := topS 37
abbrev nLaw : List Str := ["_law_script", "_law_box_here", "_law_web_here", "_law_found", "_law_some", "_law_one", "_law_left", "_law_mark", "_law_hand"]
theorem scLaw : FnScope nLaw ["_law_script"] (defScope sLaw) := ⟨rfl, rfl, rfl, by decide +kernel, rfl, by decide +kernel, by decide +kernel⟩
/-- a comprehension that takes no name from around it -/
theorem blk_any {N : List Str} {scope sc sc0 : Scope} {own : List (Str × Nat)} (h : BlkOk N sc0 scope own) (hn : (scope.names.all fun y => decide (y.snd ≠ NameKind.free)) = true) : BlkOk N sc scope own :=
  ⟨h.kind, h.uniq, h.ix, fun y hy e => absurd e (of_decide_eq_true (List.all_eq_true.mp hn y hy)), h.own⟩
def spLaw (K : PySem.W.Frag) : Sp := fun vs H Q _ => ∃ (a : Addr) (ns : List Int), vs = [.ref a] ∧ SqL K H a (ns.map V.int) ∧ ns.length ≤ 63 ∧ ∀ H', Q (.bl true) H'
theorem ok_law {f fB fT fS fSm fF fR fC fD fG fM : Addr} {fd fdB fdT fdS fdSm fdF fdR fdC fdD fdG fdM : FuncData} {k : Nat} (F : Fun K "law" "law" sLaw f fd)
    (FB : Fun K "_law_box" "_law_box" sBox fB fdB) (bB : Binds K fdB ["_law_script", "_law_k"] []) (gB : mg "_law_box" = some (.ref fB)) (GB : FnOk P w K mg base CX0 k fB fdB ["_law_script", "_law_k"] (spBox K))
    (FT : Fun K "_law_take" "_law_take" sTake fT fdT) (bT : Binds K fdT ["_law_box_here", "_law_wide"] []) (gT : mg "_law_take" = some (.ref fT)) (GT : FnOk P w K mg base CX0 k fT fdT ["_law_box_here", "_law_wide"] spTake)
    (FS : Fun K "_law_shuffled" "_law_shuffled" sShuf fS fdS) (bS : Binds K fdS ["_law_box_here", "_law_many"] []) (gS : mg "_law_shuffled" = some (.ref fS)) (GS : FnOk P w K mg base CX0 k fS fdS ["_law_box_here", "_law_many"] spShuf)
    (FSm : Fun K "_law_small" "_law_small" sSmall fSm fdSm) (bSm : Binds K fdSm ["_law_box_here", "_law_most"] []) (gSm : mg "_law_small" = some (.ref fSm)) (GSm : FnOk P w K mg base CX0 k fSm fdSm ["_law_box_here", "_law_most"] spSmall)
    (FF : Fun K "fewest" "fewest" sFew fF fdF) (bF : Binds K fdF ["web"] []) (gF : mg "fewest" = some (.ref fF)) (GF : FnOk P w K mg base CX0 k fF fdF ["web"] spFew)
    (FR : Fun K "renamed" "renamed" sRen fR fdR) (bR : Binds K fdR ["web", "row"] []) (gR : mg "renamed" = some (.ref fR)) (GR : FnOk P w K mg base CX0 k fR fdR ["web", "row"] spRen)
    (FC : Fun K "_law_count" "_law_count" sCnt fC fdC) (bC : Binds K fdC ["_law_found"] []) (gC : mg "_law_count" = some (.ref fC)) (GC : FnOk P w K mg base CX0 k fC fdC ["_law_found"] spCnt)
    (FD : Fun K "_law_done_all" "_law_done_all" sLDone fD fdD) (bD : Binds K fdD ["_law_web_here", "_law_row"] []) (gD : mg "_law_done_all" = some (.ref fD)) (GD : FnOk P w K mg base CX0 k fD fdD ["_law_web_here", "_law_row"] spExAll)
    (FG : Fun K "_law_singles" "_law_singles" sLSing fG fdG) (bG : Binds K fdG ["_law_web_here"] []) (gG : mg "_law_singles" = some (.ref fG)) (GG : FnOk P w K mg base CX0 k fG fdG ["_law_web_here"] spSingles)
    (FM : Fun K "marked" "marked" sMarked fM fdM) (bM : Binds K fdM ["web", "hands", "mark"] []) (gM : mg "marked" = some (.ref fM)) (GM : FnOk P w K mg base CX0 k fM fdM ["web", "hands", "mark"] spMarked)
    (ml : mg "len" = none) (mt : mg "tuple" = none) (mr : mg "range" = none) :
    FnOk P w K mg base CX0 (k + 1) f fd ["_law_script"] (spLaw K) := by
  refine F.ok scLaw (fun vs H Q E h => ?_) (fun cdv A outer s H vs Q E hr h => ?_)
  · obtain ⟨a, ns, rfl, _⟩ := h
    rfl
  · obtain ⟨a, ns, rfl, hS, hns, qq⟩ := h
    refine ⟨_, pss_cons (ps_set (i := 1) scLaw.nd rfl (.inl rfl) (pe_call GB hr (by rfl) gB FB.kp bB .nil pass0 (pa_cons (pv 0) (pa_cons pe_int pa_nil))))
      (pss_cons (ps_set (i := 2) scLaw.nd rfl (.inr rfl) (pe_call GSm hr (by rfl) gSm FSm.kp bSm .nil pass0 (pa_cons (pv 1) (pa_cons (pe_ix ix_list (pe_lst (pa_cons pe_int (pa_cons pe_int (pa_cons pe_int (pa_cons pe_int (pa_cons pe_int (pa_cons pe_int (pa_cons pe_int (pa_cons pe_int pa_nil)))))))))
          (pe_call GT hr (by rfl) gT FT.kp bT .nil pass0 (pa_cons (pv 1) (pa_cons pe_int pa_nil))) (fun _ _ => rfl)) pa_nil))))
      (pss_cons (ps_set (i := 3) scLaw.nd rfl (.inl rfl) (pe_call GF hr (by rfl) gF FF.kp bF .nil pass0 (pa_cons (pv 2) pa_nil)))
      (pss_cons (ps_if (pt_cmpR op_ne (pe_call GC hr (by rfl) gC FC.kp bC .nil pass0 (pa_cons (pe_call GF hr (by rfl) gF FF.kp bF .nil pass0 (pa_cons (pe_call GR hr (by rfl) gR FR.kp bR .nil pass0 (pa_cons (pv 2) (pa_cons
            (pe_callTy call_tuple_of (by rfl) mt (by decide +kernel) (pa_cons (pe_call GS hr (by rfl) gS FS.kp bS .nil pass0 (pa_cons (pv 1) (pa_cons (pe_callB (call_lenK K) (by rfl) ml PySem.boot_len (pa_cons (pv 2) pa_nil)) pa_nil))) pa_nil)) pa_nil))) pa_nil)) pa_nil))
          (pe_call GC hr (by rfl) gC FC.kp bC .nil pass0 (pa_cons (pv 3) pa_nil)) (nomark _)) (pss_one (ps_ret pe_bl)) pss_nil)
      (C8.pss_cut (ps_if (PW.pt (pw_and (pt_cmp (pc_notN (pv 3)) (by rfl)) (pw_and (pt_cmpR op_gt (pe_callB (call_lenK K) (by rfl) ml PySem.boot_len (pa_cons (pv 3) pa_nil)) pe_int (nomark _))
          (pw_and1 (pt_cmpR (op_neD hr.units) (pe_call GF hr (by rfl) gF FF.kp bF .nil pass0 (pa_cons (pe_call GD hr (by rfl) gD FD.kp bD .nil pass0 (pa_cons (pv 2) (pa_cons (pe_slice sl_tupA (pv 3) po_none (po_some pe_int)) pa_nil))) pa_nil)) (pe_slice sl_tupA (pv 3) (po_some pe_int) po_none) (nomark _)))))) (pss_one (ps_ret pe_bl)) pss_nil)
      (pss_cons (ps_set (i := 4) scLaw.nd rfl (.inl rfl) (pe_call GG hr (by rfl) gG FG.kp bG .nil pass0 (pa_cons (pv 2) pa_nil)))
      (C8.pss_cut (ps_if (pt_cmpR op_gt (pe_callB (call_lenK K) (by rfl) ml PySem.boot_len (pa_cons (pv 4) pa_nil)) pe_int (nomark _))
        (pss_cons (ps_set (i := 5) scLaw.nd rfl (.inl rfl) (pe_ix ix_list (pv 4) (pe_call GT hr (by rfl) gT FT.kp bT .nil pass0 (pa_cons (pv 1) (pa_cons (pe_callB (call_lenK K) (by rfl) ml PySem.boot_len (pa_cons (pv 4) pa_nil)) pa_nil))) (fun _ _ => rfl)))
        (pss_one (ps_if (pt_cmpR op_lt (pe_call GC hr (by rfl) gC FC.kp bC .nil pass0 (pa_cons (pe_call GF hr (by rfl) gF FF.kp bF .nil pass0 (pa_cons (pe_call GD hr (by rfl) gD FD.kp bD .nil pass0 (pa_cons (pv 2) (pa_cons (pe_tup (pa_cons (pv 5) pa_nil)) pa_nil))) pa_nil)) pa_nil))
          (pe_op op_sub (pe_call GC hr (by rfl) gC FC.kp bC .nil pass0 (pa_cons (pv 3) pa_nil)) pe_int) (nomark _)) (pss_one (ps_ret pe_bl)) pss_nil))) pss_nil)
      (pss_cons (ps_setLc (i := 6) (own := [("_law_mark", 7)]) (g := gName 7) (tt := tTest (tOp (rIn K true) (tVar 7) (tLc (iTup K (tVar 2)) (gName 8) tYes (tOp (rIxT K) (tVar 8) (tC (.int 0))) [8]))) (te := tVar 7) rfl scLaw.nd rfl rfl (sw_true rfl rfl rfl (by decide +kernel)) (pi_range1 (by rfl) mr (pa_cons pe_int pa_nil))
          (blkOk_by (own := [("_law_mark", 7)]) (N := nLaw) (sc := defScope sLaw) (by decide +kernel))
          (fun _ _ _ _ _ => pg_name (i := 7) scLaw.nd rfl (.inl rfl))
          (fun _ _ _ _ _ => pts_one (pt_cmpR op_notIn_seq (pv 7) (pe_lc (own := [("_law_hand", 8)]) (g := gName 8) (tt := tYes) (te := tOp (rIxT K) (tVar 8) (tC (.int 0))) rfl scLaw.nd (pi_tup (pv 2))
            (blk_any (blkOk_by (own := [("_law_hand", 8)]) (N := nLaw) (sc := defScope sLaw) (by decide +kernel)) (by decide +kernel)) (fun _ _ _ _ _ => pg_name (i := 8) scLaw.nd rfl (.inl rfl)) (fun _ _ _ _ _ => pts_nil) (fun _ _ _ _ _ => pe_ix (ixT K) (pv 8) pe_int (fun _ _ => rfl))) (by rfl)))
          (fun _ _ _ _ _ => pv 7))
      (pss_cons (ps_set (i := 8) scLaw.nd rfl (.inl rfl) (pe_call GT hr (by rfl) gT FT.kp bT .nil pass0 (pa_cons (pv 1) (pa_cons (pe_callB (call_lenK K) (by rfl) ml PySem.boot_len (pa_cons (pv 2) pa_nil)) pa_nil))))
      (pss_one (ps_ret (pe_cmpR (op_eqD hr.units) (pe_call GF hr (by rfl) gF FF.kp bF .nil pass0 (pa_cons (pe_call GM hr (by rfl) gM FM.kp bM .nil pass0 (pa_cons (pv 2) (pa_cons (pe_tup (pa_cons (pv 8) pa_nil)) (pa_cons
        (pe_ix ix_list (pv 6) (pe_call GT hr (by rfl) gT FT.kp bT .nil pass0 (pa_cons (pv 1) (pa_cons (pe_callB (call_lenK K) (by rfl) ml PySem.boot_len (pa_cons (pv 6) pa_nil)) pa_nil))) (fun _ _ => rfl)) pa_nil)))) pa_nil)) (pe_tup pa_nil) (nomark _)))))))))))), ?_⟩
    have hsz8 : (8 : Nat) ≤ sizeLine := by decide
    have l1 : (1 : Nat) ≤ sizeLine := by decide
    refine ⟨_, rfl, a, ns, rfl, hS, hns, fun H1 b s1 hb1 nb => ?_⟩
    refine ⟨_, rfl, hsz8, fun o no => ?_⟩
    have so := same_upd (o := .lst [V.int 3, V.int 3, V.int 4, V.int 4, V.int 4, V.int 4, V.int 4, V.int 5]) no
    have ob : o ≠ b := hb1.ne no
    have bx1 := Bx.of hb1 so
    refine ⟨_, rfl, b, 8, rfl, bx1.box, by decide, by decide, fun H2 d x2 hd => ?_⟩
    have sel : ∃ m : Nat, 3 ≤ m ∧ m ≤ 5 ∧ atI [V.int 3, V.int 3, V.int 4, V.int 4, V.int 4, V.int 4, V.int 4, V.int 5] ((d : Nat) : Int) = some (.int (m : Nat)) := by
      have : d = 0 ∨ d = 1 ∨ d = 2 ∨ d = 3 ∨ d = 4 ∨ d = 5 ∨ d = 6 ∨ d = 7 := by omega
      rcases this with rfl | rfl | rfl | rfl | rfl | rfl | rfl | rfl
      · exact ⟨3, by decide, by decide, rfl⟩
      · exact ⟨3, by decide, by decide, rfl⟩
      · exact ⟨4, by decide, by decide, rfl⟩
      · exact ⟨4, by decide, by decide, rfl⟩
      · exact ⟨4, by decide, by decide, rfl⟩
      · exact ⟨4, by decide, by decide, rfl⟩
      · exact ⟨4, by decide, by decide, rfl⟩
      · exact ⟨5, by decide, by decide, rfl⟩
    obtain ⟨m0, hm3, hm5, hm⟩ := sel
    refine ⟨o, _, _, _, rfl, rfl, .inl (.inl (x2.keep _ _ ob upd_same)), hm, b, m0, rfl, x2.box, hm3, hm5, fun H3 W u x3 hu vv ft => ?_⟩
    have hfew := ft.few
    have hW0 := vv.pos
    refine ⟨_, rfl, W, u, rfl, hu, ft, fun H4 r0 s4 hr0 => ?_⟩
    have b4 := (Bx.of x3.box s4).box
    have hu4 := hu.tups (tups_same s4)
    clear hm x2 x3 bx1 so no ob s1 hb1 nb hu s4
    -- called anew
    obtain ⟨aW, ws, rfl, hw, hws, hwl⟩ := id hu4.webAt
    refine ⟨_, rfl, _, rfl, _, rfl, aW, ws, rfl, .inr (.inl hw), b, ws.length, rfl, b4, by omega, fun H5 l r x5 hl hr nl => ?_⟩
    rw [hwl] at hr
    refine ⟨l, _, rfl, .inl ⟨.inl (.inl hl), fun t nt => ?_⟩⟩
    have st := same_upd (o := .tup (vNums r)) nt
    have x6 := x5.same st
    refine ⟨W, r, .ref aW, .ref t, rfl, hu4.tups (x6.tups b4), .tup (.inl upd_same) (KDs.map fun x _ => KD.mkInt x), hr, ft, fun H6 z s6 hz => ?_⟩
    refine ⟨ren W r, z, rfl, hz, ft.ren hr, fun H7 r2 s7 hr2 => ?_⟩
    have x7 := x6.same (s6.trans s7)
    refine ⟨_, r2, rfl, hr2, _, rfl, _, r0, rfl, hr0.tups (x7.tups b4), rfl, _, rfl, ?_⟩
    have hown : ∀ V : Web, 0 < V.length → InR V → (isOwn V = true ↔ Own V) := fun V h0 H => isOwn_iff h0 H
    refine neN (congrArg (fun n : Nat => V.int (n : Int)) (Iso.cnt hown hW0 (ren_iso ft.inr hr))) ?_
    have hu7 := hu4.tups (x7.tups b4)
    have hr7 := hr0.tups (x7.tups b4)
    have b7 := x7.box
    clear hr2 hz hl x5 x6 st nt s6 s7 hu4 hr0 hws hw
    -- what is left
    refine ⟨fun σ H' => σ = [some (.ref a), some (.ref b), some (.ref aW), some r0, none, none, none, none, none] ∧ BoxAt H' b ∧ KD H' (kWeb W) (.ref aW) ∧ KD H' (kOpt (few isOwn W)) r0, ?_, ?_⟩
    · refine ⟨_, rfl, _, rfl, ?_⟩
      cases hq : few isOwn W with
      | none =>
        rw [hq] at hr7
        cases hr7
        refine neN rfl ?_
        exact noB ⟨rfl, b7, hu7, .non⟩
      | some row =>
        have hkr := hr7
        rw [hq] at hkr
        obtain ⟨q, ys, rfl, hqr, hys⟩ := KD.ref (show KD H7 (kRow row) r0 from hkr)
        have hyl := hys.length
        rw [List.length_map] at hyl
        have keep : ∀ {H'}, Bx b H7 H' → BoxAt H' b ∧ KD H' (kWeb W) (.ref aW) ∧ KD H' (kOpt (some row)) (.ref q) := fun x => ⟨x.box, hu7.tups (x.tups b7), hkr.tups (x.tups b7)⟩
        refine notN (fun e => nomatch e) ?_
        refine ⟨_, rfl, q, ys, rfl, .inr (.inl hqr), _, _, rfl, rfl, _, rfl, ?_⟩
        cases row with
        | nil =>
          refine decN (by rw [hyl]; decide) (noB ⟨rfl, b7, hu7, hkr⟩)
        | cons e rest =>
          refine decY (by rw [hyl, List.length_cons]; omega) ?_
          have he : ∀ e' ∈ [e], IsEx W e' := fun e' h' => by
            rw [List.mem_singleton] at h'
            subst h'
            exact (few_some hq).2.1 _ List.mem_cons_self
          have htail : few isOwn (exAll W [e]) = some rest := few_tail hq
          cases hys with
          | cons kx kys =>
            rename_i y ys
            have hrl := kys.length
            rw [List.length_map] at hrl
            refine ⟨_, rfl, _, rfl, _, rfl, q, y :: ys, rfl, .inl hqr, fun hc => ?_, fun hc p np => ?_⟩
            · -- a row of one: the slice is the row itself
              have hn : ys = [] := by
                have h2 := hc.2
                rw [List.length_cons, sIx_hi] at h2
                exact List.eq_nil_of_length_eq_zero (by omega)
              subst hn
              have hrn : rest = [] := List.eq_nil_of_length_eq_zero (by rw [← hrl]; rfl)
              subst hrn
              refine ⟨W, [e], .ref aW, .ref q, rfl, hu7, hkr, ft, he, fun H9 z s9 hz => ⟨exAll W [e], z, rfl, hz, ft.exAll he, fun H10 r3 s10 hr3 => ?_⟩⟩
              have s11 := s9.trans s10
              refine ⟨_, rfl, _, rfl, q, [y], rfl, .inl (rd_same s11 hqr), fun hc2 => ?_, fun hc2 p np => ?_⟩
              · have h2 := hc2.1
                rw [List.length_cons, sIx_lo] at h2
                cases h2
              · have sp := same_upd (o := .tup (cutV [y] (some 1) none)) np
                have kt : KD (upd H10 p (.tup (cutV [y] (some 1) none))) (kOpt (some [])) (.ref p) := .tup (.inl upd_same) (by rw [cut_tail]; exact .nil)
                rw [htail] at hr3
                have kr3 := hr3.tups (tups_same sp)
                refine ⟨_, _, kr3.dp, kt.dp, key_shaped kr3.pure_ (kOpt_depth _), key_shaped kt.pure_ (kOpt_depth _), _, rfl, ?_⟩
                rw [eqv_self _ kr3.pure_]
                exact ⟨rfl, keep (Bx.of b7 (s11.trans sp))⟩
            · have sp := same_upd (o := .tup (cutV (y :: ys) none (some 1))) np
              have k1 : KD (upd H7 p (.tup (cutV (y :: ys) none (some 1)))) (kRow [e]) (.ref p) := .tup (.inl upd_same) (by rw [cut_head]; exact .cons (kx.tups (tups_same sp)) .nil)
              refine ⟨W, [e], .ref aW, .ref p, rfl, hu7.tups (tups_same sp), k1, ft, he, fun H9 z s9 hz => ⟨exAll W [e], z, rfl, hz, ft.exAll he, fun H10 r3 s10 hr3 => ?_⟩⟩
              have s11 := sp.trans (s9.trans s10)
              refine ⟨_, rfl, _, rfl, q, y :: ys, rfl, .inl (rd_same s11 hqr), fun hc2 => ?_, fun hc2 p2 np2 => ?_⟩
              · have h2 := hc2.1
                rw [List.length_cons, sIx_lo] at h2
                cases h2
              · have sp2 := same_upd (o := .tup (cutV (y :: ys) (some 1) none)) np2
                have kt : KD (upd H10 p2 (.tup (cutV (y :: ys) (some 1) none))) (kOpt (some rest)) (.ref p2) := .tup (.inl upd_same) (by have h := kys.tups (tups_same (s11.trans sp2)); generalize upd H10 p2 _ = Hx at h ⊢; rw [cut_tail]; exact h)
                rw [htail] at hr3
                have kr3 := hr3.tups (tups_same sp2)
                refine ⟨_, _, kr3.dp, kt.dp, key_shaped kr3.pure_ (kOpt_depth _), key_shaped kt.pure_ (kOpt_depth _), _, rfl, ?_⟩
                rw [eqv_self _ kr3.pure_]
                exact ⟨rfl, keep (Bx.of b7 (s11.trans sp2))⟩
    rintro σ H8 ⟨rfl, b8, hu8, hr8⟩
    clear hu7 hr7 b7 x7
    refine ⟨_, rfl, W, .ref aW, rfl, hu8, ft, fun H9 sl xs s9 hsl hxs => ?_⟩
    have hxl := hxs.length
    rw [List.length_map] at hxl
    have hsing := singles_len ft
    have b9 := (Bx.of b8 s9).box
    have hu9 := hu8.tups (tups_same s9)
    have hr9 := hr8.tups (tups_same s9)
    have slb : sl ≠ b := fun e => by
      obtain ⟨c1, c2, h2⟩ := b9
      rw [← e, hsl] at h2
      injection h2 with h2
      injection h2 with h2
      rw [h2] at hxs
      obtain ⟨e0, _, k0⟩ : ∃ e0 : Ex, True ∧ KD H9 (kEx e0) (V.int c1) := by
        obtain ⟨kk, hkk, hk0⟩ := hxs.get' (i := 0) (v := V.int c1) rfl
        rw [List.getElem?_map, Option.map_eq_some_iff] at hkk
        obtain ⟨e0, _, rfl⟩ := hkk
        exact ⟨e0, trivial, hk0⟩
      cases k0
    refine ⟨fun σ H' => ∃ z5, σ = [some (.ref a), some (.ref b), some (.ref aW), some r0, some (.ref sl), z5, none, none, none] ∧ BoxAt H' b ∧ KD H' (kWeb W) (.ref aW), ?_, ?_⟩
    · refine ⟨_, rfl, sl, xs, rfl, .inl (.inl (.inl hsl)), _, _, rfl, rfl, _, rfl, ite2 (fun c1 => ?_) (fun c1 => ?_)⟩
      · have hpos : 0 < xs.length := by have := of_decide_eq_true c1; omega
        refine ⟨_, rfl, _, rfl, _, rfl, sl, xs, rfl, .inl (.inl (.inl hsl)), b, xs.length, rfl, b9, hpos, by omega, fun H10 d x10 hd => ?_⟩
        have hx : xs[d]? = some xs[d] := List.getElem?_eq_getElem hd
        refine ⟨sl, xs, _, xs[d], rfl, rfl, .inl (.inl (x10.keep _ _ slb hsl)), atI_nat hx, ?_⟩
        obtain ⟨ke, hke, hkx⟩ := hxs.get' hx
        rw [List.getElem?_map, Option.map_eq_some_iff] at hke
        obtain ⟨e, he, rfl⟩ := hke
        have hem : IsEx W e := mem_singles.mp (List.mem_of_getElem? he)
        have he1 : ∀ e' ∈ [e], IsEx W e' := fun e' h' => by
          rw [List.mem_singleton] at h'
          subst h'
          exact hem
        refine ⟨_, rfl, _, rfl, l1, fun p np => ?_⟩
        have sp := same_upd (o := .tup [xs[d]]) np
        have x11 := x10.same sp
        have k1 : KD (upd H10 p (.tup [xs[d]])) (kRow [e]) (.ref p) := .tup (.inl upd_same) (.cons (hkx.tups (x11.tups b9)) .nil)
        refine ⟨W, [e], .ref aW, .ref p, rfl, hu9.tups (x11.tups b9), k1, ft, he1, fun H12 z s12 hz => ⟨exAll W [e], z, rfl, hz, ft.exAll he1, fun H13 r3 s13 hr3 => ?_⟩⟩
        have x13 := x11.same (s12.trans s13)
        refine ⟨_, r3, rfl, hr3, _, rfl, _, r0, rfl, hr9.tups (x13.tups b9), _, _, rfl, rfl, _, _, rfl, rfl, _, rfl, ?_⟩
        have hcnt : cnt (few isOwn W) ≤ cnt (few isOwn (exAll W [e])) + 1 := cnt_exch hem
        exact decN (by omega) ⟨_, rfl, x13.box, hu9.tups (x13.tups b9)⟩
      · exact ⟨_, rfl, b9, hu9⟩
    rintro σ H10 ⟨z5, rfl, b10, hu10⟩
    clear hu8 hr8 b8 hu9 hr9 b9 hsl hxs hxl
    obtain ⟨aW', ws', e0, hw, hws, hwl'⟩ := id hu10.webAt
    cases e0
    -- the marks that no hand shows
    have hD2 : ∀ {H'}, Same H10 H' → Rd H' aW (.tup ws') := fun s => rd_same s hw
    refine ⟨10, rfl, by decide, by decide, fun D hD => lc_it (walk_range (lo := 0) (n := (10 : Int).toNat)) (fun i H' => Same H10 H' ∧ H' D = some (.lst (vNums (leftOf W i)))) ⟨same_upd hD, upd_same⟩ (fun _ _ _ _ => trivial) (fun i x H11 H12 hi hh hy => ?_) (fun H11 hh => ?_)⟩
    · obtain ⟨rfl, rfl⟩ := hy
      obtain ⟨s11, hDv⟩ := hh
      dsimp only
      rw [Int.zero_add]
      have hi10 : i < 10 := hi
      refine ⟨rfl, _, rfl, _, rfl, aW, rfl, ⟨ws', .inl (hD2 s11)⟩, fun E2 hE2 => lc_it (walk_tup (K := K) (a := aW) (xs := ws')) (fun j H' => Same H12 H' ∧ H' E2 = some (.lst (((marksOf W).take j).map V.int))) ⟨same_upd hE2, upd_same⟩ (fun j H' _ hh => .inl (hD2 (s11.trans hh.1))) (fun j y H13 H14 hj hh hy => ?_) (fun H13 hh => ?_)⟩
      · obtain ⟨rfl, hy⟩ := hy
        obtain ⟨s13, hEv⟩ := hh
        obtain ⟨hjW, hkh⟩ := (hws.tups (tups_same (s11.trans s13))).web hy
        obtain ⟨c, e, ys, rfl, hc, he, hys, hyl⟩ := hkh.handAt
        refine ⟨rfl, _, rfl, c, _, _, _, rfl, rfl, .inl hc, atI_nat (j := 0) rfl, ?_⟩
        refine ⟨_, hEv, by rw [sizeLine_eq]; simp [marksOf]; omega, same_over hE2 s13, ?_⟩
        rw [upd_same, List.take_succ, marksOf_at hjW]
        simp
      · obtain ⟨s13, hEv⟩ := hh
        rw [hwl', show W.length = (marksOf W).length by simp [marksOf], List.take_length] at hEv
        refine ⟨E2, _, rfl, .inl (.inl (.inl hEv)), rfl, flat_ints _, _, rfl, ?_⟩
        rw [if_pos rfl, inV_ints]
        have el : leftOf W (i + 1) = leftOf W i ++ (if ((i : Nat) : Int) ∉ marksOf W then [i] else []) := by
          unfold leftOf
          rw [List.range_succ, List.filter_append]
          congr 1
          by_cases h : ((i : Nat) : Int) ∉ marksOf W <;> simp [h]
        have hDv13 := s13 _ _ hDv
        refine ite2 (fun c1 => ?_) (fun c1 => ?_)
        · have c2 : ((i : Nat) : Int) ∉ marksOf W := by simpa using c1
          have := leftOf_len W i
          refine ⟨_, rfl, _, hDv13, by rw [sizeLine_eq]; simp [vNums]; omega, same_over hD (s11.trans s13), ?_⟩
          rw [upd_same, el, if_pos c2]
          simp [vNums]
        · have c2 : ¬ ((i : Nat) : Int) ∉ marksOf W := by simpa using c1
          refine ⟨s11.trans s13, ?_⟩
          rw [el, if_neg c2, List.append_nil]
          exact hDv13
    · obtain ⟨s11, hDv⟩ := hh
      have hDv : H11 D = some (.lst (vNums (leftOf W 10))) := hDv
      have b11 := (Bx.of b10 s11).box
      have Db : D ≠ b := b10.ne hD
      have hu11 := hu10.tups (tups_same s11)
      refine ⟨_, rfl, _, rfl, aW, ws', rfl, .inr (.inl (hD2 s11)), b, ws'.length, rfl, b11, by omega, by omega, fun H12 hd x12 hhd => ?_⟩
      have x12' : Bx b H11 H12 := x12
      refine ⟨_, rfl, _, rfl, l1, fun p np => ?_⟩
      have sp := same_upd (o := .tup [.int (hd : Nat)]) np
      have x13 := x12.same sp
      have hD13 := x13.keep _ _ Db hDv
      have hlp := leftOf_pos hfew
      have hll := leftOf_len W 10
      refine ⟨_, rfl, _, rfl, _, rfl, D, _, rfl, .inl (.inl (.inl hD13)), b, (leftOf W 10).length, by simp [vNums], x13.box, hlp, by omega, fun H14 d x14 hd2 => ?_⟩
      have x15 := x13.trans x14
      obtain ⟨hm1, hm2⟩ := mem_leftOf.mp (at0_mem hd2)
      refine ⟨D, _, _, _, rfl, rfl, .inl (.inl (x14.keep _ _ Db hD13)), atI_vn hd2, ?_⟩
      have pb : p ≠ b := x12.box.ne np
      have hdW : hd < W.length := by omega
      refine ⟨W, hd, ((at0 (leftOf W 10) d : Nat) : Int), .ref aW, p, rfl, hu11.tups (x15.tups b11), .inl (x14.keep _ _ pb upd_same), ft, fun H16 z s16 hz => ?_⟩
      refine ⟨mkd W hd ((at0 (leftOf W 10) d : Nat) : Int), z, rfl, hz, ft.mkd _ _, fun H17 r3 s17 hr3 => ?_⟩
      have fm := ft.mkd hd ((at0 (leftOf W 10) d : Nat) : Int)
      have own : isOwn (mkd W hd ((at0 (leftOf W 10) d : Nat) : Int)) = true := (isOwn_iff fm.pos fm.inr).mpr (mkd_own vv hdW fun h hh e => hm2 (by
        rw [← e]
        exact List.mem_of_getElem? (marksOf_at hh)))
      rw [few_own own] at hr3
      refine ⟨Nat.zero_le _, fun e ne => ?_⟩
      have se := same_upd (o := .tup []) ne
      have kt : KD (upd H17 e (.tup [])) (kOpt (some [])) (.ref e) := .tup (.inl upd_same) .nil
      have kr3 := hr3.tups (tups_same se)
      refine ⟨_, _, kr3.dp, kt.dp, key_shaped kr3.pure_ (kOpt_depth _), key_shaped kt.pure_ (kOpt_depth _), ?_⟩
      rw [eqv_self _ kr3.pure_]
      exact qq _
end
end Nl
end

section
set_option Elab.async false
set_option linter.all false
set_option maxRecDepth 100000
namespace Nl
open PySem PySem.Spec PyProof.Rows L2
/-! ### what the top has written -/
/-- a def that stands -/
structure At (K : PySem.W.Frag) (mg : Str → Option Value) (x : Str) (st : Stmt) (f : Addr) (fd : FuncData) (ps : List Str) : Prop where
  F : Fun K x x st f fd
  b : Binds K fd ps []
  g : mg x = some (.ref f)
theorem all_ok {P : Program} {w : World} {K : PySem.W.Frag} {mg : Str → Option Value} {base : Heap} {tM : Tok} {f1 f2 f3 f4 f5 f6 f7 f8 f9 f10 f11 f12 f13 f14 f15 f16 f17 f18 f19 f20 f21 f22 f23 f24 f25 f26 f27 f28 f29 f30 f31 f32 : Addr} {d1 d2 d3 d4 d5 d6 d7 d8 d9 d10 d11 d12 d13 d14 d15 d16 d17 d18 d19 d20 d21 d22 d23 d24 d25 d26 d27 d28 d29 d30 d31 d32 : FuncData}
    (A1 : At K mg "heard_by" sHeard f1 d1 ["hand", "now"]) (A2 : At K mg "places_of" sPlaces f2 d2 ["keys"]) (A3 : At K mg "led_by" sLed f3 d3 ["web", "row"]) (A4 : At K mg "renamed" sRen f4 d4 ["web", "row"]) (A5 : At K mg "marked" sMarked f5 d5 ["web", "hands", "mark"]) (A6 : At K mg "turned_peg" sTurned f6 d6 ["place", "hand", "p", "q"]) (A7 : At K mg "single_ones" sSing f7 d7 ["web"]) (A8 : At K mg "_law_box" sBox f8 d8 ["_law_script", "_law_k"]) (A9 : At K mg "_law_take" sTake f9 d9 ["_law_box_here", "_law_wide"]) (A10 : At K mg "_law_renamed" sLRen f10 d10 ["_law_web_here", "_law_row"]) (A11 : At K mg "_law_singles" sLSing f11 d11 ["_law_web_here"]) (A12 : At K mg "_law_count" sCnt f12 d12 ["_law_found"]) (A13 : At K mg "begun" sBegun f13 d13 ["web"]) (A14 : At K mg "onward" sOnward f14 d14 ["web", "now"]) (A15 : At K mg "exchanged" sExch f15 d15 ["web", "hand", "p", "q"]) (A16 : At K mg "rows_of" sRows f16 d16 ["web", "many"]) (A17 : At K mg "_law_shuffled" sShuf f17 d17 ["_law_box_here", "_law_many"]) (A18 : At K mg "_law_marks" sMarks f18 d18 ["_law_box_here", "_law_many"]) (A19 : At K mg "_law_ties" sTies f19 d19 ["_law_box_here", "_law_many", "_law_room"]) (A20 : At K mg "numbers_at" sNumAt f20 d20 ["web", "turn"]) (A21 : At K mg "stays_from" sStays f21 d21 ["web"]) (A22 : At K mg "exchanged_by" sExBy f22 d22 ["web", "row"]) (A23 : At K mg "_law_plain_web" sPlain f23 d23 ["_law_box_here", "_law_most", "_law_room"]) (A24 : At K mg "_law_turnings" sTurn f24 d24 ["_law_box_here", "_law_web_here", "_law_sheets"]) (A25 : At K mg "_law_done_all" sLDone f25 d25 ["_law_web_here", "_law_row"]) (A26 : At K mg "beneath" sBeneath f26 d26 ["web"]) (A27 : At K mg "_law_cover" sCov f27 d27 ["_law_box_here", "_law_web_here", "_law_sheets"]) (A28 : At K mg "is_own" sOwn f28 d28 ["web"]) (A29 : At K mg "_law_web" sWeb f29 d29 ["_law_box_here", "_law_most", "_law_room"]) (A30 : At K mg "fewest" sFew f30 d30 ["web"]) (A31 : At K mg "_law_small" sSmall f31 d31 ["_law_box_here", "_law_most"]) (A32 : At K mg "law" sLaw f32 d32 ["_law_script"])
    (gMost : mg "MOST" = some (.int 2 tM)) (zenumerate : mg "enumerate" = none) (zint : mg "int" = none) (zlen : mg "len" = none) (zlist : mg "list" = none) (zmax : mg "max" = none) (zmin : mg "min" = none) (zrange : mg "range" = none) (zset : mg "set" = none) (zsorted : mg "sorted" = none) (ztuple : mg "tuple" = none) (zzip : mg "zip" = none) :
    FnOk P w K mg base CX0 7 f32 d32 ["_law_script"] (spLaw K) := by
  have G1 : FnOk P w K mg base CX0 1 f1 d1 ["hand", "now"] spHeard := ok_heard (k := 0) (F := A1.F) (mt := ztuple)
  have G2 : FnOk P w K mg base CX0 1 f2 d2 ["keys"] spPlaces := ok_places (k := 0) (F := A2.F) (mt := ztuple) (ms := zsorted) (me := zset)
  have G3 : FnOk P w K mg base CX0 1 f3 d3 ["web", "row"] spLed := ok_led (k := 0) (F := A3.F) (mt := ztuple) (mm := zmax) (mr := zrange)
  have G4 : FnOk P w K mg base CX0 1 f4 d4 ["web", "row"] spRen := ok_ren (k := 0) (F := A4.F) (mt := ztuple) (me := zenumerate) (mr := zrange) (ml := zlen)
  have G5 : FnOk P w K mg base CX0 1 f5 d5 ["web", "hands", "mark"] spMarked := ok_marked (k := 0) (F := A5.F) (mt := ztuple) (me := zenumerate)
  have G6 : FnOk P w K mg base CX0 1 f6 d6 ["place", "hand", "p", "q"] spTurned := ok_turned (k := 0) (F := A6.F)
  have G7 : FnOk P w K mg base CX0 1 f7 d7 ["web"] spSingles := ok_sing (k := 0) (F := A7.F) (me := zenumerate) (mr := zrange) (ml := zlen)
  have G8 : FnOk P w K mg base CX0 1 f8 d8 ["_law_script", "_law_k"] (spBox K) := ok_box (k := 0) (F := A8.F) (ml := zlen) (mi := zint)
  have G9 : FnOk P w K mg base CX0 1 f9 d9 ["_law_box_here", "_law_wide"] spTake := ok_take (k := 0) (F := A9.F)
  have G10 : FnOk P w K mg base CX0 1 f10 d10 ["_law_web_here", "_law_row"] spLRen := ok_lren (k := 0) (F := A10.F) (mt := ztuple) (me := zenumerate) (ml := zlen)
  have G11 : FnOk P w K mg base CX0 1 f11 d11 ["_law_web_here"] spSingles := ok_lsing (k := 0) (F := A11.F) (me := zenumerate) (mr := zrange) (ml := zlen)
  have G12 : FnOk P w K mg base CX0 1 f12 d12 ["_law_found"] spCnt := ok_cnt (k := 0) (F := A12.F) (ml := zlen)
  have G13 : FnOk P w K mg base CX0 2 f13 d13 ["web"] spBegun := ok_begun (k := 1) (F := A13.F) (FP := A2.F) (bP := A2.b) (gP := A2.g) (G := G2.mono (by decide)) (ml := zlen)
  have G14 : FnOk P w K mg base CX0 2 f14 d14 ["web", "now"] spOnward := ok_onward (k := 1) (F := A14.F) (FP := A2.F) (bP := A2.b) (gP := A2.g) (G := G2.mono (by decide)) (FH := A1.F) (bH := A1.b) (gH := A1.g) (GH := G1.mono (by decide)) (mz := zzip)
  have G15 : FnOk P w K mg base CX0 2 f15 d15 ["web", "hand", "p", "q"] spExch := ok_exch (k := 1) (F := A15.F) (FT := A6.F) (bT := A6.b) (gT := A6.g) (GT := G6.mono (by decide)) (mt := ztuple) (me := zenumerate) (mr := zrange) (ml := zlen)
  have G16 : FnOk P w K mg base CX0 2 f16 d16 ["web", "many"] spRows := ok_rows (k := 1) (F := A16.F) (FS := A7.F) (bS := A7.b) (gS := A7.g) (GS := G7.mono (by decide)) (mr := zrange)
  have G17 : FnOk P w K mg base CX0 2 f17 d17 ["_law_box_here", "_law_many"] spShuf := ok_shuf (k := 1) (F := A17.F) (FT := A9.F) (bT := A9.b) (gT := A9.g) (GT := G9.mono (by decide)) (mli := zlist) (mr := zrange)
  have G18 : FnOk P w K mg base CX0 2 f18 d18 ["_law_box_here", "_law_many"] spMarks := ok_marks (k := 1) (F := A18.F) (FT := A9.F) (bT := A9.b) (gT := A9.g) (GT := G9.mono (by decide)) (mr := zrange)
  have G19 : FnOk P w K mg base CX0 2 f19 d19 ["_law_box_here", "_law_many", "_law_room"] spTies := ok_ties (k := 1) (F := A19.F) (FT := A9.F) (bT := A9.b) (gT := A9.g) (GT := G9.mono (by decide)) (mr := zrange) (ml := zlen)
  have G20 : FnOk P w K mg base CX0 3 f20 d20 ["web", "turn"] spNumAt := ok_numAt (k := 2) (F := A20.F) (FB := A13.F) (bB := A13.b) (gB := A13.g) (GB := G13.mono (by decide)) (FO := A14.F) (bO := A14.b) (gO := A14.g) (GO := G14.mono (by decide)) (mr := zrange)
  have G21 : FnOk P w K mg base CX0 3 f21 d21 ["web"] spStays := ok_stays (k := 2) (F := A21.F) (FB := A13.F) (bB := A13.b) (gB := A13.g) (GB := G13.mono (by decide)) (FO := A14.F) (bO := A14.b) (gO := A14.g) (GO := G14.mono (by decide))
  have G22 : FnOk P w K mg base CX0 3 f22 d22 ["web", "row"] spExAll := ok_exBy (k := 2) (F := A22.F) (FX := A15.F) (bX := A15.b) (gX := A15.g) (GX := G15.mono (by decide))
  have G23 : FnOk P w K mg base CX0 3 f23 d23 ["_law_box_here", "_law_most", "_law_room"] spPlain := ok_plain (k := 2) (F := A23.F) (FT := A9.F) (bT := A9.b) (gT := A9.g) (GT := G9.mono (by decide)) (FM := A18.F) (bM := A18.b) (gM := A18.g) (GM := G18.mono (by decide)) (FI := A19.F) (bI := A19.b) (gI := A19.g) (GI := G19.mono (by decide)) (FS := A17.F) (bS := A17.b) (gS := A17.g) (GS := G17.mono (by decide)) (mt := ztuple) (mz := zzip)
  have G24 : FnOk P w K mg base CX0 3 f24 d24 ["_law_box_here", "_law_web_here", "_law_sheets"] spTurn := ok_turn (k := 2) (F := A24.F) (FT := A9.F) (bT := A9.b) (gT := A9.g) (GT := G9.mono (by decide)) (FS := A17.F) (bS := A17.b) (gS := A17.g) (GS := G17.mono (by decide)) (mli := zlist) (mr := zrange) (me := zenumerate)
  have G25 : FnOk P w K mg base CX0 3 f25 d25 ["_law_web_here", "_law_row"] spExAll := ok_ldone (k := 2) (F := A25.F) (FX := A15.F) (bX := A15.b) (gX := A15.g) (GX := G15.mono (by decide))
  have G26 : FnOk P w K mg base CX0 4 f26 d26 ["web"] spBeneath := ok_beneath (k := 3) (F := A26.F) (FN := A20.F) (bN := A20.b) (gN := A20.g) (GN := G20.mono (by decide)) (FS := A21.F) (bS := A21.b) (gS := A21.g) (GS := G21.mono (by decide)) (FL := A3.F) (bL := A3.b) (gL := A3.g) (GL := G3.mono (by decide))
  have G27 : FnOk P w K mg base CX0 4 f27 d27 ["_law_box_here", "_law_web_here", "_law_sheets"] spCov := ok_cov (k := 3) (F := A27.F) (FU := A24.F) (bU := A24.b) (gU := A24.g) (GU := G24.mono (by decide)) (FS := A17.F) (bS := A17.b) (gS := A17.g) (GS := G17.mono (by decide)) (FR := A10.F) (bR := A10.b) (gR := A10.g) (GR := G10.mono (by decide)) (mt := ztuple) (ml := zlen) (me := zenumerate)
  have G28 : FnOk P w K mg base CX0 5 f28 d28 ["web"] spOwn := ok_own (k := 4) (F := A28.F) (FB := A26.F) (bB := A26.b) (gB := A26.g) (GB := G26.mono (by decide)) (ml := zlen)
  have G29 : FnOk P w K mg base CX0 5 f29 d29 ["_law_box_here", "_law_most", "_law_room"] spWeb := ok_web (k := 4) (F := A29.F) (FT := A9.F) (bT := A9.b) (gT := A9.g) (GT := G9.mono (by decide)) (FP := A23.F) (bP := A23.b) (gP := A23.g) (GP := G23.mono (by decide)) (FC := A27.F) (bC := A27.b) (gC := A27.g) (GC := G27.mono (by decide)) (mn := zmin) (mx := zmax)
  have G30 : FnOk P w K mg base CX0 6 f30 d30 ["web"] spFew := ok_few (k := 5) (F := A30.F) (FR := A16.F) (bR := A16.b) (gR := A16.g) (GR := G16.mono (by decide)) (FO := A28.F) (bO := A28.b) (gO := A28.g) (GO := G28.mono (by decide)) (FX := A22.F) (bX := A22.b) (gX := A22.g) (GX := G22.mono (by decide)) (mr := zrange) (gM := gMost)
  have G31 : FnOk P w K mg base CX0 6 f31 d31 ["_law_box_here", "_law_most"] spSmall := ok_small (k := 5) (F := A31.F) (FT := A9.F) (bT := A9.b) (gT := A9.g) (GT := G9.mono (by decide)) (FP := A23.F) (bP := A23.b) (gP := A23.g) (GP := G23.mono (by decide)) (FC := A27.F) (bC := A27.b) (gC := A27.g) (GC := G27.mono (by decide)) (FW := A29.F) (bW := A29.b) (gW := A29.g) (GW := G29.mono (by decide)) (ml := zlen) (mx := zmax)
  exact ok_law (k := 6) (F := A32.F) (FB := A8.F) (bB := A8.b) (gB := A8.g) (GB := G8.mono (by decide)) (FT := A9.F) (bT := A9.b) (gT := A9.g) (GT := G9.mono (by decide)) (FS := A17.F) (bS := A17.b) (gS := A17.g) (GS := G17.mono (by decide)) (FSm := A31.F) (bSm := A31.b) (gSm := A31.g) (GSm := G31.mono (by decide)) (FF := A30.F) (bF := A30.b) (gF := A30.g) (GF := G30.mono (by decide)) (FR := A4.F) (bR := A4.b) (gR := A4.g) (GR := G4.mono (by decide)) (FC := A12.F) (bC := A12.b) (gC := A12.g) (GC := G12.mono (by decide)) (FD := A25.F) (bD := A25.b) (gD := A25.g) (GD := G25.mono (by decide)) (FG := A11.F) (bG := A11.b) (gG := A11.g) (GG := G11.mono (by decide)) (FM := A5.F) (bM := A5.b) (gM := A5.g) (GM := G5.mono (by decide)) (ml := zlen) (mt := ztuple) (mr := zrange)
theorem all_mk {l : PySem.W.OpenLaw} {w : World} {K : PySem.W.Frag} {h : Heap} {mg : Str → Option Value} {fa f1 f2 f3 f4 f5 f6 f7 f8 f9 f10 f11 f12 f13 f14 f15 f16 f17 f18 f19 f20 f21 f22 f23 f24 f25 f26 f27 f28 f29 f30 f31 f32 : Addr} (X : K.In h) (G : h.Ns mainGlobals mg) (hfa : mg "law" = some (.ref fa)) {tM : Tok}
    {od1 an1 od2 an2 od3 an3 od4 an4 od5 an5 od6 an6 od7 an7 od8 an8 od9 an9 od10 an10 od11 an11 od12 an12 od13 an13 od14 an14 od15 an15 od16 an16 od17 an17 od18 an18 od19 an19 od20 an20 od21 an21 od22 an22 od23 an23 od24 an24 od25 an25 od26 an26 od27 an27 od28 an28 od29 an29 od30 an30 od31 an31 od32 an32 : Option Addr} {sl1 sl2 sl3 sl4 sl5 sl6 sl7 sl8 sl9 sl10 sl11 sl12 sl13 sl14 sl15 sl16 sl17 sl18 sl19 sl20 sl21 sl22 sl23 sl24 sl25 sl26 sl27 sl28 sl29 sl30 sl31 sl32 : Array (Option Value)} {oc1 kV1 dc1 pm1 cd1 ct1 oc2 kV2 dc2 pm2 cd2 ct2 oc3 kV3 dc3 pm3 cd3 ct3 oc4 kV4 dc4 pm4 cd4 ct4 oc5 kV5 dc5 pm5 cd5 ct5 oc6 kV6 dc6 pm6 cd6 ct6 oc7 kV7 dc7 pm7 cd7 ct7 oc8 kV8 dc8 pm8 cd8 ct8 oc9 kV9 dc9 pm9 cd9 ct9 oc10 kV10 dc10 pm10 cd10 ct10 oc11 kV11 dc11 pm11 cd11 ct11 oc12 kV12 dc12 pm12 cd12 ct12 oc13 kV13 dc13 pm13 cd13 ct13 oc14 kV14 dc14 pm14 cd14 ct14 oc15 kV15 dc15 pm15 cd15 ct15 oc16 kV16 dc16 pm16 cd16 ct16 oc17 kV17 dc17 pm17 cd17 ct17 oc18 kV18 dc18 pm18 cd18 ct18 oc19 kV19 dc19 pm19 cd19 ct19 oc20 kV20 dc20 pm20 cd20 ct20 oc21 kV21 dc21 pm21 cd21 ct21 oc22 kV22 dc22 pm22 cd22 ct22 oc23 kV23 dc23 pm23 cd23 ct23 oc24 kV24 dc24 pm24 cd24 ct24 oc25 kV25 dc25 pm25 cd25 ct25 oc26 kV26 dc26 pm26 cd26 ct26 oc27 kV27 dc27 pm27 cd27 ct27 oc28 kV28 dc28 pm28 cd28 ct28 oc29 kV29 dc29 pm29 cd29 ct29 oc30 kV30 dc30 pm30 cd30 ct30 oc31 kV31 dc31 pm31 cd31 ct31 oc32 kV32 dc32 pm32 cd32 ct32 : Value}
    (a1 : PySem.W.nsIn K mainGlobals "heard_by" = some (some (.ref f1))) (l1 : K.lookup f1 = some ⟨oc1, od1, .func (PySem.W.fnOf "heard_by" "heard_by" (defArgs sHeard) (defBody sHeard) (defScope sHeard) .none kV1 dc1 pm1 an1 cd1 ct1), sl1⟩) (c1 : PySem.W.codeIn K cd1 "heard_by" = true) (k1 : PySem.W.keepIn K (.ref f1) = true)
    (a2 : PySem.W.nsIn K mainGlobals "places_of" = some (some (.ref f2))) (l2 : K.lookup f2 = some ⟨oc2, od2, .func (PySem.W.fnOf "places_of" "places_of" (defArgs sPlaces) (defBody sPlaces) (defScope sPlaces) .none kV2 dc2 pm2 an2 cd2 ct2), sl2⟩) (c2 : PySem.W.codeIn K cd2 "places_of" = true) (k2 : PySem.W.keepIn K (.ref f2) = true)
    (a3 : PySem.W.nsIn K mainGlobals "led_by" = some (some (.ref f3))) (l3 : K.lookup f3 = some ⟨oc3, od3, .func (PySem.W.fnOf "led_by" "led_by" (defArgs sLed) (defBody sLed) (defScope sLed) .none kV3 dc3 pm3 an3 cd3 ct3), sl3⟩) (c3 : PySem.W.codeIn K cd3 "led_by" = true) (k3 : PySem.W.keepIn K (.ref f3) = true)
    (a4 : PySem.W.nsIn K mainGlobals "renamed" = some (some (.ref f4))) (l4 : K.lookup f4 = some ⟨oc4, od4, .func (PySem.W.fnOf "renamed" "renamed" (defArgs sRen) (defBody sRen) (defScope sRen) .none kV4 dc4 pm4 an4 cd4 ct4), sl4⟩) (c4 : PySem.W.codeIn K cd4 "renamed" = true) (k4 : PySem.W.keepIn K (.ref f4) = true)
    (a5 : PySem.W.nsIn K mainGlobals "marked" = some (some (.ref f5))) (l5 : K.lookup f5 = some ⟨oc5, od5, .func (PySem.W.fnOf "marked" "marked" (defArgs sMarked) (defBody sMarked) (defScope sMarked) .none kV5 dc5 pm5 an5 cd5 ct5), sl5⟩) (c5 : PySem.W.codeIn K cd5 "marked" = true) (k5 : PySem.W.keepIn K (.ref f5) = true)
    (a6 : PySem.W.nsIn K mainGlobals "turned_peg" = some (some (.ref f6))) (l6 : K.lookup f6 = some ⟨oc6, od6, .func (PySem.W.fnOf "turned_peg" "turned_peg" (defArgs sTurned) (defBody sTurned) (defScope sTurned) .none kV6 dc6 pm6 an6 cd6 ct6), sl6⟩) (c6 : PySem.W.codeIn K cd6 "turned_peg" = true) (k6 : PySem.W.keepIn K (.ref f6) = true)
    (a7 : PySem.W.nsIn K mainGlobals "single_ones" = some (some (.ref f7))) (l7 : K.lookup f7 = some ⟨oc7, od7, .func (PySem.W.fnOf "single_ones" "single_ones" (defArgs sSing) (defBody sSing) (defScope sSing) .none kV7 dc7 pm7 an7 cd7 ct7), sl7⟩) (c7 : PySem.W.codeIn K cd7 "single_ones" = true) (k7 : PySem.W.keepIn K (.ref f7) = true)
    (a8 : PySem.W.nsIn K mainGlobals "_law_box" = some (some (.ref f8))) (l8 : K.lookup f8 = some ⟨oc8, od8, .func (PySem.W.fnOf "_law_box" "_law_box" (defArgs sBox) (defBody sBox) (defScope sBox) .none kV8 dc8 pm8 an8 cd8 ct8), sl8⟩) (c8 : PySem.W.codeIn K cd8 "_law_box" = true) (k8 : PySem.W.keepIn K (.ref f8) = true)
    (a9 : PySem.W.nsIn K mainGlobals "_law_take" = some (some (.ref f9))) (l9 : K.lookup f9 = some ⟨oc9, od9, .func (PySem.W.fnOf "_law_take" "_law_take" (defArgs sTake) (defBody sTake) (defScope sTake) .none kV9 dc9 pm9 an9 cd9 ct9), sl9⟩) (c9 : PySem.W.codeIn K cd9 "_law_take" = true) (k9 : PySem.W.keepIn K (.ref f9) = true)
    (a10 : PySem.W.nsIn K mainGlobals "_law_renamed" = some (some (.ref f10))) (l10 : K.lookup f10 = some ⟨oc10, od10, .func (PySem.W.fnOf "_law_renamed" "_law_renamed" (defArgs sLRen) (defBody sLRen) (defScope sLRen) .none kV10 dc10 pm10 an10 cd10 ct10), sl10⟩) (c10 : PySem.W.codeIn K cd10 "_law_renamed" = true) (k10 : PySem.W.keepIn K (.ref f10) = true)
    (a11 : PySem.W.nsIn K mainGlobals "_law_singles" = some (some (.ref f11))) (l11 : K.lookup f11 = some ⟨oc11, od11, .func (PySem.W.fnOf "_law_singles" "_law_singles" (defArgs sLSing) (defBody sLSing) (defScope sLSing) .none kV11 dc11 pm11 an11 cd11 ct11), sl11⟩) (c11 : PySem.W.codeIn K cd11 "_law_singles" = true) (k11 : PySem.W.keepIn K (.ref f11) = true)
    (a12 : PySem.W.nsIn K mainGlobals "_law_count" = some (some (.ref f12))) (l12 : K.lookup f12 = some ⟨oc12, od12, .func (PySem.W.fnOf "_law_count" "_law_count" (defArgs sCnt) (defBody sCnt) (defScope sCnt) .none kV12 dc12 pm12 an12 cd12 ct12), sl12⟩) (c12 : PySem.W.codeIn K cd12 "_law_count" = true) (k12 : PySem.W.keepIn K (.ref f12) = true)
    (a13 : PySem.W.nsIn K mainGlobals "begun" = some (some (.ref f13))) (l13 : K.lookup f13 = some ⟨oc13, od13, .func (PySem.W.fnOf "begun" "begun" (defArgs sBegun) (defBody sBegun) (defScope sBegun) .none kV13 dc13 pm13 an13 cd13 ct13), sl13⟩) (c13 : PySem.W.codeIn K cd13 "begun" = true) (k13 : PySem.W.keepIn K (.ref f13) = true)
    (a14 : PySem.W.nsIn K mainGlobals "onward" = some (some (.ref f14))) (l14 : K.lookup f14 = some ⟨oc14, od14, .func (PySem.W.fnOf "onward" "onward" (defArgs sOnward) (defBody sOnward) (defScope sOnward) .none kV14 dc14 pm14 an14 cd14 ct14), sl14⟩) (c14 : PySem.W.codeIn K cd14 "onward" = true) (k14 : PySem.W.keepIn K (.ref f14) = true)
    (a15 : PySem.W.nsIn K mainGlobals "exchanged" = some (some (.ref f15))) (l15 : K.lookup f15 = some ⟨oc15, od15, .func (PySem.W.fnOf "exchanged" "exchanged" (defArgs sExch) (defBody sExch) (defScope sExch) .none kV15 dc15 pm15 an15 cd15 ct15), sl15⟩) (c15 : PySem.W.codeIn K cd15 "exchanged" = true) (k15 : PySem.W.keepIn K (.ref f15) = true)
    (a16 : PySem.W.nsIn K mainGlobals "rows_of" = some (some (.ref f16))) (l16 : K.lookup f16 = some ⟨oc16, od16, .func (PySem.W.fnOf "rows_of" "rows_of" (defArgs sRows) (defBody sRows) (defScope sRows) .none kV16 dc16 pm16 an16 cd16 ct16), sl16⟩) (c16 : PySem.W.codeIn K cd16 "rows_of" = true) (k16 : PySem.W.keepIn K (.ref f16) = true)
    (a17 : PySem.W.nsIn K mainGlobals "_law_shuffled" = some (some (.ref f17))) (l17 : K.lookup f17 = some ⟨oc17, od17, .func (PySem.W.fnOf "_law_shuffled" "_law_shuffled" (defArgs sShuf) (defBody sShuf) (defScope sShuf) .none kV17 dc17 pm17 an17 cd17 ct17), sl17⟩) (c17 : PySem.W.codeIn K cd17 "_law_shuffled" = true) (k17 : PySem.W.keepIn K (.ref f17) = true)
    (a18 : PySem.W.nsIn K mainGlobals "_law_marks" = some (some (.ref f18))) (l18 : K.lookup f18 = some ⟨oc18, od18, .func (PySem.W.fnOf "_law_marks" "_law_marks" (defArgs sMarks) (defBody sMarks) (defScope sMarks) .none kV18 dc18 pm18 an18 cd18 ct18), sl18⟩) (c18 : PySem.W.codeIn K cd18 "_law_marks" = true) (k18 : PySem.W.keepIn K (.ref f18) = true)
    (a19 : PySem.W.nsIn K mainGlobals "_law_ties" = some (some (.ref f19))) (l19 : K.lookup f19 = some ⟨oc19, od19, .func (PySem.W.fnOf "_law_ties" "_law_ties" (defArgs sTies) (defBody sTies) (defScope sTies) .none kV19 dc19 pm19 an19 cd19 ct19), sl19⟩) (c19 : PySem.W.codeIn K cd19 "_law_ties" = true) (k19 : PySem.W.keepIn K (.ref f19) = true)
    (a20 : PySem.W.nsIn K mainGlobals "numbers_at" = some (some (.ref f20))) (l20 : K.lookup f20 = some ⟨oc20, od20, .func (PySem.W.fnOf "numbers_at" "numbers_at" (defArgs sNumAt) (defBody sNumAt) (defScope sNumAt) .none kV20 dc20 pm20 an20 cd20 ct20), sl20⟩) (c20 : PySem.W.codeIn K cd20 "numbers_at" = true) (k20 : PySem.W.keepIn K (.ref f20) = true)
    (a21 : PySem.W.nsIn K mainGlobals "stays_from" = some (some (.ref f21))) (l21 : K.lookup f21 = some ⟨oc21, od21, .func (PySem.W.fnOf "stays_from" "stays_from" (defArgs sStays) (defBody sStays) (defScope sStays) .none kV21 dc21 pm21 an21 cd21 ct21), sl21⟩) (c21 : PySem.W.codeIn K cd21 "stays_from" = true) (k21 : PySem.W.keepIn K (.ref f21) = true)
    (a22 : PySem.W.nsIn K mainGlobals "exchanged_by" = some (some (.ref f22))) (l22 : K.lookup f22 = some ⟨oc22, od22, .func (PySem.W.fnOf "exchanged_by" "exchanged_by" (defArgs sExBy) (defBody sExBy) (defScope sExBy) .none kV22 dc22 pm22 an22 cd22 ct22), sl22⟩) (c22 : PySem.W.codeIn K cd22 "exchanged_by" = true) (k22 : PySem.W.keepIn K (.ref f22) = true)
    (a23 : PySem.W.nsIn K mainGlobals "_law_plain_web" = some (some (.ref f23))) (l23 : K.lookup f23 = some ⟨oc23, od23, .func (PySem.W.fnOf "_law_plain_web" "_law_plain_web" (defArgs sPlain) (defBody sPlain) (defScope sPlain) .none kV23 dc23 pm23 an23 cd23 ct23), sl23⟩) (c23 : PySem.W.codeIn K cd23 "_law_plain_web" = true) (k23 : PySem.W.keepIn K (.ref f23) = true)
    (a24 : PySem.W.nsIn K mainGlobals "_law_turnings" = some (some (.ref f24))) (l24 : K.lookup f24 = some ⟨oc24, od24, .func (PySem.W.fnOf "_law_turnings" "_law_turnings" (defArgs sTurn) (defBody sTurn) (defScope sTurn) .none kV24 dc24 pm24 an24 cd24 ct24), sl24⟩) (c24 : PySem.W.codeIn K cd24 "_law_turnings" = true) (k24 : PySem.W.keepIn K (.ref f24) = true)
    (a25 : PySem.W.nsIn K mainGlobals "_law_done_all" = some (some (.ref f25))) (l25 : K.lookup f25 = some ⟨oc25, od25, .func (PySem.W.fnOf "_law_done_all" "_law_done_all" (defArgs sLDone) (defBody sLDone) (defScope sLDone) .none kV25 dc25 pm25 an25 cd25 ct25), sl25⟩) (c25 : PySem.W.codeIn K cd25 "_law_done_all" = true) (k25 : PySem.W.keepIn K (.ref f25) = true)
    (a26 : PySem.W.nsIn K mainGlobals "beneath" = some (some (.ref f26))) (l26 : K.lookup f26 = some ⟨oc26, od26, .func (PySem.W.fnOf "beneath" "beneath" (defArgs sBeneath) (defBody sBeneath) (defScope sBeneath) .none kV26 dc26 pm26 an26 cd26 ct26), sl26⟩) (c26 : PySem.W.codeIn K cd26 "beneath" = true) (k26 : PySem.W.keepIn K (.ref f26) = true)
    (a27 : PySem.W.nsIn K mainGlobals "_law_cover" = some (some (.ref f27))) (l27 : K.lookup f27 = some ⟨oc27, od27, .func (PySem.W.fnOf "_law_cover" "_law_cover" (defArgs sCov) (defBody sCov) (defScope sCov) .none kV27 dc27 pm27 an27 cd27 ct27), sl27⟩) (c27 : PySem.W.codeIn K cd27 "_law_cover" = true) (k27 : PySem.W.keepIn K (.ref f27) = true)
    (a28 : PySem.W.nsIn K mainGlobals "is_own" = some (some (.ref f28))) (l28 : K.lookup f28 = some ⟨oc28, od28, .func (PySem.W.fnOf "is_own" "is_own" (defArgs sOwn) (defBody sOwn) (defScope sOwn) .none kV28 dc28 pm28 an28 cd28 ct28), sl28⟩) (c28 : PySem.W.codeIn K cd28 "is_own" = true) (k28 : PySem.W.keepIn K (.ref f28) = true)
    (a29 : PySem.W.nsIn K mainGlobals "_law_web" = some (some (.ref f29))) (l29 : K.lookup f29 = some ⟨oc29, od29, .func (PySem.W.fnOf "_law_web" "_law_web" (defArgs sWeb) (defBody sWeb) (defScope sWeb) .none kV29 dc29 pm29 an29 cd29 ct29), sl29⟩) (c29 : PySem.W.codeIn K cd29 "_law_web" = true) (k29 : PySem.W.keepIn K (.ref f29) = true)
    (a30 : PySem.W.nsIn K mainGlobals "fewest" = some (some (.ref f30))) (l30 : K.lookup f30 = some ⟨oc30, od30, .func (PySem.W.fnOf "fewest" "fewest" (defArgs sFew) (defBody sFew) (defScope sFew) .none kV30 dc30 pm30 an30 cd30 ct30), sl30⟩) (c30 : PySem.W.codeIn K cd30 "fewest" = true) (k30 : PySem.W.keepIn K (.ref f30) = true)
    (a31 : PySem.W.nsIn K mainGlobals "_law_small" = some (some (.ref f31))) (l31 : K.lookup f31 = some ⟨oc31, od31, .func (PySem.W.fnOf "_law_small" "_law_small" (defArgs sSmall) (defBody sSmall) (defScope sSmall) .none kV31 dc31 pm31 an31 cd31 ct31), sl31⟩) (c31 : PySem.W.codeIn K cd31 "_law_small" = true) (k31 : PySem.W.keepIn K (.ref f31) = true)
    (a32 : PySem.W.nsIn K mainGlobals "law" = some (some (.ref f32))) (l32 : K.lookup f32 = some ⟨oc32, od32, .func (PySem.W.fnOf "law" "law" (defArgs sLaw) (defBody sLaw) (defScope sLaw) .none kV32 dc32 pm32 an32 cd32 ct32), sl32⟩) (c32 : PySem.W.codeIn K cd32 "law" = true) (k32 : PySem.W.keepIn K (.ref f32) = true)
    (aM : PySem.W.nsIn K mainGlobals "MOST" = some (some (.int 2 tM))) (zenumerate : PySem.W.nsIn K mainGlobals "enumerate" = some none) (zint : PySem.W.nsIn K mainGlobals "int" = some none) (zlen : PySem.W.nsIn K mainGlobals "len" = some none) (zlist : PySem.W.nsIn K mainGlobals "list" = some none) (zmax : PySem.W.nsIn K mainGlobals "max" = some none) (zmin : PySem.W.nsIn K mainGlobals "min" = some none) (zrange : PySem.W.nsIn K mainGlobals "range" = some none) (zset : PySem.W.nsIn K mainGlobals "set" = some none) (zsorted : PySem.W.nsIn K mainGlobals "sorted" = some none) (ztuple : PySem.W.nsIn K mainGlobals "tuple" = some none) (zzip : PySem.W.nsIn K mainGlobals "zip" = some none) :
    ∃ fd : FuncData, (∀ (s : Shared) (v : Value), BindsTo s fd ⟨[v], []⟩ [("_law_script", v)]) ∧ ∀ base : Heap, K.In base → base.Ns mainGlobals mg → FnOk l.prog w K mg base CX0 7 fa fd ["_law_script"] (spLaw K) := by
  have e := hfa.symm.trans (PySem.W.mg_of X G a32)
  cases e
  have F1 := fun_mk (st := sHeard) l1 c1 k1
  have B1 := F1.binds (ps := ["hand", "now"]) fun _ _ _ _ _ _ us hl => match us, hl with | [_, _], _ => rfl
  have F2 := fun_mk (st := sPlaces) l2 c2 k2
  have B2 := F2.binds (ps := ["keys"]) fun _ _ _ _ _ _ us hl => match us, hl with | [_], _ => rfl
  have F3 := fun_mk (st := sLed) l3 c3 k3
  have B3 := F3.binds (ps := ["web", "row"]) fun _ _ _ _ _ _ us hl => match us, hl with | [_, _], _ => rfl
  have F4 := fun_mk (st := sRen) l4 c4 k4
  have B4 := F4.binds (ps := ["web", "row"]) fun _ _ _ _ _ _ us hl => match us, hl with | [_, _], _ => rfl
  have F5 := fun_mk (st := sMarked) l5 c5 k5
  have B5 := F5.binds (ps := ["web", "hands", "mark"]) fun _ _ _ _ _ _ us hl => match us, hl with | [_, _, _], _ => rfl
  have F6 := fun_mk (st := sTurned) l6 c6 k6
  have B6 := F6.binds (ps := ["place", "hand", "p", "q"]) fun _ _ _ _ _ _ us hl => match us, hl with | [_, _, _, _], _ => rfl
  have F7 := fun_mk (st := sSing) l7 c7 k7
  have B7 := F7.binds (ps := ["web"]) fun _ _ _ _ _ _ us hl => match us, hl with | [_], _ => rfl
  have F8 := fun_mk (st := sBox) l8 c8 k8
  have B8 := F8.binds (ps := ["_law_script", "_law_k"]) fun _ _ _ _ _ _ us hl => match us, hl with | [_, _], _ => rfl
  have F9 := fun_mk (st := sTake) l9 c9 k9
  have B9 := F9.binds (ps := ["_law_box_here", "_law_wide"]) fun _ _ _ _ _ _ us hl => match us, hl with | [_, _], _ => rfl
  have F10 := fun_mk (st := sLRen) l10 c10 k10
  have B10 := F10.binds (ps := ["_law_web_here", "_law_row"]) fun _ _ _ _ _ _ us hl => match us, hl with | [_, _], _ => rfl
  have F11 := fun_mk (st := sLSing) l11 c11 k11
  have B11 := F11.binds (ps := ["_law_web_here"]) fun _ _ _ _ _ _ us hl => match us, hl with | [_], _ => rfl
  have F12 := fun_mk (st := sCnt) l12 c12 k12
  have B12 := F12.binds (ps := ["_law_found"]) fun _ _ _ _ _ _ us hl => match us, hl with | [_], _ => rfl
  have F13 := fun_mk (st := sBegun) l13 c13 k13
  have B13 := F13.binds (ps := ["web"]) fun _ _ _ _ _ _ us hl => match us, hl with | [_], _ => rfl
  have F14 := fun_mk (st := sOnward) l14 c14 k14
  have B14 := F14.binds (ps := ["web", "now"]) fun _ _ _ _ _ _ us hl => match us, hl with | [_, _], _ => rfl
  have F15 := fun_mk (st := sExch) l15 c15 k15
  have B15 := F15.binds (ps := ["web", "hand", "p", "q"]) fun _ _ _ _ _ _ us hl => match us, hl with | [_, _, _, _], _ => rfl
  have F16 := fun_mk (st := sRows) l16 c16 k16
  have B16 := F16.binds (ps := ["web", "many"]) fun _ _ _ _ _ _ us hl => match us, hl with | [_, _], _ => rfl
  have F17 := fun_mk (st := sShuf) l17 c17 k17
  have B17 := F17.binds (ps := ["_law_box_here", "_law_many"]) fun _ _ _ _ _ _ us hl => match us, hl with | [_, _], _ => rfl
  have F18 := fun_mk (st := sMarks) l18 c18 k18
  have B18 := F18.binds (ps := ["_law_box_here", "_law_many"]) fun _ _ _ _ _ _ us hl => match us, hl with | [_, _], _ => rfl
  have F19 := fun_mk (st := sTies) l19 c19 k19
  have B19 := F19.binds (ps := ["_law_box_here", "_law_many", "_law_room"]) fun _ _ _ _ _ _ us hl => match us, hl with | [_, _, _], _ => rfl
  have F20 := fun_mk (st := sNumAt) l20 c20 k20
  have B20 := F20.binds (ps := ["web", "turn"]) fun _ _ _ _ _ _ us hl => match us, hl with | [_, _], _ => rfl
  have F21 := fun_mk (st := sStays) l21 c21 k21
  have B21 := F21.binds (ps := ["web"]) fun _ _ _ _ _ _ us hl => match us, hl with | [_], _ => rfl
  have F22 := fun_mk (st := sExBy) l22 c22 k22
  have B22 := F22.binds (ps := ["web", "row"]) fun _ _ _ _ _ _ us hl => match us, hl with | [_, _], _ => rfl
  have F23 := fun_mk (st := sPlain) l23 c23 k23
  have B23 := F23.binds (ps := ["_law_box_here", "_law_most", "_law_room"]) fun _ _ _ _ _ _ us hl => match us, hl with | [_, _, _], _ => rfl
  have F24 := fun_mk (st := sTurn) l24 c24 k24
  have B24 := F24.binds (ps := ["_law_box_here", "_law_web_here", "_law_sheets"]) fun _ _ _ _ _ _ us hl => match us, hl with | [_, _, _], _ => rfl
  have F25 := fun_mk (st := sLDone) l25 c25 k25
  have B25 := F25.binds (ps := ["_law_web_here", "_law_row"]) fun _ _ _ _ _ _ us hl => match us, hl with | [_, _], _ => rfl
  have F26 := fun_mk (st := sBeneath) l26 c26 k26
  have B26 := F26.binds (ps := ["web"]) fun _ _ _ _ _ _ us hl => match us, hl with | [_], _ => rfl
  have F27 := fun_mk (st := sCov) l27 c27 k27
  have B27 := F27.binds (ps := ["_law_box_here", "_law_web_here", "_law_sheets"]) fun _ _ _ _ _ _ us hl => match us, hl with | [_, _, _], _ => rfl
  have F28 := fun_mk (st := sOwn) l28 c28 k28
  have B28 := F28.binds (ps := ["web"]) fun _ _ _ _ _ _ us hl => match us, hl with | [_], _ => rfl
  have F29 := fun_mk (st := sWeb) l29 c29 k29
  have B29 := F29.binds (ps := ["_law_box_here", "_law_most", "_law_room"]) fun _ _ _ _ _ _ us hl => match us, hl with | [_, _, _], _ => rfl
  have F30 := fun_mk (st := sFew) l30 c30 k30
  have B30 := F30.binds (ps := ["web"]) fun _ _ _ _ _ _ us hl => match us, hl with | [_], _ => rfl
  have F31 := fun_mk (st := sSmall) l31 c31 k31
  have B31 := F31.binds (ps := ["_law_box_here", "_law_most"]) fun _ _ _ _ _ _ us hl => match us, hl with | [_, _], _ => rfl
  have F32 := fun_mk (st := sLaw) l32 c32 k32
  have B32 := F32.binds (ps := ["_law_script"]) fun _ _ _ _ _ _ us hl => match us, hl with | [_], _ => rfl
  exact ⟨PySem.W.fnOf "law" "law" (defArgs sLaw) (defBody sLaw) (defScope sLaw) .none kV32 dc32 pm32 an32 cd32 ct32, fun s v => .of_eq rfl, fun base _ _ => all_ok ⟨F1, B1, PySem.W.mg_of X G a1⟩ ⟨F2, B2, PySem.W.mg_of X G a2⟩ ⟨F3, B3, PySem.W.mg_of X G a3⟩ ⟨F4, B4, PySem.W.mg_of X G a4⟩ ⟨F5, B5, PySem.W.mg_of X G a5⟩ ⟨F6, B6, PySem.W.mg_of X G a6⟩ ⟨F7, B7, PySem.W.mg_of X G a7⟩ ⟨F8, B8, PySem.W.mg_of X G a8⟩ ⟨F9, B9, PySem.W.mg_of X G a9⟩ ⟨F10, B10, PySem.W.mg_of X G a10⟩ ⟨F11, B11, PySem.W.mg_of X G a11⟩ ⟨F12, B12, PySem.W.mg_of X G a12⟩ ⟨F13, B13, PySem.W.mg_of X G a13⟩ ⟨F14, B14, PySem.W.mg_of X G a14⟩ ⟨F15, B15, PySem.W.mg_of X G a15⟩ ⟨F16, B16, PySem.W.mg_of X G a16⟩ ⟨F17, B17, PySem.W.mg_of X G a17⟩ ⟨F18, B18, PySem.W.mg_of X G a18⟩ ⟨F19, B19, PySem.W.mg_of X G a19⟩ ⟨F20, B20, PySem.W.mg_of X G a20⟩ ⟨F21, B21, PySem.W.mg_of X G a21⟩ ⟨F22, B22, PySem.W.mg_of X G a22⟩ ⟨F23, B23, PySem.W.mg_of X G a23⟩ ⟨F24, B24, PySem.W.mg_of X G a24⟩ ⟨F25, B25, PySem.W.mg_of X G a25⟩ ⟨F26, B26, PySem.W.mg_of X G a26⟩ ⟨F27, B27, PySem.W.mg_of X G a27⟩ ⟨F28, B28, PySem.W.mg_of X G a28⟩ ⟨F29, B29, PySem.W.mg_of X G a29⟩ ⟨F30, B30, PySem.W.mg_of X G a30⟩ ⟨F31, B31, PySem.W.mg_of X G a31⟩ ⟨F32, B32, PySem.W.mg_of X G a32⟩ (PySem.W.mg_of X G aM) (PySem.W.mg_none_of X G zenumerate) (PySem.W.mg_none_of X G zint) (PySem.W.mg_none_of X G zlen) (PySem.W.mg_none_of X G zlist) (PySem.W.mg_none_of X G zmax) (PySem.W.mg_none_of X G zmin) (PySem.W.mg_none_of X G zrange) (PySem.W.mg_none_of X G zset) (PySem.W.mg_none_of X G zsorted) (PySem.W.mg_none_of X G ztuple) (PySem.W.mg_none_of X G zzip)⟩
end Nl
end

set_option Elab.async false
set_option linter.all false
set_option maxRecDepth 100000
open PySem PySem.W PyProof.Rows
set_option maxHeartbeats 0 in
theorem PySem.Challenge.cw_namelesshall_k51_whole_exchanges_step_by_holds : PySem.Challenge.rw_namelesshall_k51_whole_exchanges_step_by.Holds := by
  w_on; o_law; k_head; (case hw => w_witness2)
  k_fill
  refine L2.walk_of (l := PySem.Challenge.rw_namelesshall_k51_whole_exchanges_step_by) (n := 63) (k := 7) (x := "_law_script") (CX := fun _ => L2.CX0) (sp := fun w => Nl.spLaw _) rfl (by decide) rfl ⟨rfl, by decide, by decide⟩ (fun w h Y => PySem.W.kIn_of Y) ?F (fun _ _ a ns hl _ hS => ⟨a, ns, rfl, hS, hl, fun _ => rfl⟩) (fun _ _ _ _ _ h => h)
  case F =>
    intro w mg fa h KX G hmg
    refine' Nl.all_mk KX G hmg ?a1 ?l1 ?c1 ?k1 ?a2 ?l2 ?c2 ?k2 ?a3 ?l3 ?c3 ?k3 ?a4 ?l4 ?c4 ?k4 ?a5 ?l5 ?c5 ?k5 ?a6 ?l6 ?c6 ?k6 ?a7 ?l7 ?c7 ?k7 ?a8 ?l8 ?c8 ?k8 ?a9 ?l9 ?c9 ?k9 ?a10 ?l10 ?c10 ?k10 ?a11 ?l11 ?c11 ?k11 ?a12 ?l12 ?c12 ?k12 ?a13 ?l13 ?c13 ?k13 ?a14 ?l14 ?c14 ?k14 ?a15 ?l15 ?c15 ?k15 ?a16 ?l16 ?c16 ?k16 ?a17 ?l17 ?c17 ?k17 ?a18 ?l18 ?c18 ?k18 ?a19 ?l19 ?c19 ?k19 ?a20 ?l20 ?c20 ?k20 ?a21 ?l21 ?c21 ?k21 ?a22 ?l22 ?c22 ?k22 ?a23 ?l23 ?c23 ?k23 ?a24 ?l24 ?c24 ?k24 ?a25 ?l25 ?c25 ?k25 ?a26 ?l26 ?c26 ?k26 ?a27 ?l27 ?c27 ?k27 ?a28 ?l28 ?c28 ?k28 ?a29 ?l29 ?c29 ?k29 ?a30 ?l30 ?c30 ?k30 ?a31 ?l31 ?c31 ?k31 ?a32 ?l32 ?c32 ?k32 ?aM ?zenumerate ?zint ?zlen ?zlist ?zmax ?zmin ?zrange ?zset ?zsorted ?ztuple ?zzip
    (case a1 => k_is)
    (case l1 => k_is)
    (case c1 => k_is)
    (case k1 => k_is)
    (case a2 => k_is)
    (case l2 => k_is)
    (case c2 => k_is)
    (case k2 => k_is)
    (case a3 => k_is)
    (case l3 => k_is)
    (case c3 => k_is)
    (case k3 => k_is)
    (case a4 => k_is)
    (case l4 => k_is)
    (case c4 => k_is)
    (case k4 => k_is)
    (case a5 => k_is)
    (case l5 => k_is)
    (case c5 => k_is)
    (case k5 => k_is)
    (case a6 => k_is)
    (case l6 => k_is)
    (case c6 => k_is)
    (case k6 => k_is)
    (case a7 => k_is)
    (case l7 => k_is)
    (case c7 => k_is)
    (case k7 => k_is)
    (case a8 => k_is)
    (case l8 => k_is)
    (case c8 => k_is)
    (case k8 => k_is)
    (case a9 => k_is)
    (case l9 => k_is)
    (case c9 => k_is)
    (case k9 => k_is)
    (case a10 => k_is)
    (case l10 => k_is)
    (case c10 => k_is)
    (case k10 => k_is)
    (case a11 => k_is)
    (case l11 => k_is)
    (case c11 => k_is)
    (case k11 => k_is)
    (case a12 => k_is)
    (case l12 => k_is)
    (case c12 => k_is)
    (case k12 => k_is)
    (case a13 => k_is)
    (case l13 => k_is)
    (case c13 => k_is)
    (case k13 => k_is)
    (case a14 => k_is)
    (case l14 => k_is)
    (case c14 => k_is)
    (case k14 => k_is)
    (case a15 => k_is)
    (case l15 => k_is)
    (case c15 => k_is)
    (case k15 => k_is)
    (case a16 => k_is)
    (case l16 => k_is)
    (case c16 => k_is)
    (case k16 => k_is)
    (case a17 => k_is)
    (case l17 => k_is)
    (case c17 => k_is)
    (case k17 => k_is)
    (case a18 => k_is)
    (case l18 => k_is)
    (case c18 => k_is)
    (case k18 => k_is)
    (case a19 => k_is)
    (case l19 => k_is)
    (case c19 => k_is)
    (case k19 => k_is)
    (case a20 => k_is)
    (case l20 => k_is)
    (case c20 => k_is)
    (case k20 => k_is)
    (case a21 => k_is)
    (case l21 => k_is)
    (case c21 => k_is)
    (case k21 => k_is)
    (case a22 => k_is)
    (case l22 => k_is)
    (case c22 => k_is)
    (case k22 => k_is)
    (case a23 => k_is)
    (case l23 => k_is)
    (case c23 => k_is)
    (case k23 => k_is)
    (case a24 => k_is)
    (case l24 => k_is)
    (case c24 => k_is)
    (case k24 => k_is)
    (case a25 => k_is)
    (case l25 => k_is)
    (case c25 => k_is)
    (case k25 => k_is)
    (case a26 => k_is)
    (case l26 => k_is)
    (case c26 => k_is)
    (case k26 => k_is)
    (case a27 => k_is)
    (case l27 => k_is)
    (case c27 => k_is)
    (case k27 => k_is)
    (case a28 => k_is)
    (case l28 => k_is)
    (case c28 => k_is)
    (case k28 => k_is)
    (case a29 => k_is)
    (case l29 => k_is)
    (case c29 => k_is)
    (case k29 => k_is)
    (case a30 => k_is)
    (case l30 => k_is)
    (case c30 => k_is)
    (case k30 => k_is)
    (case a31 => k_is)
    (case l31 => k_is)
    (case c31 => k_is)
    (case k31 => k_is)
    (case a32 => k_is)
    (case l32 => k_is)
    (case c32 => k_is)
    (case k32 => k_is)
    (case aM => k_is)
    (case zenumerate => k_is)
    (case zint => k_is)
    (case zlen => k_is)
    (case zlist => k_is)
    (case zmax => k_is)
    (case zmin => k_is)
    (case zrange => k_is)
    (case zset => k_is)
    (case zsorted => k_is)
    (case ztuple => k_is)
    (case zzip => k_is)
